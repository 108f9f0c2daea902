import PyProof.Rows.All
import Wide.All
import OpenK.AllK
import Wide.FinOn
import HandS.ForMost
import KE.SortData
import HandS.Wide
import HandS.Deep
import HandS.IsInst
import HandS.TupAny
import HandS.TupMul
import HandS.Zip
import HandS.SortInts
import PyProof.ListMulRoad
import PyProof.FactsAll.tuple_2
import HandS.Flt
import KE.DatumOrd
import PyProof.ReprRoads
import HandS.Style
import KE.KRevSl
import HandS.Conv
import KE.KDictZip
import HandS.SetFor
import HandS.Strs
import HandS.Walk
import HandS.NoneIn
import KE.GoesZip
import KE.GoesEnum
import HandS.Defaults
import HandS.ExcCtx
import HandS.ExcInit
import HandS.ExcOwn
import KE.KExcIs
import HandS.ExcField
import HandS.HeadEnd
import HandS.Head0
import HandS.Head1
import HandS.Head2
import HandS.HeadHook1
import HandS.HeadHook2
import PyProof.ReprLen
import KE.KStateDown
import PySem.Challenge.RW_fullrooms_k13_fewest_told
set_option Elab.async false
set_option linter.all false
set_option maxRecDepth 100000
/-! MiniA: a small value language, its evaluator. -/
namespace MP
open PySem
abbrev SZ : Nat := 16777216
inductive Val where
  | non | bl (b : Bool) | int (i : Int) | str (s : Str) | tup (l : List Val) | lst (l : List Val) | dct0 | scr (l : List Int) | ref (n : Nat)
  deriving Inhabited
mutual
def toD : Val → PyData
  | .non => .none
  | .bl b => .bool b
  | .int i => .int i
  | .str s => .str s
  | .tup l => .tuple (toDL l)
  | .lst l => .list (toDL l)
  | .dct0 => .dict []
  | .scr _ => .none
  | .ref _ => .none
def toDL : List Val → List PyData
  | [] => []
  | v :: vs => toD v :: toDL vs
end
/-- no reference in it, at most n deep -/
def dle : Nat → Val → Bool
  | _, .non => true
  | _, .bl _ => true
  | _, .int _ => true
  | _, .str _ => true
  | _, .dct0 => true
  | 0, .tup l => l.isEmpty
  | 0, .lst l => l.isEmpty
  | n + 1, .tup l => l.all (dle n)
  | n + 1, .lst l => l.all (dle n)
  | _, .scr _ => false
  | _, .ref _ => false
/-- data that == may look at -/
def shp : Nat → Val → Bool
  | _, .non => true
  | _, .bl _ => true
  | _, .int _ => true
  | _, .str s => PyData.strOk s
  | 0, .tup l => l.isEmpty
  | 0, .lst l => l.isEmpty
  | n + 1, .tup l => l.all (shp n)
  | n + 1, .lst l => l.all (shp n)
  | _, .dct0 => false
  | _, .scr _ => false
  | _, .ref _ => false
def flat : Val → Bool
  | .non => true
  | .bl _ => true
  | .int _ => true
  | .str _ => true
  | _ => false
def eqv (a b : Val) : Bool := PyData.eqv (toD a) (toD b)
inductive Cell where
  | lst (l : List Val) | dct (l : List (Val × Val)) | dead
abbrev MH := List Cell
abbrev ME := List (Option Val)
inductive Res (α : Type) where
  | ok (a : α) (h : MH) | exc (c : Str) (f : List Val) (h : MH) | stuck
def Res.bind {α β : Type} (r : Res α) (f : α → MH → Res β) : Res β := match r with
  | .ok a h => f a h
  | .exc c x h => .exc c x h
  | .stuck => .stuck
@[simp] theorem bind_ok {α β : Type} (a : α) (h : MH) (f : α → MH → Res β) : (Res.ok a h).bind f = f a h := rfl
@[simp] theorem bind_stuck {α β : Type} (f : α → MH → Res β) : (Res.stuck : Res α).bind f = .stuck := rfl
theorem bind_eq_ok {α β : Type} {r : Res α} {f : α → MH → Res β} {b : β} {h' : MH} (e : r.bind f = .ok b h') : ∃ a h, r = .ok a h ∧ f a h = .ok b h' := by
  cases r with
  | ok a h => exact ⟨a, h, rfl, e⟩
  | exc c x h => cases e
  | stuck => cases e
def ofO {α : Type} (r : Option α) (h : MH) : Res α := match r with
  | some a => .ok a h
  | none => .stuck
@[simp] theorem ofO_some {α : Type} (a : α) (h : MH) : ofO (some a) h = .ok a h := rfl
theorem ofO_eq_ok {α : Type} {r : Option α} {h h' : MH} {a : α} (e : ofO r h = .ok a h') : r = some a ∧ h' = h := by
  cases r with
  | none => cases e
  | some b => cases e; exact ⟨rfl, rfl⟩
/-- a value, or a new list -/
inductive RV where
  | v (x : Val) | nl (l : List Val)
def fin (bx : Bool) (r : RV) (h : MH) : Res Val := match r with
  | .v x => .ok x h
  | .nl l => if l.length ≤ SZ then (if bx then .ok (.ref h.length) (h ++ [.lst l]) else .ok (.lst l) h) else .stuck
/-- what a list holds -/
def lits (v : Val) (h : MH) : Option (List Val) := match v with
  | .lst l => some l
  | .ref n => match h[n]? with
    | some (.lst l) => some l
    | _ => none
  | _ => none
def sits (v : Val) (h : MH) : Option (List Val) := match v with
  | .tup l => some l
  | _ => lits v h
/-- may be shown -/
def sho : Nat → Val → Bool
  | _, .non => true
  | _, .bl _ => true
  | _, .int _ => true
  | _, .str _ => true
  | _, .dct0 => true
  | 0, .tup l => l.isEmpty
  | 0, .lst l => l.isEmpty
  | n + 1, .tup l => l.all (sho n)
  | n + 1, .lst l => l.all (sho n)
  | _, .scr _ => false
  | _, .ref _ => false
/-- as data -/
def pd (v : Val) (h : MH) : Option PyData := match v with
  | .ref n => match h[n]? with
    | some (.lst l) => if l.all (sho 59) then some (.list (toDL l)) else none
    | _ => none
  | v => if sho 60 v then some (toD v) else none
/-- as data for == -/
def pe (v : Val) (h : MH) : Option PyData := match v with
  | .ref n => match h[n]? with
    | some (.lst l) => if l.all (shp 59) then some (.list (toDL l)) else none
    | _ => none
  | v => if shp 60 v then some (toD v) else none
inductive Bop where | add | sub | mul | fdiv | mod | pow
  deriving DecidableEq
inductive Cop where | eq | ne | lt | le | gt | ge | inn | nin
  deriving DecidableEq
def mulOk (i j : Int) : Bool := (decide (-(2 ^ 64) < i) && decide (i < 2 ^ 64)) || (decide (-(2 ^ 64) < j) && decide (j < 2 ^ 64))
def rep (l : List Val) (k : Int) : List Val := (List.replicate k.toNat l).flatten
def bin (o : Bop) (a b : Val) (h : MH) : Option RV := match o with
  | .add => match a, b with
    | .int i, .int j => some (.v (.int (i + j)))
    | .str x, .str y => if x.length + y.length ≤ SZ then some (.v (.str (x ++ y))) else none
    | .tup x, .tup y => if x.length + y.length ≤ SZ then some (.v (.tup (x ++ y))) else none
    | a, b => match lits a h, lits b h with
      | some x, some y => some (.nl (x ++ y))
      | _, _ => none
  | .sub => match a, b with
    | .int i, .int j => some (.v (.int (i - j)))
    | _, _ => none
  | .mul => match a, b with
    | .int i, .int j => if mulOk i j then some (.v (.int (i * j))) else none
    | .tup x, .int k => if -(2 ^ 63) ≤ k ∧ k < 2 ^ 63 ∧ (x.isEmpty = true ∨ k ≤ 1 ∨ k ≤ 1000 ∧ x.length ≤ 1000) then some (.v (.tup (rep x k))) else none
    | a, .int k => match lits a h with
      | some x => if -(2 ^ 63) ≤ k ∧ k < 2 ^ 63 ∧ x.length * k.toNat ≤ SZ then some (.nl (rep x k)) else none
      | none => none
    | _, _ => none
  | .fdiv => match a, b with
    | .int i, .int j => if 0 < j ∧ j < 2 ^ 1000 then some (.v (.int (i / j))) else none
    | _, _ => none
  | .mod => match a, b with
    | .int i, .int j => if 0 < j then some (.v (.int (i % j))) else none
    | _, _ => none
  | .pow => match a, b with
    | .int i, .int j => if 0 ≤ j ∧ j ≤ 1000000 ∧ i.natAbs < 2 ^ 64 then some (.v (.int (i ^ j.toNat))) else none
    | _, _ => none
def ipI (o : Bop) (a b : Val) : Option Val := match o, a, b with
  | .add, .int i, .int j => some (.int (i + j))
  | .sub, .int i, .int j => some (.int (i - j))
  | _, _, _ => none
def inl (a : PyData) (l : List Val) : Bool := l.any fun z => PyData.eqv (toD z) a
def cmpIn (a b : Val) (h : MH) : Option Bool := match b with
  | .tup l => if flat a && l.all flat then some (inl (toD a) l) else match pe a h with
    | some d => if l.all (shp 59) then some (inl d l) else none
    | none => none
  | b => match pe a h, lits b h with
    | some d, some l => if l.all (shp 59) then some (inl d l) else none
    | _, _ => none
/-- beside an empty one -/
def cmpE0 (a b : Val) (h : MH) : Option Bool := match b with
  | .tup [] => match a with
    | .tup l => some l.isEmpty
    | _ => none
  | .lst [] => (lits a h).map (·.isEmpty)
  | _ => none
def cmpEq (a b : Val) (h : MH) : Option Bool := match a, b with
  | .str x, .str y => some (x == y)
  | a, b => match cmpE0 a b h with
    | some c => some c
    | none => match pe a h, pe b h with
      | some x, some y => some (PyData.eqv x y)
      | _, _ => none
def cmp (o : Cop) (a b : Val) (h : MH) : Option Bool := match o with
  | .eq => cmpEq a b h
  | .ne => (cmpEq a b h).map (!·)
  | .lt => match a, b with
    | .int i, .int j => some (decide (i < j))
    | _, _ => none
  | .le => match a, b with
    | .int i, .int j => some (decide (i ≤ j))
    | _, _ => none
  | .gt => match a, b with
    | .int i, .int j => some (decide (j < i))
    | _, _ => none
  | .ge => match a, b with
    | .int i, .int j => some (decide (j ≤ i))
    | _, _ => none
  | .inn => cmpIn a b h
  | .nin => (cmpIn a b h).map (!·)
/-- the i-th place of n -/
def ixm (n : Nat) (i : Int) : Option Nat := if 0 ≤ i then (if i < n then some i.toNat else none) else if -(n : Int) ≤ i then some (i + n).toNat else none
def ixv (l : List Val) (i : Int) : Option Val := (ixm l.length i).bind fun j => l[j]?
/-- a slice's bound -/
def six (n d : Nat) (i : Option Int) : Nat := match i with
  | none => d
  | some i => if i < 0 then (i + n).toNat else min i.toNat n
def cut (l : List Val) (lo hi : Option Int) : List Val := (l.drop (six l.length 0 lo)).take (six l.length l.length hi - six l.length 0 lo)
def slc (a : Val) (lo hi : Option Int) (h : MH) : Option RV := match a with
  | .tup l => some (.v (.tup (cut l lo hi)))
  | a => match lits a h with
    | some l => some (.nl (cut l lo hi))
    | none => none
inductive Ty where | int | bool | str | tuple | list | dict
  deriving DecidableEq
def isi (v : Val) (t : Ty) (h : MH) : Option Bool := match v with
  | .non => some false
  | .bl _ => some (t == .bool || t == .int)
  | .int _ => some (t == .int)
  | .str _ => some (t == .str)
  | .tup _ => some (t == .tuple)
  | .lst _ => some (t == .list)
  | .dct0 => some (t == .dict)
  | .ref n => match h[n]? with
    | some (.lst _) => some (t == .list)
    | _ => none
  | .scr _ => none
def intsOf : List Val → Option (List Int)
  | [] => some []
  | .int i :: l => (intsOf l).map (i :: ·)
  | _ :: _ => none
def blsOf : List Val → Option (List Bool)
  | [] => some []
  | .bl i :: l => (blsOf l).map (i :: ·)
  | _ :: _ => none
def insI (x : Int) : List Int → List Int
  | [] => [x]
  | y :: l => if x ≤ y then x :: y :: l else y :: insI x l
def sortI : List Int → List Int
  | [] => []
  | x :: l => insI x (sortI l)
def minI : List Int → Option Int
  | [] => none
  | x :: l => some (l.foldl (fun a b => if b < a then b else a) x)
def maxI : List Int → Option Int
  | [] => none
  | x :: l => some (l.foldl (fun a b => if b > a then b else a) x)
inductive Bi where | len | abs | min2 | max2 | max3 | min3 | minL | maxL | sum | all | any | sorted | tuple | list | repr | int | str | zipl | rngl | sset | sortD
  deriving DecidableEq
def rangeV (i j : Int) : List Val := (List.range (j - i).toNat).map fun (k : Nat) => .int (i + k)
def zipV (l m : List Val) : List Val := (l.zip m).map fun p => .tup [p.1, p.2]
/-- rising, each once -/
def insU (x : Int) : List Int → List Int
  | [] => [x]
  | y :: l => if x < y then x :: y :: l else if x = y then y :: l else y :: insU x l
def dedS (l : List Int) : List Int := l.foldr insU []
/-- a tuple with an item -/
def isT1 : Val → Bool
  | .tup (_ :: _) => true
  | _ => false
def alikeL (l : List Val) : Bool := l.all fun a => l.all fun b => PySem.W.alike (toD a) (toD b)
def sortD (l : List Val) : List Val := l.mergeSort fun a b => !PySem.W.dataLt (toD b) (toD a)
def bi (f : Bi) (vs : List Val) (h : MH) : Option RV := match f, vs with
  | .len, [.str s] => if s.length ≤ SZ then some (.v (.int s.length)) else none
  | .len, [v] => (sits v h).map fun l => .v (.int l.length)
  | .abs, [.int i] => some (.v (.int (if i < 0 then -i else i)))
  | .min2, [.int i, .int j] => some (.v (.int (if j < i then j else i)))
  | .max2, [.int i, .int j] => some (.v (.int (if j > i then j else i)))
  | .max3, [.int i, .int j, .int k] => some (.v (.int (max (max i j) k)))
  | .min3, [.int i, .int j, .int k] => some (.v (.int (min (min i j) k)))
  | .minL, [v] => (sits v h).bind fun l => (intsOf l).bind fun ns => (minI ns).map fun m => .v (.int m)
  | .maxL, [v] => (lits v h).bind fun l => (intsOf l).bind fun ns => (maxI ns).map fun m => .v (.int m)
  | .sum, [v] => (sits v h).bind fun l => (intsOf l).map fun ns => .v (.int ns.sum)
  | .all, [v] => (lits v h).bind fun l => (blsOf l).map fun bs => .v (.bl (bs.all id))
  | .any, [v] => (lits v h).bind fun l => (blsOf l).map fun bs => .v (.bl (bs.any id))
  | .sorted, [v] => (lits v h).bind fun l => (intsOf l).map fun ns => .nl ((sortI ns).map .int)
  | .tuple, [v] => (sits v h).map fun l => .v (.tup l)
  | .list, [v] => (sits v h).map fun l => .nl l
  | .int, [.int i] => some (.v (.int i))
  | .int, [.bl b] => some (.v (.int (if b then 1 else 0)))
  | .str, [.int i] => if i.natAbs < 2 ^ 1900 then some (.v (.str (toString i))) else none
  | .rngl, [.int n] => if -(2 ^ 62) ≤ n ∧ n ≤ 16777216 then some (.nl (rangeV 0 n)) else none
  | .sset, [v] => (lits v h).bind fun l => (intsOf l).bind fun ns => if ns.length < 64 then some (.nl ((dedS ns).map .int)) else none
  | .sortD, [v] => (lits v h).bind fun l => if l.all (fun u => shp 58 u && isT1 u) && alikeL l then some (.nl (sortD l)) else none
  | .zipl, [a, b] => (lits a h).bind fun l => (lits b h).map fun m => .nl (zipV l m)
  | .repr, [v] => (pd v h).bind fun d => if d.shown.length ≤ SZ && d.showable then some (.v (.str d.shown)) else none
  | _, _ => none
inductive Tg where
  | nm (i : Nat) | tp (ts : List Tg)
mutual
def tgs : Tg → Val → ME → Option ME
  | .nm i, v, g => some (g.set i (some v))
  | .tp ts, .tup l, g => tgsL ts l g
  | .tp ts, .lst l, g => tgsL ts l g
  | .tp _, _, _ => none
def tgsL : List Tg → List Val → ME → Option ME
  | [], [], g => some g
  | t :: ts, v :: vs, g => (tgs t v g).bind fun g => tgsL ts vs g
  | _, _, _ => none
end
mutual
inductive E where
  | var (i : Nat) | cst (c : Val) | glb (x : Str) (c : Val) | bin (o : Bop) (bx : Bool) (a b : E) | neg (a : E) | not (a : E) | bop (an : Bool) (es : Es)
  | cmp (o : Cop) (a b : E) | cmp2 (o p : Cop) (a b c : E) | isn (ng : Bool) (a : E) | isb (ng : Bool) (b : Bool) (a : E) | ite (c a b : E)
  | call (f : Nat) (es : Es) | cb (f : Bi) (bx : Bool) (es : Es) | isi (ts : List Ty) (a : E)
  | idx (a i : E) | slc (bx : Bool) (a : E) (hl : Bool) (lo : E) (hh : Bool) (hi : E) | nil
  | tup (es : Es) | lst (bx : Bool) (es : Es) | dct0
  | comp (bx : Bool) (elt : E) (t : Tg) (it : It) (ifs : Es) (own : List Nat)
  | comp2 (bx : Bool) (elt : E) (t : Tg) (it : It) (ifs : Es) (t1 : Tg) (it1 : It) (ifs1 : Es) (own own1 : List Nat)
  | rev (bx : Bool) (a : E)
  | app (o e : E) | ext (o e : E) | pop (o : E) | popAt (o i : E) | cnt (o e : E) | index (o e : E)
inductive Es where
  | nil | cons (e : E) (es : Es)
inductive It where
  | val (e : E) | rng (e : E) | rng2 (a b : E) | enu (e : E) | zip (a b : E) | enz (a b : E)
end
structure EC where
  call : Nat → List Val → MH → Res Val
  base : Nat
  fuel : Nat
/-- writing a cell -/
def wr (b n : Nat) (c : Cell) (ok : Bool) (h : MH) : Res Val := if decide (b ≤ n) || ok then .ok .non (h.set n c) else .stuck
def wipeE (g : ME) (own : List Nat) : ME := own.foldr (fun i g => g.set i none) g
def compLoop (f : Val → MH → Res (Option Val)) : List Val → MH → Res (List Val)
  | [], h => .ok [] h
  | x :: xs, h => (f x h).bind fun r h => (compLoop f xs h).bind fun rs h => .ok (match r with | some y => y :: rs | none => rs) h
def compLoop2 (f : Val → MH → Res (List Val)) : List Val → MH → Res (List Val)
  | [], h => .ok [] h
  | x :: xs, h => (f x h).bind fun r h => (compLoop2 f xs h).bind fun rs h => .ok (r ++ rs) h
/-- what a for walks -/
def walk (v : Val) : Option (List Val) := match v with
  | .tup l => some l
  | .lst l => some l
  | .scr l => some (l.map .int)
  | _ => none
def enumV (l : List Val) : List Val := l.zipIdx.map fun p => .tup [.int p.2, p.1]
def isTL : Val → Val → Bool
  | .tup _, .tup _ => true
  | .lst _, .lst _ => true
  | .tup _, .lst _ => true
  | .lst _, .tup _ => true
  | _, _ => false
def bopV (v : Val) : Option Bool := match v with
  | .bl b => some b
  | _ => none
def intV (v : Val) : Option Int := match v with
  | .int b => some b
  | _ => none
def optI (v : Val) : Option (Option Int) := match v with
  | .int b => some (some b)
  | .non => some none
  | _ => none
mutual
def ev (C : EC) : E → ME → MH → Res Val
  | .var i, g, h => match g[i]? with
    | some (some v) => .ok v h
    | _ => .stuck
  | .cst c, _, h => .ok c h
  | .glb _ c, _, h => .ok c h
  | .bin o bx a b, g, h => (ev C a g h).bind fun x h => (ev C b g h).bind fun y h => (ofO (bin o x y h) h).bind (fin bx)
  | .neg a, g, h => (ev C a g h).bind fun x h => (ofO (intV x) h).bind fun i h => .ok (.int (-i)) h
  | .not a, g, h => (ev C a g h).bind fun x h => (ofO (bopV x) h).bind fun b h => .ok (.bl (!b)) h
  | .bop an es, g, h => evB C an es g h
  | .cmp o a b, g, h => (ev C a g h).bind fun x h => (ev C b g h).bind fun y h => (ofO (cmp o x y h) h).bind fun r h => .ok (.bl r) h
  | .cmp2 o p a b c, g, h => (ev C a g h).bind fun x h => (ev C b g h).bind fun y h => (ofO (cmp o x y h) h).bind fun r h =>
      if r then (ev C c g h).bind fun z h => (ofO (cmp p y z h) h).bind fun r h => .ok (.bl r) h else .ok (.bl false) h
  | .isn ng a, g, h => (ev C a g h).bind fun x h => .ok (.bl (match x with | .non => !ng | _ => ng)) h
  | .isb ng b a, g, h => (ev C a g h).bind fun x h => (ofO (bopV x) h).bind fun c h => .ok (.bl (if c = b then !ng else ng)) h
  | .ite c a b, g, h => (ev C c g h).bind fun x h => (ofO (bopV x) h).bind fun r h => if r then ev C a g h else ev C b g h
  | .call f es, g, h => (evs C es g h).bind fun vs h => C.call f vs h
  | .cb f bx es, g, h => (evs C es g h).bind fun vs h => (ofO (bi f vs h) h).bind (fin bx)
  | .isi ts a, g, h => (ev C a g h).bind fun x h => (ofO (ts.mapM fun t => isi x t h) h).bind fun bs h => .ok (.bl (bs.any id)) h
  | .idx a i, g, h => (ev C a g h).bind fun x h => (ev C i g h).bind fun y h => (ofO (intV y) h).bind fun j h => (ofO (sits x h) h).bind fun l h => ofO (ixv l j) h
  | .slc bx a hl lo hh hi, g, h => (ev C a g h).bind fun x h => (if hl then (ev C lo g h).bind fun v h => (ofO (intV v) h).bind fun i h => .ok (some i) h else .ok none h : Res (Option Int)).bind fun l h =>
      (if hh then (ev C hi g h).bind fun v h => (ofO (intV v) h).bind fun i h => .ok (some i) h else .ok none h : Res (Option Int)).bind fun r h => (ofO (slc x l r h) h).bind (fin bx)
  | .nil, _, h => .ok .non h
  | .tup es, g, h => (evs C es g h).bind fun vs h => .ok (.tup vs) h
  | .lst bx es, g, h => (evs C es g h).bind fun vs h => fin bx (.nl vs) h
  | .dct0, _, h => .ok .dct0 h
  | .comp bx elt t it ifs own, g, h => (evI C it g h).bind fun src h =>
      (compLoop (fun x h => (ofO (tgs t x (wipeE g own)) h).bind fun g1 h => (evF C ifs g1 h).bind fun b h => if b then (ev C elt g1 h).bind fun y h => .ok (some y) h else .ok none h) src h).bind fun l h => fin bx (.nl l) h
  | .comp2 bx elt t it ifs t1 it1 ifs1 own own1, g, h => (evI C it g h).bind fun src h =>
      (compLoop2 (fun x h => (ofO (tgs t x (wipeE g own)) h).bind fun g1 h => (evF C ifs g1 h).bind fun b h => if b then
        (evI C it1 g1 h).bind fun src1 h => compLoop (fun x h => (ofO (tgs t1 x (wipeE g1 own1)) h).bind fun g2 h => (evF C ifs1 g2 h).bind fun b h => if b then (ev C elt g2 h).bind fun y h => .ok (some y) h else .ok none h) src1 h
        else .ok [] h) src h).bind fun l h => fin bx (.nl l) h
  | .rev bx a, g, h => (ev C a g h).bind fun x h => match x with
    | .tup l => .ok (.tup l.reverse) h
    | x => (ofO (lits x h) h).bind fun l h => fin bx (.nl l.reverse) h
  | .app o e, g, h => (ev C o g h).bind fun x h => (ofO (lits x h) h).bind fun _ h => (ev C e g h).bind fun y h => match x with
    | .ref n => (ofO (lits x h) h).bind fun l h => if l.length < SZ then wr C.base n (.lst (l ++ [y])) (dle 60 y) h else .stuck
    | _ => .stuck
  | .ext o e, g, h => (ev C o g h).bind fun x h => (ofO (lits x h) h).bind fun _ h => (ev C e g h).bind fun y h => match x with
    | .ref n => (ofO (lits x h) h).bind fun l h => (ofO (sits y h) h).bind fun m h => if l.length + m.length ≤ SZ then wr C.base n (.lst (l ++ m)) (m.all (dle 60)) h else .stuck
    | _ => .stuck
  | .pop o, g, h => (ev C o g h).bind fun x h => match x with
    | .ref n => (ofO (lits x h) h).bind fun l h => (ofO l.getLast? h).bind fun y h => (wr C.base n (.lst l.dropLast) true h).bind fun _ h => .ok y h
    | _ => .stuck
  | .popAt o i, g, h => (ev C o g h).bind fun x h => (ofO (lits x h) h).bind fun _ h => (ev C i g h).bind fun y h => (ofO (intV y) h).bind fun j h => match x with
    | .ref n => (ofO (lits x h) h).bind fun l h => (ofO (ixm l.length j) h).bind fun k h => if l.length ≤ SZ then (ofO l[k]? h).bind fun y h => (wr C.base n (.lst (l.eraseIdx k)) true h).bind fun _ h => .ok y h else .stuck
    | _ => .stuck
  | .cnt _ _, _, _ => .stuck
  | .index _ _, _, _ => .stuck
def evs (C : EC) : Es → ME → MH → Res (List Val)
  | .nil, _, h => .ok [] h
  | .cons e es, g, h => (ev C e g h).bind fun v h => (evs C es g h).bind fun vs h => .ok (v :: vs) h
def evB (C : EC) (an : Bool) : Es → ME → MH → Res Val
  | .nil, _, _ => .stuck
  | .cons e .nil, g, h => ev C e g h
  | .cons e es, g, h => (ev C e g h).bind fun x h => (ofO (bopV x) h).bind fun b h => if b = an then evB C an es g h else .ok (.bl b) h
def evF (C : EC) : Es → ME → MH → Res Bool
  | .nil, _, h => .ok true h
  | .cons e _, g, h => (ev C e g h).bind fun x h => ofO (bopV x) h
def evI (C : EC) : It → ME → MH → Res (List Val)
  | .val e, g, h => (ev C e g h).bind fun x h => ofO (walk x) h
  | .rng e, g, h => (ev C e g h).bind fun x h => (ofO (intV x) h).bind fun n h => if -(2 ^ 62) ≤ n ∧ n < 2 ^ 62 then .ok (rangeV 0 n) h else .stuck
  | .rng2 a b, g, h => (ev C a g h).bind fun x h => (ofO (intV x) h).bind fun m h => (ev C b g h).bind fun x h => (ofO (intV x) h).bind fun n h =>
      if -(2 ^ 62) ≤ m ∧ m < 2 ^ 62 ∧ -(2 ^ 62) ≤ n ∧ n < 2 ^ 62 then .ok (rangeV m n) h else .stuck
  | .enu e, g, h => (ev C e g h).bind fun x h => (ofO (sits x []) h).bind fun l h => .ok (enumV l) h
  | .zip a b, g, h => (ev C a g h).bind fun x h => (ev C b g h).bind fun y h => (ofO (sits x []) h).bind fun l h => (ofO (sits y []) h).bind fun m h => if isTL x y then .ok (zipV l m) h else .stuck
  | .enz a b, g, h => (ev C a g h).bind fun x h => (ev C b g h).bind fun y h => (ofO (sits x []) h).bind fun l h => (ofO (sits y []) h).bind fun m h => if isTL x y then .ok (enumV (zipV l m)) h else .stuck
end
mutual
inductive S where
  | asg (t : Tg) (e : E) | par (is : List Nat) (es : Es) | sset (o i e : E) | augn (i : Nat) (o : Bop) (e : E) | augs (a i : E) (o : Bop) (e : E)
  | iff (c : E) (a b : Ss) | whl (c : E) (b : Ss) | forr (t : Tg) (it : It) (b : Ss) | ret (e : E) | ex (e : E) | pass | frz (i : Nat) | rais (c : Str) (es : Es) | tri (f : Nat) (es : Es) (i t : Nat) (cl tg : Str) (tp : Bool)
inductive Ss where
  | nil | cons (s : S) (ss : Ss)
end
inductive Fl where
  | nx (g : ME) | rt (v : Val)
def forLoop (f : Val → ME → MH → Res Fl) : List Val → ME → MH → Res Fl
  | [], g, h => .ok (.nx g) h
  | x :: xs, g, h => (f x g h).bind fun r h => match r with
    | .nx g => forLoop f xs g h
    | .rt v => .ok (.rt v) h
def whlLoop (t : ME → MH → Res Bool) (f : ME → MH → Res Fl) : Nat → ME → MH → Res Fl
  | 0, _, _ => .stuck
  | n + 1, g, h => (t g h).bind fun b h => if b then (f g h).bind fun r h => match r with
      | .nx g => whlLoop t f n g h
      | .rt v => .ok (.rt v) h
    else .ok (.nx g) h
def below (n : Nat) (v : Val) : Bool := match v with
  | .ref k => decide (k < n)
  | v => dle 60 v
/-- what a try makes of a call: an error of the class cl is put into slot t with its word, in a tuple or a list -/
def triEnd (r : Res Val) (g : ME) (h1 : MH) (i t : Nat) (cl tg : Str) (tp : Bool) : Res Fl := match r with
  | .ok _ h2 => .ok (.nx g) h2
  | .exc c [u] h2 => if c = cl ∧ below h1.length u = true ∧ i < g.length then .ok (.nx ((g.set t (some (if tp then .tup [.str tg, u] else .lst [.str tg, u]))).set i none)) (h2.take h1.length) else .stuck
  | _ => .stuck
mutual
def ex (C : EC) : S → ME → MH → Res Fl
  | .asg t e, g, h => (ev C e g h).bind fun v h => (ofO (tgs t v g) h).bind fun g h => .ok (.nx g) h
  | .par is es, g, h => (evs C es g h).bind fun vs h => if vs.length = is.length then .ok (.nx ((is.zip vs).foldl (fun g p => g.set p.1 (some p.2)) g)) h else .stuck
  | .sset o i e, g, h => (ev C e g h).bind fun v h => (ev C o g h).bind fun x h => (ev C i g h).bind fun y h => (ofO (intV y) h).bind fun j h => match x with
    | .ref n => (ofO (lits x h) h).bind fun l h => (ofO (ixm l.length j) h).bind fun k h => (wr C.base n (.lst (l.set k v)) (dle 60 v) h).bind fun _ h => .ok (.nx g) h
    | _ => .stuck
  | .augn i o e, g, h => (match g[i]? with | some (some x) => .ok x h | _ => .stuck : Res Val).bind fun x h => (ev C e g h).bind fun y h => (ofO (ipI o x y) h).bind fun z h => .ok (.nx (g.set i (some z))) h
  | .augs a i o e, g, h => (ev C a g h).bind fun x h => (ev C i g h).bind fun y h => (ofO (intV y) h).bind fun j h => match x with
    | .ref n => (ofO (lits x h) h).bind fun l h => (ofO (ixv l j) h).bind fun z h => (ev C e g h).bind fun w h => (ofO (ipI o z w) h).bind fun z h => (ofO (lits x h) h).bind fun l h => (ofO (ixm l.length j) h).bind fun k h => (wr C.base n (.lst (l.set k z)) (dle 60 z) h).bind fun _ h => .ok (.nx g) h
    | _ => .stuck
  | .iff c a b, g, h => (ev C c g h).bind fun x h => (ofO (bopV x) h).bind fun r h => if r then exs C a g h else exs C b g h
  | .whl c b, g, h => whlLoop (fun g h => (ev C c g h).bind fun x h => ofO (bopV x) h) (fun g h => exs C b g h) C.fuel g h
  | .forr t it b, g, h => (evI C it g h).bind fun src h => forLoop (fun x g h => (ofO (tgs t x g) h).bind fun g h => exs C b g h) src g h
  | .ret e, g, h => (ev C e g h).bind fun v h => .ok (.rt v) h
  | .ex e, g, h => (ev C e g h).bind fun _ h => .ok (.nx g) h
  | .pass, g, h => .ok (.nx g) h
  | .frz i, g, h => match g[i]? with
    | some (some (.lst _)) => .ok (.nx g) h
    | some (some (.ref n)) => match h[n]? with
      | some (.lst l) => if C.base ≤ n then .ok (.nx (g.set i (some (.lst l)))) (h.set n .dead) else .stuck
      | _ => .stuck
    | _ => .stuck
  | .rais c es, g, h => (evs C es g h).bind fun vs h => .exc c vs h
  | .tri f es i t cl tg tp, g, h => match evs C es g h with
    | .ok vs h1 => triEnd (C.call f vs h1) g h1 i t cl tg tp
    | _ => .stuck
def exs (C : EC) : Ss → ME → MH → Res Fl
  | .nil, g, h => .ok (.nx g) h
  | .cons s ss, g, h => (ex C s g h).bind fun r h => match r with
    | .nx g => exs C ss g h
    | .rt v => .ok (.rt v) h
end
structure MDef where
  keep : Bool
  np : Nat
  nl : Nat
  body : Ss
def fnEnd (keep : Bool) (n : Nat) (fl : Fl) (h : MH) : Res Val :=
  let v := match fl with
    | .nx _ => .non
    | .rt v => v
  if keep then .ok v h else if below n v then .ok v (h.take n) else .stuck
def callM (P : Nat → Option MDef) (fuel : Nat) : Nat → Nat → Nat → List Val → MH → Res Val
  | 0, _, _, _, _ => .stuck
  | d + 1, base, f, args, h => match P f with
    | none => .stuck
    | some D => if args.length = D.np then
        (exs ⟨callM P fuel d (if D.keep then base else h.length), if D.keep then base else h.length, fuel⟩ D.body (args.map some ++ List.replicate D.nl none) h).bind (fnEnd D.keep h.length)
      else .stuck
end MP

/-! MiniB: how a mini state stands in the machine's abstract heap. -/
namespace MP
open PySem PySem.Spec PyProof.Rows L2
def isLive : Cell → Bool
  | .dead => false
  | _ => true
mutual
/-- L: the addresses that may change; r: the cells' addresses -/
inductive Rp (K : PySem.W.Frag) (L : Addr → Prop) (r : List Addr) (H : Hp) : V → Val → Prop
  | non : Rp K L r H .non .non
  | bl (b : Bool) : Rp K L r H (.bl b) (.bl b)
  | int (i : Int) : Rp K L r H (.int i) (.int i)
  | str (s : Str) : Rp K L r H (.str s) (.str s)
  | tup {a : Addr} {xs : List V} {l : List Val} : SqT K H a xs → RpL K L r H xs l → Rp K L r H (.ref a) (.tup l)
  | lst {a : Addr} {xs : List V} {l : List Val} : H a = some (.lst xs) → ¬ L a → RpL K L r H xs l → Rp K L r H (.ref a) (.lst l)
  | dct0 {a : Addr} : H a = some (.dK []) → ¬ L a → Rp K L r H (.ref a) .dct0
  | scr {a : Addr} {ns : List Int} : ((Rd H a (.lst (ns.map V.int)) ∧ ¬ L a) ∨ ∀ G : Hp, SqL K G a (ns.map V.int)) → Rp K L r H (.ref a) (.scr ns)
  | ref {a : Addr} {n : Nat} : r[n]? = some a → Rp K L r H (.ref a) (.ref n)
inductive RpL (K : PySem.W.Frag) (L : Addr → Prop) (r : List Addr) (H : Hp) : List V → List Val → Prop
  | nil : RpL K L r H [] []
  | cons {x : V} {v : Val} {xs : List V} {vs : List Val} : Rp K L r H x v → RpL K L r H xs vs → RpL K L r H (x :: xs) (v :: vs)
end
section
variable {K : PySem.W.Frag} {L L' : Addr → Prop} {r r' : List Addr} {H H' : Hp}
mutual
theorem Rp.mono (hk : ∀ a o, H a = some o → ¬ L a → H' a = some o) (hl : ∀ a, L' a → L a ∨ H a = none) (hr : ∀ (n : Nat) a, r[n]? = some a → r'[n]? = some a) (ht : ∀ a, L a → ∃ xs, H a = some (.lst xs)) :
    ∀ {x : V} {v : Val}, Rp K L r H x v → Rp K L' r' H' x v
  | _, _, .non => .non
  | _, _, .bl b => .bl b
  | _, _, .int i => .int i
  | _, _, .str i => .str i
  | _, _, .tup (a := a) s q => .tup (by
      rcases s with (s | ⟨o, s⟩) | s
      · exact .inl (.inl (hk a _ s fun z => by obtain ⟨xs, e⟩ := ht a z; rw [s] at e; cases e))
      · exact .inl (.inr ⟨o, hk a _ s fun z => by obtain ⟨xs, e⟩ := ht a z; rw [s] at e; cases e⟩)
      · exact .inr s) (RpL.mono hk hl hr ht q)
  | _, _, .lst (a := a) s n q => .lst (hk a _ s n) (fun z => by rcases hl a z with z | z; exact n z; rw [s] at z; cases z) (RpL.mono hk hl hr ht q)
  | _, _, .dct0 (a := a) s n => .dct0 (hk a _ s n) (fun z => by rcases hl a z with z | z; exact n z; rw [s] at z; cases z)
  | _, _, .scr (a := a) s => .scr (by
      rcases s with ⟨s, n⟩ | s
      · refine .inl ⟨?_, fun z => ?_⟩
        · rcases s with s | ⟨o, s⟩
          · exact .inl (hk a _ s n)
          · exact .inr ⟨o, hk a _ s n⟩
        · rcases hl a z with z | z
          · exact n z
          · rcases s with s | ⟨o, s⟩ <;> (rw [s] at z; cases z)
      · exact .inr s)
  | _, _, .ref e => .ref (hr _ _ e)
theorem RpL.mono (hk : ∀ a o, H a = some o → ¬ L a → H' a = some o) (hl : ∀ a, L' a → L a ∨ H a = none) (hr : ∀ (n : Nat) a, r[n]? = some a → r'[n]? = some a) (ht : ∀ a, L a → ∃ xs, H a = some (.lst xs)) :
    ∀ {x : List V} {v : List Val}, RpL K L r H x v → RpL K L' r' H' x v
  | _, _, .nil => .nil
  | _, _, .cons a b => .cons (Rp.mono hk hl hr ht a) (RpL.mono hk hl hr ht b)
end
theorem RpL.length : ∀ {xs : List V} {l : List Val}, RpL K L r H xs l → xs.length = l.length
  | _, _, .nil => rfl
  | _, _, .cons _ t => by simp only [List.length_cons, t.length]
theorem RpL.get : ∀ {xs : List V} {l : List Val} {i : Nat} {v : Val}, RpL K L r H xs l → l[i]? = some v → ∃ x, xs[i]? = some x ∧ Rp K L r H x v
  | _, _, _, _, .nil, e => by simp at e
  | _, _, 0, _, .cons q _, e => by simp at e; subst e; exact ⟨_, rfl, q⟩
  | _, _, i + 1, _, .cons _ t, e => by
    obtain ⟨x, h1, h2⟩ := RpL.get (i := i) t (by simpa using e)
    exact ⟨x, by simpa using h1, h2⟩
theorem RpL.get' : ∀ {xs : List V} {l : List Val} {i : Nat} {x : V}, RpL K L r H xs l → xs[i]? = some x → ∃ v, l[i]? = some v ∧ Rp K L r H x v
  | _, _, _, _, .nil, e => by simp at e
  | _, _, 0, _, .cons q _, e => by simp at e; subst e; exact ⟨_, rfl, q⟩
  | _, _, i + 1, _, .cons _ t, e => by
    obtain ⟨x, h1, h2⟩ := RpL.get' (i := i) t (by simpa using e)
    exact ⟨x, by simpa using h1, h2⟩
theorem RpL.append : ∀ {xs ys : List V} {l m : List Val}, RpL K L r H xs l → RpL K L r H ys m → RpL K L r H (xs ++ ys) (l ++ m)
  | _, _, _, _, .nil, s => s
  | _, _, _, _, .cons q t, s => .cons q (RpL.append t s)
theorem RpL.take : ∀ {xs : List V} {l : List Val} (n : Nat), RpL K L r H xs l → RpL K L r H (xs.take n) (l.take n)
  | _, _, 0, _ => .nil
  | _, _, _ + 1, .nil => .nil
  | _, _, n + 1, .cons q t => .cons q (RpL.take n t)
theorem RpL.drop : ∀ {xs : List V} {l : List Val} (n : Nat), RpL K L r H xs l → RpL K L r H (xs.drop n) (l.drop n)
  | _, _, 0, q => q
  | _, _, _ + 1, .nil => .nil
  | _, _, n + 1, .cons _ t => RpL.drop n t
theorem RpL.set {x : V} {v : Val} (q : Rp K L r H x v) : ∀ {xs : List V} {l : List Val} (n : Nat), RpL K L r H xs l → RpL K L r H (xs.set n x) (l.set n v)
  | _, _, _, .nil => .nil
  | _, _, 0, .cons _ t => .cons q t
  | _, _, n + 1, .cons p t => .cons p (RpL.set q n t)
theorem RpL.reverse : ∀ {xs : List V} {l : List Val}, RpL K L r H xs l → RpL K L r H xs.reverse l.reverse
  | _, _, .nil => .nil
  | _, _, .cons q t => by rw [List.reverse_cons, List.reverse_cons]; exact (t.reverse).append (.cons q .nil)
theorem RpL.flatten_rep {xs : List V} {l : List Val} (q : RpL K L r H xs l) : ∀ n, RpL K L r H (List.replicate n xs).flatten (List.replicate n l).flatten
  | 0 => .nil
  | n + 1 => by rw [List.replicate_succ, List.replicate_succ, List.flatten_cons, List.flatten_cons]; exact q.append (q.flatten_rep n)
theorem RpL.eraseIdx : ∀ {xs : List V} {l : List Val} (n : Nat), RpL K L r H xs l → RpL K L r H (xs.eraseIdx n) (l.eraseIdx n)
  | _, _, _, .nil => .nil
  | _, _, 0, .cons _ t => t
  | _, _, n + 1, .cons q t => .cons q (t.eraseIdx n)
theorem RpL.dropLast {xs : List V} {l : List Val} (q : RpL K L r H xs l) : RpL K L r H xs.dropLast l.dropLast := by
  rw [List.dropLast_eq_take, List.dropLast_eq_take, q.length]; exact q.take _
theorem RpL.ints : ∀ {xs : List V} {l : List Val} {ns : List Int}, RpL K L r H xs l → intsOf l = some ns → xs = ns.map V.int
  | _, _, _, .nil, e => by cases e; rfl
  | _, _, _, .cons (v := v) q t, e => by
    cases q <;> simp only [intsOf, Option.map_eq_some_iff, reduceCtorEq] at e
    obtain ⟨ms, e1, rfl⟩ := e
    rw [t.ints e1]; rfl
theorem RpL.bls : ∀ {xs : List V} {l : List Val} {ns : List Bool}, RpL K L r H xs l → blsOf l = some ns → xs = ns.map V.bl
  | _, _, _, .nil, e => by cases e; rfl
  | _, _, _, .cons (v := v) q t, e => by
    cases q <;> simp only [blsOf, Option.map_eq_some_iff, reduceCtorEq] at e
    obtain ⟨ms, e1, rfl⟩ := e
    rw [t.bls e1]; rfl
theorem RpL.of_ints : ∀ (ns : List Int), RpL K L r H (ns.map V.int) (ns.map Val.int)
  | [] => .nil
  | n :: ns => .cons (.int n) (RpL.of_ints ns)
/-- what has no reference in it stands alike under any cells -/
theorem dle_rp : ∀ (n : Nat) {x : V} {v : Val}, dle n v = true → Rp K L r H x v → Rp K L r' H x v := by
  intro n
  induction n with
  | zero =>
    intro x v e q
    cases q with
    | non => exact .non
    | bl b => exact .bl b
    | int i => exact .int i
    | str s => exact .str s
    | dct0 a b => exact .dct0 a b
    | tup a b =>
      simp only [dle, List.isEmpty_iff] at e
      subst e
      cases b
      exact .tup a .nil
    | lst a b c =>
      simp only [dle, List.isEmpty_iff] at e
      subst e
      cases c
      exact .lst a b .nil
    | scr a => simp [dle] at e
    | ref a => simp [dle] at e
  | succ n ih =>
    have all : ∀ {xs : List V} {l : List Val}, l.all (dle n) = true → RpL K L r H xs l → RpL K L r' H xs l := by
      intro xs l e q
      induction l generalizing xs with
      | nil => cases q; exact .nil
      | cons v l ihl =>
        cases q with
        | cons q t =>
          rw [List.all_cons, Bool.and_eq_true] at e
          exact .cons (ih e.1 q) (ihl e.2 t)
    intro x v e q
    cases q with
    | non => exact .non
    | bl b => exact .bl b
    | int i => exact .int i
    | str s => exact .str s
    | dct0 a b => exact .dct0 a b
    | tup a b => exact .tup a (all (by simpa [dle] using e) b)
    | lst a b c => exact .lst a b (all (by simpa [dle] using e) c)
    | scr a => simp [dle] at e
    | ref a => simp [dle] at e
theorem dle_rpL {n : Nat} : ∀ {xs : List V} {l : List Val}, l.all (dle n) = true → RpL K L r H xs l → RpL K L r' H xs l
  | _, _, _, .nil => .nil
  | _, _, e, .cons q t => by
    rw [List.all_cons, Bool.and_eq_true] at e
    exact .cons (dle_rp n e.1 q) (dle_rpL e.2 t)
end
theorem take_some {α : Type} {l : List α} {n i : Nat} {x : α} : (l.take n)[i]? = some x ↔ i < n ∧ l[i]? = some x := by
  rw [List.getElem?_take]
  by_cases h : i < n
  · simp [h]
  · simp [h]
/-! ### the state -/
structure Wd where
  r : List Addr
  H : Hp
  h : MH
  res : List Addr
def LiveC (w : Wd) (a : Addr) : Prop := ∃ (i : Nat) (c : Cell), w.r[i]? = some a ∧ w.h[i]? = some c ∧ isLive c = true
/-- what may change: the cells, and what is being made (res) -/
def Live (w : Wd) (a : Addr) : Prop := LiveC w a ∨ a ∈ w.res
abbrev Rv (K : PySem.W.Frag) (w : Wd) : V → Val → Prop := Rp K (Live w) w.r w.H
abbrev RvL (K : PySem.W.Frag) (w : Wd) : List V → List Val → Prop := RpL K (Live w) w.r w.H
def CellR (K : PySem.W.Frag) (L : Addr → Prop) (r : List Addr) (H : Hp) (a : Addr) : Cell → Prop
  | .lst l => ∃ xs, H a = some (.lst xs) ∧ RpL K L r H xs l ∧ xs.length ≤ SZ
  | .dct _ => False
  | .dead => True
structure Rel (K : PySem.W.Frag) (w : Wd) : Prop where
  len : w.r.length = w.h.length
  inj : ∀ (i j : Nat) (a : Addr) (c d : Cell), w.r[i]? = some a → w.r[j]? = some a → w.h[i]? = some c → w.h[j]? = some d → isLive c = true → isLive d = true → i = j
  cell : ∀ (i : Nat) (c : Cell) (a : Addr), w.h[i]? = some c → w.r[i]? = some a → CellR K (Live w) w.r w.H a c
  rl : ∀ a ∈ w.res, ∃ xs, w.H a = some (.lst xs)
  rsep : ∀ a ∈ w.res, ¬ LiveC w a
def Low (K : PySem.W.Frag) (w : Wd) (b : Nat) : Prop := ∀ (i : Nat) (c : Cell) (a : Addr), i < b → w.h[i]? = some c → w.r[i]? = some a → CellR K (Live w) (w.r.take b) w.H a c
theorem Rel.lst {K : PySem.W.Frag} {w : Wd} (R : Rel K w) : ∀ a, Live w a → ∃ xs, w.H a = some (.lst xs) := fun a z => by
  rcases z with ⟨i, c, e1, e2, e3⟩ | z
  · have q := R.cell i c a e2 e1
    cases c with
    | lst l => obtain ⟨xs, e, _⟩ := q; exact ⟨xs, e⟩
    | dct l => exact q.elim
    | dead => cases e3
  · exact R.rl a z
structure To (K : PySem.W.Frag) (b : Nat) (w w' : Wd) : Prop where
  keep : ∀ a o, w.H a = some o → ¬ Live w a → w'.H a = some o
  live : ∀ a, Live w' a → Live w a ∨ w.H a = none
  refs : ∀ (n : Nat) (a : Addr), w.r[n]? = some a → w'.r[n]? = some a
  tp : ∀ a, Live w a → ∃ xs, w.H a = some (.lst xs)
  len : w.h.length ≤ w'.h.length
  low : ∀ b0, b0 ≤ b → Low K w b0 → Low K w' b0
  rs : ∀ a ∈ w.res, a ∈ w'.res
  kr : ∀ a ∈ w.res, w'.H a = w.H a
section
variable {K : PySem.W.Frag} {w w' w'' : Wd} {b : Nat} {x : V} {v : Val} {xs : List V} {l : List Val}
theorem To.rv (t : To K b w w') (q : Rv K w x v) : Rv K w' x v := Rp.mono t.keep t.live t.refs t.tp q
theorem To.rvL (t : To K b w w') (q : RvL K w xs l) : RvL K w' xs l := RpL.mono t.keep t.live t.refs t.tp q
theorem To.refl (R : Rel K w) : To K b w w := ⟨fun _ _ e _ => e, fun _ z => .inl z, fun _ _ e => e, R.lst, Nat.le_refl _, fun _ _ z => z, fun _ z => z, fun _ _ => rfl⟩
/-- the same, what is being made may grow -/
structure Tw (K : PySem.W.Frag) (w w' : Wd) : Prop where
  keep : ∀ a o, w.H a = some o → ¬ Live w a → w'.H a = some o
  live : ∀ a, Live w' a → Live w a ∨ w.H a = none
  refs : ∀ (n : Nat) (a : Addr), w.r[n]? = some a → w'.r[n]? = some a
  tp : ∀ a, Live w a → ∃ xs, w.H a = some (.lst xs)
theorem To.tw (t : To K b w w') : Tw K w w' := ⟨t.keep, t.live, t.refs, t.tp⟩
theorem Tw.rv (t : Tw K w w') (q : Rv K w x v) : Rv K w' x v := Rp.mono t.keep t.live t.refs t.tp q
theorem Tw.rvL (t : Tw K w w') (q : RvL K w xs l) : RvL K w' xs l := RpL.mono t.keep t.live t.refs t.tp q
theorem To.trans (t : To K b w w') (u : To K b w' w'') : To K b w w'' where
  keep := fun a o e n => u.keep a o (t.keep a o e n) fun z => by
    rcases t.live a z with z | z
    · exact n z
    · rw [e] at z; cases z
  live := fun a z => by
    rcases u.live a z with z | z
    · exact t.live a z
    · by_cases n : Live w a
      · exact .inl n
      · cases e : w.H a with
        | none => exact .inr rfl
        | some o => rw [t.keep a o e n] at z; cases z
  refs := fun n a e => u.refs n a (t.refs n a e)
  tp := t.tp
  len := Nat.le_trans t.len u.len
  low := fun b0 h q => u.low b0 h (t.low b0 h q)
  rs := fun a z => u.rs a (t.rs a z)
  kr := fun a z => (u.kr a (t.rs a z)).trans (t.kr a z)
theorem To.mono {b' : Nat} (t : To K b w w') (h : b' ≤ b) : To K b' w w' := ⟨t.keep, t.live, t.refs, t.tp, t.len, fun b0 h0 => t.low b0 (Nat.le_trans h0 h), t.rs, t.kr⟩
theorem CellR.mono {L L' : Addr → Prop} {r r' : List Addr} {H H' : Hp} {a : Addr} {c : Cell} (hk : ∀ a o, H a = some o → ¬ L a → H' a = some o) (hl : ∀ a, L' a → L a ∨ H a = none) (hr : ∀ (n : Nat) (a : Addr), r[n]? = some a → r'[n]? = some a) (ht : ∀ a, L a → ∃ xs, H a = some (.lst xs))
    (ha : H' a = H a) (q : CellR K L r H a c) : CellR K L' r' H' a c := by
  cases c with
  | lst l =>
    obtain ⟨xs, e, p, z⟩ := q
    exact ⟨xs, ha.trans e, p.mono hk hl hr ht, z⟩
  | dct l => exact q.elim
  | dead => trivial
/-- the worlds differ in the abstract heap and in what is being made alone -/
theorem to_heap {H' : Hp} {res' : List Addr} (R : Rel K w) (hk : ∀ a o, w.H a = some o → ¬ Live w a → H' a = some o) (hc : ∀ a, LiveC w a → H' a = w.H a) (hr : ∀ a ∈ res', Live w a ∨ w.H a = none)
    (hrl : ∀ a ∈ res', ∃ xs, H' a = some (.lst xs)) (hrs : ∀ a ∈ res', ¬ LiveC w a) :
    (∀ {x v}, Rv K w x v → Rv K ⟨w.r, H', w.h, res'⟩ x v) ∧ Rel K ⟨w.r, H', w.h, res'⟩ ∧ (∀ b0, Low K w b0 → Low K ⟨w.r, H', w.h, res'⟩ b0) := by
  have hl : ∀ a, Live ⟨w.r, H', w.h, res'⟩ a → Live w a ∨ w.H a = none := fun a z => by
    rcases z with z | z
    · exact .inl (.inl z)
    · exact hr a z
  have cell : ∀ (r' : List Addr) (i : Nat) (c : Cell) (a : Addr), w.h[i]? = some c → w.r[i]? = some a → CellR K (Live w) r' w.H a c → CellR K (Live ⟨w.r, H', w.h, res'⟩) r' H' a c := fun r' i c a e1 e2 q => by
    cases c with
    | lst l => exact CellR.mono hk hl (fun _ _ e => e) R.lst (hc a ⟨i, _, e2, e1, rfl⟩) q
    | dct l => exact q.elim
    | dead => trivial
  exact ⟨fun q => Rp.mono hk hl (fun _ _ e => e) R.lst q, ⟨R.len, R.inj, fun i c a e1 e2 => cell _ i c a e1 e2 (R.cell i c a e1 e2), hrl, hrs⟩, fun b0 q i c a h1 h2 h3 => cell _ i c a h2 h3 (q i c a h1 h2 h3)⟩
/-- a new object that is no cell -/
theorem to_new {p : Addr} {o : HO} (R : Rel K w) (hp : w.H p = none) : To K b w ⟨w.r, upd w.H p o, w.h, w.res⟩ ∧ Rel K ⟨w.r, upd w.H p o, w.h, w.res⟩ := by
  have keep : ∀ a u, w.H a = some u → upd w.H p o a = some u := fun a u e => by rw [upd_ne (ne_of_none e hp)]; exact e
  have at_ : ∀ a, Live w a → upd w.H p o a = w.H a := fun a z => by
    obtain ⟨xs, e⟩ := R.lst a z
    rw [keep a _ e, e]
  obtain ⟨_, r, lw⟩ := to_heap (H' := upd w.H p o) (res' := w.res) R (fun a u e _ => keep a u e) (fun a z => at_ a (.inl z)) (fun a z => .inl (.inr z)) (fun a z => by rw [at_ a (.inr z)]; exact R.rl a z) R.rsep
  exact ⟨⟨fun a u e _ => keep a u e, fun a z => .inl z, fun _ _ e => e, R.lst, Nat.le_refl _, fun b0 _ q => lw b0 q, fun _ z => z, fun a z => at_ a (.inr z)⟩, r⟩
theorem live_push {p a : Addr} {c : Cell} {H' : Hp} {res : List Addr} (hlen : w.r.length = w.h.length) (z : LiveC ⟨w.r ++ [p], H', w.h ++ [c], res⟩ a) : LiveC w a ∨ a = p := by
  obtain ⟨i, d, e1, e2, e3⟩ := z
  by_cases hi : i < w.r.length
  · refine .inl ⟨i, d, ?_, ?_, e3⟩
    · rw [List.getElem?_append_left hi] at e1; exact e1
    · rw [List.getElem?_append_left (by omega)] at e2; exact e2
  · refine .inr ?_
    rw [List.getElem?_append_right (by omega)] at e1
    cases hz : i - w.r.length with
    | zero => rw [hz] at e1; simpa using e1.symm
    | succ n => rw [hz] at e1; simp at e1
theorem idx_push {p : Addr} {c0 : Cell} (hlen : w.r.length = w.h.length) : ∀ (i : Nat) (c : Cell) (a : Addr), (w.h ++ [c0])[i]? = some c → (w.r ++ [p])[i]? = some a → (w.h[i]? = some c ∧ w.r[i]? = some a) ∨ (i = w.h.length ∧ c = c0 ∧ a = p) := fun i c a e1 e2 => by
  by_cases hi : i < w.h.length
  · rw [List.getElem?_append_left hi] at e1
    rw [List.getElem?_append_left (by rw [hlen]; exact hi)] at e2
    exact .inl ⟨e1, e2⟩
  · have : i = w.h.length := by
      have := (List.getElem?_eq_some_iff.mp e1).1
      simp only [List.length_append, List.length_singleton] at this
      omega
    subst this
    rw [List.getElem?_append_right (Nat.le_refl _), Nat.sub_self] at e1
    rw [← hlen, List.getElem?_append_right (Nat.le_refl _), Nat.sub_self] at e2
    simp only [List.getElem?_cons_zero, Option.some.injEq] at e1 e2
    exact .inr ⟨rfl, e1.symm, e2.symm⟩
/-- a cell more, at p, that is new or was being made -/
theorem to_push0 {p : Addr} {H' : Hp} {res' : List Addr} (R : Rel K w) (hk : ∀ a o, w.H a = some o → ¬ Live w a → H' a = some o) (hc : ∀ a, LiveC w a → H' a = w.H a) (hp : w.H p = none ∨ p ∈ w.res) (hp' : H' p = some (.lst xs)) (hr : ∀ a ∈ res', a ∈ w.res ∧ a ≠ p)
    (hrl : ∀ a ∈ res', H' a = w.H a) (q : RvL K w xs l) (hz : xs.length ≤ SZ) :
    (∀ {x v}, Rv K w x v → Rv K ⟨w.r ++ [p], H', w.h ++ [.lst l], res'⟩ x v) ∧ Rel K ⟨w.r ++ [p], H', w.h ++ [.lst l], res'⟩ ∧ (∀ b0, b0 ≤ w.h.length → Low K w b0 → Low K ⟨w.r ++ [p], H', w.h ++ [.lst l], res'⟩ b0) ∧
      (∀ a, Live ⟨w.r ++ [p], H', w.h ++ [.lst l], res'⟩ a → Live w a ∨ w.H a = none) := by
  have hr' : ∀ (n : Nat) (a : Addr), w.r[n]? = some a → (w.r ++ [p])[n]? = some a := fun n a e => by
    rw [List.getElem?_append_left (List.getElem?_eq_some_iff.mp e).1]; exact e
  have hl : ∀ a, Live ⟨w.r ++ [p], H', w.h ++ [.lst l], res'⟩ a → Live w a ∨ w.H a = none := fun a z => by
    rcases z with z | z
    · rcases live_push R.len z with z | z
      · exact .inl (.inl z)
      · subst z
        rcases hp with hp | hp
        · exact .inr hp
        · exact .inl (.inr hp)
    · exact .inl (.inr (hr a z).1)
  have np : ¬ LiveC w p := fun z => by
    rcases hp with hp | hp
    · obtain ⟨ys, e⟩ := R.lst p (.inl z)
      rw [hp] at e; cases e
    · exact R.rsep p hp z
  have cell : ∀ (r1 r2 : List Addr), (∀ (n : Nat) (a : Addr), r1[n]? = some a → r2[n]? = some a) → ∀ (i : Nat) (c : Cell) (a : Addr), w.h[i]? = some c → w.r[i]? = some a → CellR K (Live w) r1 w.H a c → CellR K (Live ⟨w.r ++ [p], H', w.h ++ [.lst l], res'⟩) r2 H' a c := fun r1 r2 hr i c a e1 e2 q => by
    cases c with
    | lst l => exact CellR.mono hk hl hr R.lst (hc a ⟨i, _, e2, e1, rfl⟩) q
    | dct l => exact q.elim
    | dead => trivial
  have idx := idx_push (w := w) (p := p) (c0 := .lst l) R.len
  refine ⟨fun q => Rp.mono hk hl hr' R.lst q, ⟨by simp [R.len], fun i j a c d e1 e2 e3 e4 e5 e6 => ?_, fun i c a e1 e2 => ?_, fun a z => ?_, fun a z y => ?_⟩, fun b0 h0 q0 i c a h1 h2 h3 => ?_, hl⟩
  · rcases idx i c a e3 e1 with ⟨z1, z2⟩ | ⟨z1, z2, z3⟩ <;> rcases idx j d a e4 e2 with ⟨y1, y2⟩ | ⟨y1, y2, y3⟩
    · exact R.inj i j a c d z2 y2 z1 y1 e5 e6
    · subst y3; exact (np ⟨i, c, z2, z1, e5⟩).elim
    · subst z3; exact (np ⟨j, d, y2, y1, e6⟩).elim
    · rw [z1, y1]
  · rcases idx i c a e1 e2 with ⟨e1, e2⟩ | ⟨z1, z2, z3⟩
    · exact cell _ _ hr' i c a e1 e2 (R.cell i c a e1 e2)
    · subst z2 z3
      exact ⟨xs, hp', q.mono hk hl hr' R.lst, hz⟩
  · show ∃ xs, H' a = some (.lst xs)
    rw [hrl a z]
    exact R.rl a (hr a z).1
  · rcases live_push R.len y with y | y
    · exact R.rsep a (hr a z).1 y
    · exact (hr a z).2 y
  · rcases idx i c a h2 h3 with ⟨h2, h3⟩ | ⟨z, _, _⟩
    · refine cell _ _ (fun n a e => ?_) i c a h2 h3 (q0 i c a h1 h2 h3)
      have h0' : b0 ≤ w.r.length := by have := R.len; omega
      show ((w.r ++ [p]).take b0)[n]? = some a
      rw [List.take_append_of_le_length h0']; exact e
    · omega
/-- a new cell -/
theorem to_push {p : Addr} (R : Rel K w) (hb : b ≤ w.h.length) (hp : w.H p = none) (q : RvL K w xs l) (hz : xs.length ≤ SZ) :
    To K b w ⟨w.r ++ [p], upd w.H p (.lst xs), w.h ++ [.lst l], w.res⟩ ∧ Rel K ⟨w.r ++ [p], upd w.H p (.lst xs), w.h ++ [.lst l], w.res⟩ := by
  have keep : ∀ a u, w.H a = some u → upd w.H p (.lst xs) a = some u := fun a u e => by rw [upd_ne (ne_of_none e hp)]; exact e
  have at_ : ∀ a, Live w a → upd w.H p (.lst xs) a = w.H a := fun a z => by
    obtain ⟨xs, e⟩ := R.lst a z
    rw [keep a _ e, e]
  obtain ⟨_, r, lw, hl⟩ := to_push0 (H' := upd w.H p (.lst xs)) (res' := w.res) R (fun a u e _ => keep a u e) (fun a z => at_ a (.inl z)) (.inl hp) upd_same (fun a z => ⟨z, fun y => by
    obtain ⟨ys, e⟩ := R.rl a z
    rw [y, hp] at e; cases e⟩) (fun a z => at_ a (.inr z)) q hz
  exact ⟨⟨fun a u e _ => keep a u e, hl, fun n a e => by
    show (w.r ++ [p])[n]? = some a
    rw [List.getElem?_append_left (List.getElem?_eq_some_iff.mp e).1]; exact e, R.lst, by simp, fun b0 h0 q => lw b0 (Nat.le_trans h0 hb) q, fun _ z => z, fun a z => at_ a (.inr z)⟩, r⟩
/-- the end of what makes a list -/
theorem new_list {p : Addr} {bx : Bool} {h' : MH} (R : Rel K w) (hb : b ≤ w.h.length) (hp : w.H p = none) (q : RvL K w xs l) (e : fin bx (.nl l) w.h = .ok v h') :
    ∃ w', w'.h = h' ∧ w'.H = upd w.H p (.lst xs) ∧ To K b w w' ∧ Rel K w' ∧ Rv K w' (.ref p) v := by
  unfold fin at e
  by_cases hz : ¬ l.length ≤ SZ
  · simp only [if_neg hz] at e; cases e
  have hz : l.length ≤ SZ := Nat.le_of_not_lt fun z => hz (Nat.not_le_of_lt z)
  simp only at e
  rw [if_pos hz] at e
  have hz' : xs.length ≤ SZ := by rw [q.length]; exact hz
  cases bx with
  | true =>
    rw [if_pos rfl] at e
    cases e
    obtain ⟨t, r⟩ := to_push (b := b) R hb hp q hz'
    refine ⟨⟨w.r ++ [p], upd w.H p (.lst xs), w.h ++ [.lst l], w.res⟩, rfl, rfl, t, r, .ref ?_⟩
    show (w.r ++ [p])[w.h.length]? = some p
    rw [← R.len, List.getElem?_append_right (Nat.le_refl _), Nat.sub_self]; rfl
  | false =>
    rw [if_neg (by decide)] at e
    cases e
    obtain ⟨t, r⟩ := to_new (b := b) (o := .lst xs) R hp
    refine ⟨⟨w.r, upd w.H p (.lst xs), w.h, w.res⟩, rfl, rfl, t, r, .lst upd_same (fun z => ?_) (t.rvL q)⟩
    obtain ⟨ys, e⟩ := R.lst p z
    rw [hp] at e; cases e
theorem new_tup {p : Addr} (R : Rel K w) (hp : w.H p = none) (q : RvL K w xs l) :
    ∃ w', w'.h = w.h ∧ w'.H = upd w.H p (.tup xs) ∧ To K b w w' ∧ Rel K w' ∧ Rv K w' (.ref p) (.tup l) := by
  obtain ⟨t, r⟩ := to_new (b := b) (o := .tup xs) R hp
  exact ⟨⟨w.r, upd w.H p (.tup xs), w.h, w.res⟩, rfl, rfl, t, r, .tup (.inl (.inl upd_same)) (t.rvL q)⟩
/-- a cell is written -/
theorem to_write {n : Nat} {a : Addr} {ys : List V} {m l0 : List Val} (R : Rel K w) (hn : w.h[n]? = some (.lst l0)) (ha : w.r[n]? = some a) (q : RvL K w ys m) (hz : ys.length ≤ SZ)
    (ok : ∀ b0, b0 ≤ b → n < b0 → ∀ xs0, w.H a = some (.lst xs0) → RpL K (Live w) (w.r.take b0) w.H xs0 l0 → RpL K (Live w) (w.r.take b0) w.H ys m) :
    To K b w ⟨w.r, upd w.H a (.lst ys), w.h.set n (.lst m), w.res⟩ ∧ Rel K ⟨w.r, upd w.H a (.lst ys), w.h.set n (.lst m), w.res⟩ := by
  have hc0 : isLive (Cell.lst l0) = true := rfl
  generalize hc : Cell.lst l0 = c0 at hn hc0
  have hlv : ∀ d, LiveC ⟨w.r, upd w.H a (.lst ys), w.h.set n (.lst m), w.res⟩ d → LiveC w d := fun d => by
    rintro ⟨i, c, e1, e2, e3⟩
    by_cases hi : n = i
    · subst hi; exact ⟨n, c0, e1, hn, hc0⟩
    · rw [List.getElem?_set_ne hi] at e2; exact ⟨i, c, e1, e2, e3⟩
  have hlv' : ∀ d, Live ⟨w.r, upd w.H a (.lst ys), w.h.set n (.lst m), w.res⟩ d → Live w d := fun d z => z.elim (fun z => .inl (hlv d z)) .inr
  have hla : LiveC w a := ⟨n, c0, ha, hn, hc0⟩
  have keep : ∀ d u, w.H d = some u → ¬ Live w d → upd w.H a (.lst ys) d = some u := fun d u e z => by
    rw [upd_ne (fun y => z (by rw [y]; exact .inl hla))]; exact e
  have kr : ∀ d ∈ w.res, upd w.H a (.lst ys) d = w.H d := fun d z => upd_ne fun y => R.rsep d z (by rw [y]; exact hla)
  have cell : ∀ (r' : List Addr) (i : Nat) (c : Cell) (d : Addr), i ≠ n → w.h[i]? = some c → w.r[i]? = some d → CellR K (Live w) r' w.H d c → CellR K (Live ⟨w.r, upd w.H a (.lst ys), w.h.set n (.lst m), w.res⟩) r' (upd w.H a (.lst ys)) d c := fun r' i c d hi e1 e2 q => by
    cases c with
    | lst l =>
      refine CellR.mono keep (fun d z => .inl (hlv' d z)) (fun _ _ e => e) R.lst (upd_ne fun z => hi ?_) q
      subst z
      exact R.inj i n d _ c0 e2 ha e1 hn rfl hc0
    | dct l => exact q.elim
    | dead => trivial
  have get : ∀ (i : Nat) (c : Cell) (d : Addr), (w.h.set n (Cell.lst m))[i]? = some c → w.r[i]? = some d → (i = n ∧ c = .lst m ∧ d = a) ∨ (i ≠ n ∧ w.h[i]? = some c) := fun i c d e1 e2 => by
    by_cases hi : i = n
    · subst hi
      rw [List.getElem?_set_self (List.getElem?_eq_some_iff.mp hn).1] at e1
      rw [ha] at e2
      exact .inl ⟨rfl, (Option.some.inj e1).symm, (Option.some.inj e2).symm⟩
    · rw [List.getElem?_set_ne (Ne.symm hi)] at e1
      exact .inr ⟨hi, e1⟩
  refine ⟨⟨keep, fun d z => .inl (hlv' d z), fun _ _ e => e, R.lst, by simp, fun b0 h0 q0 i c d h1 h2 h3 => ?_, fun _ z => z, kr⟩, ⟨by simp [R.len], fun i j d c1 c2 e1 e2 e3 e4 e5 e6 => ?_, fun i c d e1 e2 => ?_, fun d z => ?_, fun d z y => R.rsep d z (hlv d y)⟩⟩
  · rcases get i c d h2 h3 with ⟨z1, z2, z3⟩ | ⟨z1, z2⟩
    · subst z1 z2 z3
      have old := q0 i c0 d h1 hn h3
      rw [← hc] at old
      obtain ⟨xs0, o1, o2, _⟩ := old
      exact ⟨ys, upd_same, (ok b0 h0 h1 xs0 o1 o2).mono keep (fun d z => .inl (hlv' d z)) (fun _ _ e => e) R.lst, hz⟩
    · exact cell _ i c d z1 z2 h3 (q0 i c d h1 z2 h3)
  · have l1 : ∃ c, w.h[i]? = some c ∧ isLive c = true := by
      rcases get i c1 d e3 e1 with ⟨z1, z2, z3⟩ | ⟨z1, z2⟩
      · subst z1; exact ⟨c0, hn, hc0⟩
      · exact ⟨c1, z2, e5⟩
    have l2 : ∃ c, w.h[j]? = some c ∧ isLive c = true := by
      rcases get j c2 d e4 e2 with ⟨z1, z2, z3⟩ | ⟨z1, z2⟩
      · subst z1; exact ⟨c0, hn, hc0⟩
      · exact ⟨c2, z2, e6⟩
    obtain ⟨c3, f1, f2⟩ := l1
    obtain ⟨c4, f3, f4⟩ := l2
    exact R.inj i j d c3 c4 e1 e2 f1 f3 f2 f4
  · rcases get i c d e1 e2 with ⟨z1, z2, z3⟩ | ⟨z1, z2⟩
    · subst z1 z2 z3
      exact ⟨ys, upd_same, q.mono keep (fun d z => .inl (hlv' d z)) (fun _ _ e => e) R.lst, hz⟩
    · exact cell _ i c d z1 z2 e2 (R.cell i c d z2 e2)
  · show ∃ xs, upd w.H a (.lst ys) d = some (.lst xs)
    rw [kr d z]; exact R.rl d z
/-- a cell dies; the machine stands still -/
theorem to_dead {n : Nat} (R : Rel K w) : To K b w ⟨w.r, w.H, w.h.set n .dead, w.res⟩ ∧ Rel K ⟨w.r, w.H, w.h.set n .dead, w.res⟩ := by
  have get : ∀ (i : Nat) (c : Cell), (w.h.set n Cell.dead)[i]? = some c → c = .dead ∨ w.h[i]? = some c := fun i c e => by
    by_cases hi : n = i
    · subst hi
      by_cases hz : n < w.h.length
      · rw [List.getElem?_set_self hz] at e; exact .inl (Option.some.inj e).symm
      · rw [List.getElem?_eq_none (by simpa using hz)] at e; cases e
    · rw [List.getElem?_set_ne hi] at e; exact .inr e
  have hlv : ∀ d, LiveC ⟨w.r, w.H, w.h.set n .dead, w.res⟩ d → LiveC w d := by
    rintro d ⟨i, c, e1, e2, e3⟩
    rcases get i c e2 with z | z
    · subst z; cases e3
    · exact ⟨i, c, e1, z, e3⟩
  have hlv' : ∀ d, Live ⟨w.r, w.H, w.h.set n .dead, w.res⟩ d → Live w d := fun d z => z.elim (fun z => .inl (hlv d z)) .inr
  have cell : ∀ (r' : List Addr) (i : Nat) (c : Cell) (d : Addr), w.h[i]? = some c → w.r[i]? = some d → CellR K (Live w) r' w.H d c → CellR K (Live ⟨w.r, w.H, w.h.set n .dead, w.res⟩) r' w.H d c := fun r' i c d e1 e2 q =>
    CellR.mono (fun _ _ e _ => e) (fun d z => .inl (hlv' d z)) (fun _ _ e => e) R.lst rfl q
  refine ⟨⟨fun _ _ e _ => e, fun d z => .inl (hlv' d z), fun _ _ e => e, R.lst, by simp, fun b0 h0 q0 i c d h1 h2 h3 => ?_, fun _ z => z, fun _ _ => rfl⟩, ⟨by simp [R.len], fun i j d c1 c2 e1 e2 e3 e4 e5 e6 => ?_, fun i c d e1 e2 => ?_, R.rl, fun d z y => R.rsep d z (hlv d y)⟩⟩
  · rcases get i c h2 with z | z
    · subst z; trivial
    · exact cell _ i c d z h3 (q0 i c d h1 z h3)
  · rcases get i c1 e3 with z | z
    · subst z; cases e5
    · rcases get j c2 e4 with y | y
      · subst y; cases e6
      · exact R.inj i j d c1 c2 e1 e2 z y e5 e6
  · rcases get i c e1 with z | z
    · subst z; trivial
    · exact cell _ i c d z e2 (R.cell i c d z e2)
/-- the cells above n are dropped -/
theorem to_cut {w0 : Wd} (R : Rel K w) (R0 : Rel K w0) (t : To K w0.h.length w0 w) (hl : Low K w w0.h.length) (hb : b ≤ w0.h.length) :
    To K b w0 ⟨w.r.take w0.h.length, w.H, w.h.take w0.h.length, w.res⟩ ∧ Rel K ⟨w.r.take w0.h.length, w.H, w.h.take w0.h.length, w.res⟩ ∧ (∀ d, Live ⟨w.r.take w0.h.length, w.H, w.h.take w0.h.length, w.res⟩ d → Live w d) := by
  have hlv : ∀ d, LiveC ⟨w.r.take w0.h.length, w.H, w.h.take w0.h.length, w.res⟩ d → LiveC w d := by
    rintro d ⟨i, c, e1, e2, e3⟩
    exact ⟨i, c, (take_some.mp e1).2, (take_some.mp e2).2, e3⟩
  have hlv' : ∀ d, Live ⟨w.r.take w0.h.length, w.H, w.h.take w0.h.length, w.res⟩ d → Live w d := fun d z => z.elim (fun z => .inl (hlv d z)) .inr
  have lt : ∀ {α : Type} {l : List α} {i : Nat} {x : α}, (l.take w0.h.length)[i]? = some x → i < w0.h.length ∧ l[i]? = some x := fun e => take_some.mp e
  refine ⟨⟨t.keep, fun a z => t.live a (hlv' a z), fun n a e => ?_, t.tp, ?_, fun b0 h0 q0 i c d h1 h2 h3 => ?_, t.rs, t.kr⟩, ⟨?_, fun i j d c1 c2 e1 e2 e3 e4 e5 e6 => ?_, fun i c d e1 e2 => ?_, R.rl, fun d z y => R.rsep d z (hlv d y)⟩, hlv'⟩
  · have h1 := (List.getElem?_eq_some_iff.mp e).1
    rw [R0.len] at h1
    exact take_some.mpr ⟨h1, t.refs n a e⟩
  · have h1 := t.len
    simp only [List.length_take]
    omega
  · have q := t.low b0 (by omega) q0 i c d h1 (lt h2).2 (lt h3).2
    refine CellR.mono (fun _ _ e _ => e) (fun d z => .inl (hlv' d z)) (fun n a e => ?_) R.lst rfl q
    show ((w.r.take w0.h.length).take b0)[n]? = some a
    rw [List.take_take, Nat.min_eq_left (by omega)]
    exact e
  · have := R.len
    simp [this]
  · exact R.inj i j d c1 c2 (lt e1).2 (lt e2).2 (lt e3).2 (lt e4).2 e5 e6
  · exact CellR.mono (fun _ _ e _ => e) (fun d z => .inl (hlv' d z)) (fun _ _ e => e) R.lst rfl (hl i c d (lt e1).1 (lt e1).2 (lt e2).2)
theorem Rel.low (R : Rel K w) : Low K w w.h.length := fun i c a _ e1 e2 => by
  have := R.cell i c a e1 e2
  rw [← R.len, List.take_length]; exact this
/-! a list that is being made at D -/
theorem to_enter {D : Addr} (R : Rel K w) (hD : w.H D = none) : To K b w ⟨w.r, upd w.H D (.lst []), w.h, D :: w.res⟩ ∧ Rel K ⟨w.r, upd w.H D (.lst []), w.h, D :: w.res⟩ := by
  have keep : ∀ a u, w.H a = some u → upd w.H D (.lst []) a = some u := fun a u e => by rw [upd_ne (ne_of_none e hD)]; exact e
  have at_ : ∀ a, Live w a → upd w.H D (.lst []) a = w.H a := fun a z => by
    obtain ⟨xs, e⟩ := R.lst a z
    rw [keep a _ e, e]
  have nD : ¬ Live w D := fun z => by
    obtain ⟨xs, e⟩ := R.lst D z
    rw [hD] at e; cases e
  obtain ⟨_, r, lw⟩ := to_heap (H' := upd w.H D (.lst [])) (res' := D :: w.res) R (fun a u e _ => keep a u e) (fun a z => at_ a (.inl z)) (fun a z => by
      rcases List.mem_cons.mp z with rfl | z
      · exact .inr hD
      · exact .inl (.inr z)) (fun a z => by
      rcases List.mem_cons.mp z with rfl | z
      · exact ⟨[], upd_same⟩
      · rw [at_ a (.inr z)]; exact R.rl a z) (fun a z => by
      rcases List.mem_cons.mp z with rfl | z
      · exact fun y => nD (.inl y)
      · exact R.rsep a z)
  refine ⟨⟨fun a u e _ => keep a u e, fun a z => ?_, fun _ _ e => e, R.lst, Nat.le_refl _, fun b0 _ q => lw b0 q, fun _ z => List.mem_cons_of_mem _ z, fun a z => at_ a (.inr z)⟩, r⟩
  rcases z with z | z
  · exact .inl (.inl z)
  · rcases List.mem_cons.mp z with rfl | z
    · exact .inr hD
    · exact .inl (.inr z)
theorem to_more {w0 : Wd} {D : Addr} {ys : List V} (R : Rel K w) (t : To K b w0 w) (h0 : w0.H D = none) (R0 : Rel K w0) (hD : D ∈ w.res) :
    To K b w0 ⟨w.r, upd w.H D (.lst ys), w.h, w.res⟩ ∧ Rel K ⟨w.r, upd w.H D (.lst ys), w.h, w.res⟩ ∧ (∀ {x v}, Rv K w x v → Rv K ⟨w.r, upd w.H D (.lst ys), w.h, w.res⟩ x v) := by
  have ne : ∀ a u, w0.H a = some u → a ≠ D := fun a u e z => by rw [z, h0] at e; cases e
  have k2 : ∀ a o, w.H a = some o → ¬ Live w a → upd w.H D (.lst ys) a = some o := fun a o e n => by
    rw [upd_ne (fun z => n (by rw [z]; exact .inr hD))]; exact e
  have hc : ∀ a, LiveC w a → upd w.H D (.lst ys) a = w.H a := fun a z => upd_ne fun y => R.rsep D hD (by rw [← y]; exact z)
  obtain ⟨q, r, lw⟩ := to_heap (H' := upd w.H D (.lst ys)) (res' := w.res) R k2 hc (fun a z => .inl (.inr z)) (fun a z => by
    by_cases y : a = D
    · subst y; exact ⟨ys, upd_same⟩
    · rw [upd_ne y]; exact R.rl a z) R.rsep
  refine ⟨⟨fun a o e n => ?_, t.live, t.refs, t.tp, t.len, fun b0 h q => lw b0 (t.low b0 h q), t.rs, fun a z => ?_⟩, r, q⟩
  · show upd w.H D (.lst ys) a = some o
    rw [upd_ne (ne a o e)]; exact t.keep a o e n
  · obtain ⟨zs, e⟩ := R0.rl a z
    show upd w.H D (.lst ys) a = w0.H a
    rw [upd_ne (ne a _ e)]; exact t.kr a z
/-- a list that stands among what is being made is written -/
theorem Tw.more {w0 : Wd} {D : Addr} {ys : List V} (t : Tw K w0 w) (h0 : D ∈ w0.res) : Tw K w0 ⟨w.r, upd w.H D (.lst ys), w.h, w.res⟩ := by
  refine ⟨fun a o e n => ?_, t.live, t.refs, t.tp⟩
  show upd w.H D (.lst ys) a = some o
  rw [upd_ne (fun z => n (by rw [z]; exact .inr h0))]
  exact t.keep a o e n
theorem Tw.cat (t : Tw K w w') (u : Tw K w' w'') : Tw K w w'' where
  keep := fun a o e n => u.keep a o (t.keep a o e n) fun z => by
    rcases t.live a z with z | z
    · exact n z
    · rw [e] at z; cases z
  live := fun a z => by
    rcases u.live a z with z | z
    · exact t.live a z
    · cases e : w.H a with
      | none => exact .inr rfl
      | some o =>
        by_cases q : Live w a
        · exact .inl q
        · rw [t.keep a o e q] at z; cases z
  refs := fun n a e => u.refs n a (t.refs n a e)
  tp := t.tp
theorem Tw.to (t : Tw K w w') (u : To K b w' w'') : Tw K w w'' := t.cat u.tw
theorem to_leave {w0 : Wd} {D : Addr} {bx : Bool} {h' : MH} (R : Rel K w) (t : To K b w0 w) (hb : b ≤ w0.h.length) (h0 : w0.H D = none) (R0 : Rel K w0) (hD : D ∈ w.res) (hx : w.H D = some (.lst xs)) (q : RvL K w xs l) (e : fin bx (.nl l) w.h = .ok v h') :
    ∃ w', w'.h = h' ∧ w'.H = w.H ∧ To K b w0 w' ∧ Rel K w' ∧ Rv K w' (.ref D) v := by
  have mem : ∀ a, a ∈ w.res.filter (fun a => decide (a ≠ D)) ↔ a ∈ w.res ∧ a ≠ D := fun a => by simp
  have hrs : ∀ a ∈ w0.res, a ∈ w.res.filter (fun a => decide (a ≠ D)) := fun a z => (mem a).mpr ⟨t.rs a z, fun y => by
    obtain ⟨zs, e⟩ := R0.rl a z
    rw [y, h0] at e; cases e⟩
  unfold fin at e
  by_cases hz : ¬ l.length ≤ SZ
  · simp only [if_neg hz] at e; cases e
  have hz : l.length ≤ SZ := Nat.le_of_not_lt fun z => hz (Nat.not_le_of_lt z)
  simp only at e
  rw [if_pos hz] at e
  have hz' : xs.length ≤ SZ := by rw [q.length]; exact hz
  cases bx with
  | true =>
    rw [if_pos rfl] at e
    cases e
    obtain ⟨q2, r, lw, hl⟩ := to_push0 (H' := w.H) (res' := w.res.filter (fun a => decide (a ≠ D))) R (fun _ _ e _ => e) (fun _ _ => rfl) (.inr hD) hx (fun a z => (mem a).mp z) (fun _ _ => rfl) q hz'
    have hl2 : ∀ a, Live ⟨w.r ++ [D], w.H, w.h ++ [.lst l], w.res.filter (fun a => decide (a ≠ D))⟩ a → Live w a := fun a z => by
      rcases z with z | z
      · rcases live_push R.len z with z | z
        · exact .inl z
        · rw [z]; exact .inr hD
      · exact .inr ((mem a).mp z).1
    refine ⟨⟨w.r ++ [D], w.H, w.h ++ [.lst l], w.res.filter (fun a => decide (a ≠ D))⟩, rfl, rfl, ⟨t.keep, fun a z => t.live a (hl2 a z), fun n a e => ?_, t.tp, ?_, fun b0 h1 q1 => lw b0 ?_ (t.low b0 h1 q1), hrs, t.kr⟩, r, .ref ?_⟩
    · have e2 := t.refs n a e
      show (w.r ++ [D])[n]? = some a
      rw [List.getElem?_append_left (List.getElem?_eq_some_iff.mp e2).1]; exact e2
    · have := t.len
      simp only [List.length_append, List.length_singleton]; omega
    · have := t.len; omega
    · show (w.r ++ [D])[w.h.length]? = some D
      rw [← R.len, List.getElem?_append_right (Nat.le_refl _), Nat.sub_self]; rfl
  | false =>
    rw [if_neg (by decide)] at e
    cases e
    obtain ⟨q2, r, lw⟩ := to_heap (H' := w.H) (res' := w.res.filter (fun a => decide (a ≠ D))) R (fun _ _ e _ => e) (fun _ _ => rfl) (fun a z => .inl (.inr ((mem a).mp z).1)) (fun a z => R.rl a ((mem a).mp z).1) (fun a z => R.rsep a ((mem a).mp z).1)
    have hl2 : ∀ a, Live ⟨w.r, w.H, w.h, w.res.filter (fun a => decide (a ≠ D))⟩ a → Live w a := fun a z => by
      rcases z with z | z
      · exact .inl z
      · exact .inr ((mem a).mp z).1
    refine ⟨⟨w.r, w.H, w.h, w.res.filter (fun a => decide (a ≠ D))⟩, rfl, rfl, ⟨t.keep, fun a z => t.live a (hl2 a z), t.refs, t.tp, t.len, fun b0 h1 q1 => lw b0 (t.low b0 h1 q1), hrs, t.kr⟩, r, .lst hx (fun z => ?_) (RpL.mono (fun _ _ e _ => e) (fun a z => .inl (hl2 a z)) (fun _ _ e => e) R.lst q)⟩
    rcases z with z | z
    · exact R.rsep D hD z
    · exact ((mem D).mp z).2 rfl
/-- reading a list -/
theorem Rel.lits (R : Rel K w) (q : Rv K w x v) (e : lits v w.h = some l) : ∃ a xs, x = .ref a ∧ w.H a = some (.lst xs) ∧ RvL K w xs l := by
  unfold MP.lits at e
  cases q with
  | lst a b c =>
    cases e
    exact ⟨_, _, rfl, a, c⟩
  | ref a =>
    rename_i a' n
    simp only at e
    split at e
    · rename_i l' hn
      cases e
      obtain ⟨xs, h1, h2, _⟩ := R.cell n _ a' hn a
      exact ⟨_, xs, rfl, h1, h2⟩
    · cases e
  | _ => cases e
theorem Rel.sits (R : Rel K w) (q : Rv K w x v) (e : sits v w.h = some l) : ∃ a xs, x = .ref a ∧ (SqL K w.H a xs ∨ SqT K w.H a xs) ∧ RvL K w xs l := by
  unfold MP.sits at e
  cases q with
  | tup a b =>
    cases e
    exact ⟨_, _, rfl, .inr a, b⟩
  | lst a b c =>
    obtain ⟨a', xs, h1, h2, h3⟩ := R.lits (.lst a b c) e
    exact ⟨a', xs, h1, .inl (SqL.of h2), h3⟩
  | ref a =>
    obtain ⟨a', xs, h1, h2, h3⟩ := R.lits (.ref a) e
    exact ⟨a', xs, h1, .inl (SqL.of h2), h3⟩
  | _ => cases e
end
end MP

set_option maxHeartbeats 4000000
/-! MiniB1: tuple * int where nothing is laid, or an empty tuple. -/
namespace MP
open PySem PySem.Spec PyProof.Rows L2
theorem tup_mulS (l : Addr) (items : Array Value) (n : Nat) (dd : Option Addr) (sl : Array (Option Value)) (x : Int) (u : Tok) (c0 : (decide (x < -(2 ^ 63)) || decide (x ≥ 2 ^ 63)) = false) (c1 : (items.isEmpty || x == 1) = true) :
    Meets (Builtin.«tuple.__mul__» ⟨[.ref l, .int x u], []⟩) (fun _ R s => s.heap.get? l = some { cls := .type "tuple", dict := dd, data := .seq items n, slots := sl } ∧ R (.ok (.ret (Value.ref l))) s) :=
  .of_wp fun prog w A R s h => by
    obtain ⟨hp, g, d, tk, os⟩ := s
    obtain ⟨hl, h⟩ := h
    have f1 := AutoSeq1.idx_int
    wp_walk using wpAny_loadPart' hl
    repeat (first | (refine wpAny_ite_false (decide_eq_false (by rw [c0]; exact Bool.false_ne_true)) ?_; wp_walk using wpAny_loadPart' hl) | (refine wpAny_ite_true (decide_eq_true (by rw [c1])) ?_; wp_walk using wpAny_loadPart' hl))
    exact ⟨_, rfl, h⟩
theorem tup_mulE (l : Addr) (items : Array Value) (n : Nat) (dd : Option Addr) (sl : Array (Option Value)) (x : Int) (u : Tok) (c0 : (decide (x < -(2 ^ 63)) || decide (x ≥ 2 ^ 63)) = false) (c1 : (items.isEmpty || x == 1) = false) (c2 : (decide (x ≤ 0) || items.isEmpty) = true) :
    Meets (Builtin.«tuple.__mul__» ⟨[.ref l, .int x u], []⟩) (fun _ R s => s.heap.get? l = some { cls := .type "tuple", dict := dd, data := .seq items n, slots := sl } ∧
      R (.ok (.ret (Value.ref s.heap.objs.size))) { s with heap := s.heap.push { cls := Value.type "tuple", data := Data.seq #[] } }) :=
  .of_wp fun prog w A R s h => by
    obtain ⟨hp, g, d, tk, os⟩ := s
    obtain ⟨hl, h⟩ := h
    have f1 := AutoSeq1.idx_int
    wp_walk using wpAny_loadPart' hl
    repeat (first | (refine wpAny_ite_false (decide_eq_false (by rw [c0]; exact Bool.false_ne_true)) ?_; wp_walk using wpAny_loadPart' hl) | (refine wpAny_ite_false (decide_eq_false (by rw [c1]; exact Bool.false_ne_true)) ?_; wp_walk using wpAny_loadPart' hl) | (refine wpAny_ite_true (decide_eq_true (by rw [c2])) ?_; wp_walk using wpAny_loadPart' hl))
    exact ⟨_, rfl, h⟩
def rRepS (K : PySem.W.Frag) : R2 := fun x y H Q => ∃ l k xs, x = .ref l ∧ y = .int k ∧ SqT K H l xs ∧ -(2 ^ 63) ≤ k ∧ k < 2 ^ 63 ∧ (xs = [] ∨ k = 1) ∧ Q (.ref l) H
def rRepE (K : PySem.W.Frag) : R2 := fun x y H Q => ∃ l k xs, x = .ref l ∧ y = .int k ∧ SqT K H l xs ∧ -(2 ^ 63) ≤ k ∧ k ≤ 0 ∧ xs ≠ [] ∧ ∀ p, H p = none → Q (.ref p) (upd H p (.tup []))
section
variable {X : Cx}
theorem op_repS : OpR X (binaryOp .Mult) (rRepS X.K) := by
  rintro pins s σ H x y v u Q I rx ry ⟨l, k, xs, rfl, rfl, hT, k1, k2, k3, q⟩
  cases rx
  obtain ⟨t, rfl⟩ := ry
  obtain ⟨its, r, ⟨⟨cls, dd, data, sl⟩, ho, hc, n, hd⟩, hs⟩ := I.tuple hT
  simp only at hc hd
  subst hc hd
  have c0 : (decide (k < -(2 ^ 63)) || decide (k ≥ 2 ^ 63)) = false := by
    rw [Bool.or_eq_false_iff]
    exact ⟨decide_eq_false (by omega), decide_eq_false (by omega)⟩
  have c1 : (its.toArray.isEmpty || k == 1) = true := by
    rcases k3 with e | e
    · subst e; cases r; rfl
    · subst e; simp
  exact wpAny_binaryOp_repeat_ref (T := "tuple") (U := "int") (by decide) ⟨_, ho, rfl⟩ (fun s' => typeIs_int s' k t) noFill_tuple_mul F.fills_int_mul F.slot_int_rmul repeat_tuple F.slot_int_index.lookup
    (call_meets F.slot_int_rmul (typeIs_int s k t) F.entry_int_rmul (F.args_int_rmul_2 _ _) (int_rmul_tuple k t l its.toArray n dd sl)
      ⟨ho, rfl, ⟨_, ho, rfl⟩, call_meets F.slot_tuple_mul ⟨_, ho, rfl⟩ F.entry_tuple_mul (F.args_tuple_mul_2 _ _) (tup_mulS l its.toArray n dd sl k t c0 c1) ⟨ho, ⟨.ref l, H, I, rfl, q⟩⟩⟩)
theorem op_repE : OpR X (binaryOp .Mult) (rRepE X.K) := by
  rintro pins s σ H x y v u Q I rx ry ⟨l, k, xs, rfl, rfl, hT, k1, k2, k3, q⟩
  cases rx
  obtain ⟨t, rfl⟩ := ry
  obtain ⟨its, r, ⟨⟨cls, dd, data, sl⟩, ho, hc, n, hd⟩, hs⟩ := I.tuple hT
  simp only at hc hd
  subst hc hd
  have c0 : (decide (k < -(2 ^ 63)) || decide (k ≥ 2 ^ 63)) = false := by
    rw [Bool.or_eq_false_iff]
    exact ⟨decide_eq_false (by omega), decide_eq_false (by omega)⟩
  have c1 : (its.toArray.isEmpty || k == 1) = false := by
    rw [Bool.or_eq_false_iff]
    refine ⟨?_, beq_eq_false_iff_ne.mpr (by omega)⟩
    cases r with
    | nil => exact absurd rfl k3
    | cons _ _ => rfl
  have c2 : (decide (k ≤ 0) || its.toArray.isEmpty) = true := by
    rw [decide_eq_true k2, Bool.true_or]
  refine wpAny_binaryOp_repeat_ref (T := "tuple") (U := "int") (by decide) ⟨_, ho, rfl⟩ (fun s' => typeIs_int s' k t) noFill_tuple_mul F.fills_int_mul F.slot_int_rmul repeat_tuple F.slot_int_index.lookup
    (call_meets F.slot_int_rmul (typeIs_int s k t) F.entry_int_rmul (F.args_int_rmul_2 _ _) (int_rmul_tuple k t l its.toArray n dd sl)
      ⟨ho, rfl, ⟨_, ho, rfl⟩, call_meets F.slot_tuple_mul ⟨_, ho, rfl⟩ F.entry_tuple_mul (F.args_tuple_mul_2 _ _) (tup_mulE l its.toArray n dd sl k t c0 c1 c2) ⟨ho, ?_⟩⟩)
  exact ⟨.ref s.heap.objs.size, _, I.laid (t' := s.toks) (o := .tup []) (fun b ob q => Heap.get?_push_of_some _ q) (Nat.le_refl _) ⟨Nat.zero_le _, [], .nil, IsTup.new _ _⟩, rfl, q _ (I.hok.fresh (Nat.le_refl _))⟩
end
end MP

set_option maxHeartbeats 1000000
/-! MiniC: the operations, by values. -/
namespace MP
open PySem PySem.Spec PyProof.Rows L2
theorem PE_mono {X : Cx} {e : Expr} {t t' : TE} (h : PE X e t) (k : ∀ σ H Q, t' σ H Q → t σ H Q) : PE X e t' := ⟨fun pins s σ H Q I q => h.run pins s σ H Q I (k σ H Q q)⟩
theorem PT_mono {X : Cx} {e : Expr} {t t' : TT} (h : PT X e t) (k : ∀ σ H Q, t' σ H Q → t σ H Q) : PT X e t' := ⟨fun pins s σ H Q I q => h.run pins s σ H Q I (k σ H Q q)⟩
theorem PW_mono {X : Cx} {e : Expr} {t t' : TT} (h : PW X e t) (k : ∀ σ H Q, t' σ H Q → t σ H Q) : PW X e t' := ⟨fun wh pins s σ H Q I q => h.run wh pins s σ H Q I (k σ H Q q)⟩
theorem PA_mono {X : Cx} {e : List Expr} {t t' : TA} (h : PA X e t) (k : ∀ σ H Q, t' σ H Q → t σ H Q) : PA X e t' := ⟨fun pos pins s σ H Q I q => h.run pos pins s σ H Q I (k σ H Q q)⟩
theorem PS_mono {X : Cx} {e : Stmt} {t t' : TS} (h : PS X e t) (k : ∀ D σ H, t' D σ H → t D σ H) : PS X e t' := ⟨fun pins s σ H D I q => h.run pins s σ H D I (k D σ H q)⟩
theorem PSs_mono {X : Cx} {e : List Stmt} {t t' : TS} (h : PSs X e t) (k : ∀ D σ H, t' D σ H → t D σ H) : PSs X e t' := ⟨fun pins s σ H D I q => h.run pins s σ H D I (k D σ H q)⟩
theorem OpR_mono {X : Cx} {f : Value → Value → Sem Value} {r r' : R2} (h : OpR X f r) (k : ∀ x y H Q, r' x y H Q → r x y H Q) : OpR X f r' := fun pins s σ H x y v u Q I rx ry q => h pins s σ H x y v u Q I rx ry (k _ _ _ _ q)
/-- what is wanted behind a result -/
def OK (K : PySem.W.Frag) (b : Nat) (w : Wd) (r : Res Val) (Q : VK) : Prop :=
  ∃ v h', r = .ok v h' ∧ ∀ w', w'.h = h' → To K b w w' → Rel K w' → ∀ x, Rv K w' x v → Q x w'.H
/-- a state, with its base -/
structure At (K : PySem.W.Frag) (b : Nat) (H : Hp) (w : Wd) : Prop where
  hH : w.H = H
  rel : Rel K w
  hb : b ≤ w.h.length
def rBin (K : PySem.W.Frag) (b : Nat) (o : Bop) (bx : Bool) : R2 := fun x y H Q => ∃ w u v, At K b H w ∧ Rv K w x u ∧ Rv K w y v ∧ OK K b w ((ofO (bin o u v w.h) w.h).bind (fin bx)) Q
theorem sz_line : SZ = sizeLine := by rw [sizeLine_eq]
section
variable {X : Cx} {b : Nat}
theorem OK.same {K : PySem.W.Frag} {w : Wd} {v : Val} {x : V} {Q : VK} (h : OK K b w (.ok v w.h) Q) (R : Rel K w) (q : Rv K w x v) : Q x w.H := by
  obtain ⟨v', h', e, k⟩ := h
  cases e
  exact k w rfl (To.refl R) R x q
theorem OK.tup {K : PySem.W.Frag} {w : Wd} {l : List Val} {xs : List V} {Q : VK} (h : OK K b w (.ok (.tup l) w.h) Q) (R : Rel K w) (q : RvL K w xs l) : ∀ p, w.H p = none → Q (.ref p) (upd w.H p (.tup xs)) := fun p hp => by
  obtain ⟨v', h', e, k⟩ := h
  cases e
  obtain ⟨w', e1, e2, t, r, q'⟩ := new_tup (b := b) R hp q
  rw [← e2]
  exact k w' e1 t r _ q'
theorem OK.lst {K : PySem.W.Frag} {w : Wd} {l : List Val} {xs : List V} {Q : VK} {bx : Bool} (h : OK K b w (fin bx (.nl l) w.h) Q) (R : Rel K w) (hb : b ≤ w.h.length) (q : RvL K w xs l) : ∀ p, w.H p = none → Q (.ref p) (upd w.H p (.lst xs)) := fun p hp => by
  obtain ⟨v', h', e, k⟩ := h
  obtain ⟨w', e1, e2, t, r, q'⟩ := new_list (b := b) R hb hp q e
  rw [← e2]
  exact k w' e1 t r _ q'
theorem OK.len {K : PySem.W.Frag} {w : Wd} {l : List Val} {Q : VK} {bx : Bool} (h : OK K b w (fin bx (.nl l) w.h) Q) : l.length ≤ sizeLine := by
  obtain ⟨v', h', e, k⟩ := h
  unfold fin at e
  by_cases z : l.length ≤ SZ
  · rw [← sz_line]; exact z
  · simp only [if_neg z] at e; cases e
theorem OK.some {K : PySem.W.Frag} {w : Wd} {α : Type} {o : Option α} {f : α → MH → Res Val} {Q : VK} (h : OK K b w ((ofO o w.h).bind f) Q) : ∃ a, o = some a ∧ OK K b w (f a w.h) Q := by
  cases o with
  | none => obtain ⟨v', h', e, k⟩ := h; cases e
  | some a => exact ⟨a, rfl, h⟩
/-- both lists: what + and * ask -/
theorem cat_lists (hc : True) {K : PySem.W.Frag} {w : Wd} {x y : V} {u v : Val} {l m : List Val} (R : Rel K w) (qx : Rv K w x u) (qy : Rv K w y v) (e1 : lits u w.h = some l) (e2 : lits v w.h = some m) :
    ∃ a c xs ys, x = .ref a ∧ y = .ref c ∧ w.H a = some (.lst xs) ∧ w.H c = some (.lst ys) ∧ RvL K w xs l ∧ RvL K w ys m := by
  obtain ⟨a, xs, h1, h2, h3⟩ := R.lits qx e1
  obtain ⟨c, ys, h4, h5, h6⟩ := R.lits qy e2
  exact ⟨a, c, xs, ys, h1, h4, h2, h5, h3, h6⟩
theorem op_binAdd {bx : Bool} : OpR X (binaryOp .Add) (rBin X.K b .add bx) := by
  refine OpR_mono (((op_add (X := X)).or op_add_str).or ((op_catA (X := X)).or op_cat)) fun x y H Q h => ?_
  obtain ⟨w, u, v, ⟨rfl, R, hb⟩, qx, qy, ok⟩ := h
  obtain ⟨r, e, ok⟩ := ok.some
  unfold bin at e
  simp only at e
  split at e
  · cases qx; cases qy; cases e
    exact .inl (.inl ⟨_, _, rfl, rfl, ok.same R (.int _)⟩)
  · cases qx; cases qy
    split at e
    · rename_i hz
      cases e
      exact .inl (.inr ⟨_, _, rfl, rfl, by rw [← sz_line]; exact hz, ok.same R (.str _)⟩)
    · cases e
  · cases qx with
    | tup a1 a2 =>
      cases qy with
      | tup b1 b2 =>
        split at e
        · rename_i hz
          cases e
          refine .inr (.inl ⟨_, _, _, _, rfl, rfl, a1, b1, by rw [a2.length, b2.length, ← sz_line]; exact hz, fun z => ?_, fun z1 z2 => ?_, fun _ _ => ok.tup R (a2.append b2)⟩)
          · subst z
            cases a2
            exact ok.same R (.tup b1 b2)
          · subst z2
            cases b2
            rw [List.append_nil] at ok
            exact ok.same R (.tup a1 a2)
        · cases e
  · split at e
    · rename_i l m e1 e2
      cases e
      obtain ⟨a, c, xs, ys, rfl, rfl, h1, h2, h3, h4⟩ := cat_lists trivial R qx qy e1 e2
      have hl := ok.len
      rw [List.length_append] at hl
      exact .inr (.inr ⟨_, _, _, _, rfl, rfl, h1, h2, by rw [h3.length, h4.length]; exact hl, ok.lst R hb (h3.append h4)⟩)
    · cases e
theorem op_binSub {bx : Bool} : OpR X (binaryOp .Sub) (rBin X.K b .sub bx) := by
  refine OpR_mono (op_sub (X := X)) fun x y H Q h => ?_
  obtain ⟨w, u, v, ⟨rfl, R, hb⟩, qx, qy, ok⟩ := h
  obtain ⟨r, e, ok⟩ := ok.some
  unfold bin at e
  simp only at e
  split at e
  · cases qx; cases qy; cases e
    exact ⟨_, _, rfl, rfl, ok.same R (.int _)⟩
  · cases e
theorem rep_nil (k : Int) : rep [] k = [] := by
  unfold rep
  induction k.toNat with
  | zero => rfl
  | succ n ih => rw [List.replicate_succ, List.flatten_cons, ih]; rfl
theorem rep_one (x : List Val) : rep x 1 = x := by simp [rep]
theorem rep_neg (x : List Val) {k : Int} (h : k ≤ 0) : rep x k = [] := by
  have : k.toNat = 0 := by omega
  simp [rep, this]
theorem op_binMul {bx : Bool} : OpR X (binaryOp .Mult) (rBin X.K b .mul bx) := by
  refine OpR_mono ((op_mul (X := X)).or ((op_repS (X := X)).or ((op_repE (X := X)).or ((op_repT (X := X)).or op_rep)))) fun x y H Q h => ?_
  obtain ⟨w, u, v, ⟨rfl, R, hb⟩, qx, qy, ok⟩ := h
  obtain ⟨r, e, ok⟩ := ok.some
  unfold bin at e
  simp only at e
  split at e
  · cases qx; cases qy
    split at e
    · rename_i hz
      cases e
      refine .inl ⟨_, _, rfl, rfl, ?_, ok.same R (.int _)⟩
      unfold mulOk at hz
      simp only [Bool.or_eq_true, Bool.and_eq_true, decide_eq_true_eq] at hz
      exact hz
    · cases e
  · rename_i l k
    cases qx with
    | tup a1 a2 =>
      cases qy
      split at e
      · rename_i hz
        cases e
        obtain ⟨z1, z2, z3⟩ := hz
        cases l with
        | nil =>
          cases a2
          exact .inr (.inl ⟨_, _, _, rfl, rfl, a1, z1, z2, .inl rfl, ok.same R (by rw [rep_nil]; exact .tup a1 .nil)⟩)
        | cons v0 l0 =>
          have ne : ∀ {xs : List V}, RpL X.K (Live w) w.r w.H xs (v0 :: l0) → xs ≠ [] := fun q z => by subst z; cases q
          by_cases k1 : k = 1
          · subst k1
            exact .inr (.inl ⟨_, _, _, rfl, rfl, a1, z1, z2, .inr rfl, ok.same R (by rw [rep_one]; exact .tup a1 a2)⟩)
          · by_cases k0 : k ≤ 0
            · exact .inr (.inr (.inl ⟨_, _, _, rfl, rfl, a1, z1, k0, ne a2, ok.tup R (by rw [rep_neg _ k0]; exact .nil)⟩))
            · have z4 : k ≤ 1000 ∧ (v0 :: l0).length ≤ 1000 := by
                rcases z3 with z | z | z
                · cases z
                · omega
                · exact z
              exact .inr (.inr (.inr (.inl ⟨_, _, _, rfl, rfl, a1, ne a2, by omega, z4.1, by rw [a2.length]; exact z4.2, ok.tup R (a2.flatten_rep _)⟩)))
      · cases e
  · cases qy
    split at e
    · rename_i l e1
      split at e
      · rename_i hz
        cases e
        obtain ⟨a, xs, rfl, h1, h2⟩ := R.lits qx e1
        exact .inr (.inr (.inr (.inr ⟨_, _, _, rfl, rfl, h1, hz.1, hz.2.1, by rw [h2.length, ← sz_line]; exact hz.2.2, ok.lst R hb (h2.flatten_rep _)⟩)))
      · cases e
    · cases e
  · cases e
theorem op_binDiv {bx : Bool} : OpR X (binaryOp .FloorDiv) (rBin X.K b .fdiv bx) := by
  refine OpR_mono (op_fdivW (X := X)) fun x y H Q h => ?_
  obtain ⟨w, u, v, ⟨rfl, R, hb⟩, qx, qy, ok⟩ := h
  obtain ⟨r, e, ok⟩ := ok.some
  unfold bin at e
  simp only at e
  split at e
  · cases qx; cases qy
    rename_i i j
    split at e
    · rename_i hz
      cases e
      refine ⟨_, _, rfl, rfl, wide_div (b := 1000) hz.1 ?_ (by decide) (by decide), ok.same R (.int _)⟩
      have h2 := hz.2
      have h1 := hz.1
      have : ((j.natAbs : Nat) : Int) < ((2 ^ 1000 : Nat) : Int) := by
        rw [Int.natAbs_of_nonneg (Int.le_of_lt h1)]
        exact h2
      exact Int.ofNat_lt.mp this
    · cases e
  · cases e
theorem op_binMod {bx : Bool} : OpR X (binaryOp .Mod) (rBin X.K b .mod bx) := by
  refine OpR_mono (op_mod (X := X)) fun x y H Q h => ?_
  obtain ⟨w, u, v, ⟨rfl, R, hb⟩, qx, qy, ok⟩ := h
  obtain ⟨r, e, ok⟩ := ok.some
  unfold bin at e
  simp only at e
  split at e
  · cases qx; cases qy
    split at e
    · rename_i hz
      cases e
      exact ⟨_, _, rfl, rfl, hz, ok.same R (.int _)⟩
    · cases e
  · cases e
theorem op_binPow {bx : Bool} : OpR X (binaryOp .Pow) (rBin X.K b .pow bx) := by
  refine OpR_mono (op_pow (X := X)) fun x y H Q h => ?_
  obtain ⟨w, u, v, ⟨rfl, R, hb⟩, qx, qy, ok⟩ := h
  obtain ⟨r, e, ok⟩ := ok.some
  unfold bin at e
  simp only at e
  split at e
  · cases qx; cases qy
    split at e
    · rename_i hz
      cases e
      exact ⟨_, _, rfl, rfl, hz, ok.same R (.int _)⟩
    · cases e
  · cases e
def opOf : Bop → Operator
  | .add => .Add
  | .sub => .Sub
  | .mul => .Mult
  | .fdiv => .FloorDiv
  | .mod => .Mod
  | .pow => .Pow
theorem op_bin {bx : Bool} : ∀ o, OpR X (binaryOp (opOf o)) (rBin X.K b o bx)
  | .add => op_binAdd
  | .sub => op_binSub
  | .mul => op_binMul
  | .fdiv => op_binDiv
  | .mod => op_binMod
  | .pow => op_binPow

/-! ### data -/
theorem toDL_eq : ∀ l : List Val, toDL l = l.map toD
  | [] => by simp only [toDL, List.map_nil]
  | v :: l => by simp only [toDL, List.map_cons, toDL_eq l]
theorem shp_lay : ∀ (n : Nat) {v : Val}, shp n v = true → (toD v).canLay0 = true ∧ (toD v).depth ≤ n + 1 := by
  intro n
  induction n with
  | zero =>
    intro v e
    cases v with
    | non => simp [toD, PyData.canLay0, PyData.depth]
    | bl b => simp [toD, PyData.canLay0, PyData.depth]
    | int i => simp [toD, PyData.canLay0, PyData.depth]
    | str s => simp [toD, PyData.canLay0, PyData.depth]; simpa [shp] using e
    | tup l => simp only [shp, List.isEmpty_iff] at e; subst e; simp [toD, toDL, PyData.canLay0, PyData.canLayAll0, PyData.depth, PyData.depthAll]
    | lst l => simp only [shp, List.isEmpty_iff] at e; subst e; simp [toD, toDL, PyData.canLay0, PyData.canLayAll0, PyData.depth, PyData.depthAll]
    | dct0 => simp [shp] at e
    | scr l => simp [shp] at e
    | ref k => simp [shp] at e
  | succ n ih =>
    have all : ∀ l : List Val, l.all (shp n) = true → PyData.canLayAll0 (toDL l) = true ∧ PyData.depthAll (toDL l) ≤ n + 1 := by
      intro l
      induction l with
      | nil => intro _; simp [toDL, PyData.canLayAll0, PyData.depthAll]
      | cons v l ihl =>
        intro e
        rw [List.all_cons, Bool.and_eq_true] at e
        obtain ⟨a1, a2⟩ := ih e.1
        obtain ⟨b1, b2⟩ := ihl e.2
        simp only [toDL, PyData.canLayAll0, PyData.depthAll, a1, b1, Bool.and_true, true_and]
        omega
    intro v e
    cases v with
    | non => simp [toD, PyData.canLay0, PyData.depth]
    | bl b => simp [toD, PyData.canLay0, PyData.depth]
    | int i => simp [toD, PyData.canLay0, PyData.depth]
    | str s => simp [toD, PyData.canLay0, PyData.depth]; simpa [shp] using e
    | tup l =>
      obtain ⟨a, b⟩ := all l (by simpa [shp] using e)
      simp only [toD, PyData.canLay0, PyData.depth, a, true_and]
      omega
    | lst l =>
      obtain ⟨a, b⟩ := all l (by simpa [shp] using e)
      simp only [toD, PyData.canLay0, PyData.depth, a, true_and]
      omega
    | dct0 => simp [shp] at e
    | scr l => simp [shp] at e
    | ref k => simp [shp] at e
theorem shaped_of {d : PyData} (h : d.canLay0 = true ∧ d.depth ≤ 64) : SeqAt.shaped d = true := by
  show (d.canLay0 && decide (d.depth ≤ 64)) = true
  rw [h.1, Bool.true_and]
  exact decide_eq_true h.2
theorem shpL_lay {n : Nat} {l : List Val} (e : l.all (shp n) = true) : (PyData.list (toDL l)).canLay0 = true ∧ (PyData.list (toDL l)).depth ≤ n + 2 := by
  have := shp_lay (n + 1) (v := .lst l) (by simpa [shp] using e)
  simpa [toD] using this
theorem dp_shp {K : PySem.W.Frag} {L : Addr → Prop} {r : List Addr} {H : Hp} : ∀ (n : Nat) {x : V} {v : Val}, shp n v = true → Rp K L r H x v → Dp K H x (toD v) := by
  intro n
  induction n with
  | zero =>
    intro x v e q
    cases q with
    | non => simp only [toD]; exact .non
    | bl b => simp only [toD]; exact .bl b
    | int i => simp only [toD]; exact .int i
    | str s => simp only [toD]; exact .str s
    | tup a b => simp only [shp, List.isEmpty_iff] at e; subst e; cases b; simp only [toD, toDL]; exact .tup a .nil
    | lst a b c => simp only [shp, List.isEmpty_iff] at e; subst e; cases c; simp only [toD, toDL]; exact .lst (SqL.of a) .nil
    | dct0 a b => simp [shp] at e
    | scr a => simp [shp] at e
    | ref a => simp [shp] at e
  | succ n ih =>
    have all : ∀ {xs : List V} {l : List Val}, l.all (shp n) = true → RpL K L r H xs l → DpAll K H xs (toDL l) := by
      intro xs l e q
      induction l generalizing xs with
      | nil => cases q; simp only [toDL]; exact .nil
      | cons v l ihl =>
        cases q with
        | cons q t =>
          rw [List.all_cons, Bool.and_eq_true] at e
          simp only [toDL]
          exact .cons (ih e.1 q) (ihl e.2 t)
    intro x v e q
    cases q with
    | non => simp only [toD]; exact .non
    | bl b => simp only [toD]; exact .bl b
    | int i => simp only [toD]; exact .int i
    | str s => simp only [toD]; exact .str s
    | tup a b => simp only [toD]; exact .tup a (all (by simpa [shp] using e) b)
    | lst a b c => simp only [toD]; exact .lst (SqL.of a) (all (by simpa [shp] using e) c)
    | dct0 a b => simp [shp] at e
    | scr a => simp [shp] at e
    | ref a => simp [shp] at e
theorem dpL_shp {K : PySem.W.Frag} {L : Addr → Prop} {r : List Addr} {H : Hp} {n : Nat} : ∀ {xs : List V} {l : List Val}, l.all (shp n) = true → RpL K L r H xs l → DpAll K H xs (toDL l)
  | _, _, _, .nil => by simp only [toDL]; exact .nil
  | _, _, e, .cons q t => by
    rw [List.all_cons, Bool.and_eq_true] at e
    simp only [toDL]
    exact .cons (dp_shp n e.1 q) (dpL_shp e.2 t)
/-- as data for == -/
theorem pe_dp {K : PySem.W.Frag} {w : Wd} {x : V} {v : Val} {d : PyData} (R : Rel K w) (q : Rv K w x v) (e : pe v w.h = some d) : Dp K w.H x d ∧ SeqAt.shaped d = true := by
  cases q with
  | ref a =>
    rename_i n
    unfold pe at e
    simp only at e
    split at e
    · rename_i l hn
      split at e
      · rename_i hs
        cases e
        obtain ⟨xs, h1, h2, _⟩ := R.cell n _ _ hn a
        have := shpL_lay hs
        exact ⟨.lst (SqL.of h1) (dpL_shp hs h2), shaped_of ⟨this.1, by omega⟩⟩
      · cases e
    · cases e
  | scr a => simp [pe, shp] at e
  | dct0 a b => simp [pe, shp] at e
  | non => unfold pe at e; simp only [shp, if_true, Option.some.injEq] at e; subst e; exact ⟨.non, shaped_of (by have := shp_lay 60 (v := .non) (by simp [shp]); exact ⟨this.1, by omega⟩)⟩
  | bl c => unfold pe at e; simp only [shp, if_true, Option.some.injEq] at e; subst e; exact ⟨.bl c, shaped_of (by have := shp_lay 60 (v := .bl c) (by simp [shp]); exact ⟨this.1, by omega⟩)⟩
  | int c => unfold pe at e; simp only [shp, if_true, Option.some.injEq] at e; subst e; exact ⟨.int c, shaped_of (by have := shp_lay 60 (v := .int c) (by simp [shp]); exact ⟨this.1, by omega⟩)⟩
  | str c =>
    unfold pe at e
    simp only at e
    split at e
    · rename_i hs
      cases e
      exact ⟨by simp only [toD]; exact .str c, shaped_of (by have := shp_lay 60 hs; exact ⟨this.1, by omega⟩)⟩
    · cases e
  | tup a b =>
    unfold pe at e
    simp only at e
    split at e
    · rename_i hs
      cases e
      exact ⟨dp_shp 60 hs (.tup a b), shaped_of (by have := shp_lay 60 hs; exact ⟨this.1, by omega⟩)⟩
    · cases e
  | lst a b c =>
    unfold pe at e
    simp only at e
    split at e
    · rename_i hs
      cases e
      exact ⟨dp_shp 60 hs (.lst a b c), shaped_of (by have := shp_lay 60 hs; exact ⟨this.1, by omega⟩)⟩
    · cases e
def OKb (K : PySem.W.Frag) (w : Wd) (r : Option Bool) (Q : VK) : Prop := ∃ c, r = some c ∧ Q (.bl c) w.H
def rCmp (K : PySem.W.Frag) (o : Cop) : R2 := fun x y H Q => ∃ w u v, At K 0 H w ∧ Rv K w x u ∧ Rv K w y v ∧ OKb K w (cmp o u v w.h) Q
def rEq0 (K : PySem.W.Frag) (ng : Bool) : R2 := fun x y H Q => ∃ a b xs, x = .ref a ∧ y = .ref b ∧ ((SqL K H a xs ∧ SqL K H b []) ∨ (SqT K H a xs ∧ SqT K H b [])) ∧ Q (.bl (xs.isEmpty != ng)) H
theorem op_eq0 (hu : X.A.units + 64 < cLine) : OpR X (compareOp .Eq) (rEq0 X.K false) := by
  intro pins s σ H x y v u Q I rx ry h
  obtain ⟨a, b, xs, rfl, rfl, h, q⟩ := h
  cases rx
  cases ry
  rw [Bool.bne_false] at q
  rcases h with ⟨h1, h2⟩ | ⟨h1, h2⟩
  · obtain ⟨its, ri, ⟨o, k, ho, hc, _, hd⟩, _⟩ := I.list h1
    obtain ⟨its2, ri2, ⟨o2, k2, ho2, hc2, _, hd2⟩, _⟩ := I.list h2
    cases ri2
    cases ri with
    | nil => exact SeqAt.RcAt.lists (e := fun _ => true) ⟨o, ho, hc, _, hd⟩ ⟨o2, ho2, hc2, _, hd2⟩ rfl (by omega) (fun j z => by simp at z) X.prog X.w _ _ ⟨.bl _, H, I, rfl, q⟩
    | cons => exact SeqAt.RcAt.lists_lengths ⟨o, ho, hc, _, hd⟩ ⟨o2, ho2, hc2, _, hd2⟩ (by simp) (by omega) X.prog X.w _ _ ⟨.bl _, H, I, rfl, q⟩
  · obtain ⟨its, ri, ⟨o, ho, hc, k, hd⟩, _⟩ := I.tuple h1
    obtain ⟨its2, ri2, ⟨o2, ho2, hc2, k2, hd2⟩, _⟩ := I.tuple h2
    cases ri2
    have z := SeqAt.RcAt.tuples (e := fun _ => true) ⟨o, ho, hc, _, hd⟩ ⟨o2, ho2, hc2, _, hd2⟩ (show X.A.units < cLine by omega) (fun j _ z => by simp at z)
    cases ri with
    | nil => exact z X.prog X.w _ _ ⟨.bl _, H, I, rfl, q⟩
    | cons => exact z X.prog X.w _ _ ⟨.bl _, H, I, (by simp; rfl), q⟩
theorem op_ne0 (hu : X.A.units + 64 < cLine) : OpR X (compareOp .NotEq) (rEq0 X.K true) := by
  intro pins s σ H x y v u Q I rx ry h
  obtain ⟨a, b, xs, rfl, rfl, h, q⟩ := h
  cases rx
  cases ry
  rw [Bool.bne_true] at q
  rcases h with ⟨h1, h2⟩ | ⟨h1, h2⟩
  · obtain ⟨its, ri, ⟨o, k, ho, hc, _, hd⟩, _⟩ := I.list h1
    obtain ⟨its2, ri2, ⟨o2, k2, ho2, hc2, _, hd2⟩, _⟩ := I.list h2
    cases ri2
    cases ri with
    | nil => exact SeqAt.RcNeAt.lists (e := fun _ => true) ⟨o, ho, hc, _, hd⟩ ⟨o2, ho2, hc2, _, hd2⟩ rfl (by omega) (fun j z => by simp at z) X.prog X.w _ _ ⟨.bl _, H, I, rfl, q⟩
    | cons => exact SeqAt.RcNeAt.lists_lengths ⟨o, ho, hc, _, hd⟩ ⟨o2, ho2, hc2, _, hd2⟩ (by simp) (by omega) X.prog X.w _ _ ⟨.bl _, H, I, rfl, q⟩
  · obtain ⟨its, ri, ⟨o, ho, hc, k, hd⟩, _⟩ := I.tuple h1
    obtain ⟨its2, ri2, ⟨o2, ho2, hc2, k2, hd2⟩, _⟩ := I.tuple h2
    cases ri2
    have z := SeqAt.RcNeAt.tuples (e := fun _ => true) ⟨o, ho, hc, _, hd⟩ ⟨o2, ho2, hc2, _, hd2⟩ (show X.A.units < cLine by omega) (fun j _ z => by simp at z)
    cases ri with
    | nil => exact z X.prog X.w _ _ ⟨.bl _, H, I, rfl, q⟩
    | cons => exact z X.prog X.w _ _ ⟨.bl _, H, I, (by simp; rfl), q⟩
theorem RpL_isEmpty {K : PySem.W.Frag} {L : Addr → Prop} {r : List Addr} {H : Hp} {xs : List V} {l : List Val} (q : RpL K L r H xs l) : l.isEmpty = xs.isEmpty := by cases q <;> rfl
theorem cmpE0_ok {K : PySem.W.Frag} {w : Wd} {x y : V} {u v : Val} {c : Bool} (R : Rel K w) (qx : Rv K w x u) (qy : Rv K w y v) (e : cmpE0 u v w.h = some c) :
    ∃ a b xs, x = .ref a ∧ y = .ref b ∧ ((SqL K w.H a xs ∧ SqL K w.H b []) ∨ (SqT K w.H a xs ∧ SqT K w.H b [])) ∧ xs.isEmpty = c := by
  unfold cmpE0 at e
  split at e
  · split at e
    · cases e
      cases qx with
      | tup a b =>
        cases qy with
        | tup a2 b2 =>
          cases b2
          exact ⟨_, _, _, rfl, rfl, .inr ⟨a, a2⟩, (RpL_isEmpty b).symm⟩
    · cases e
  · obtain ⟨l, e1, rfl⟩ := Option.map_eq_some_iff.mp e
    obtain ⟨a, xs, rfl, h1, h2⟩ := R.lits qx e1
    cases qy with
    | lst a2 b2 c2 =>
      cases c2
      exact ⟨_, _, _, rfl, rfl, .inl ⟨SqL.of h1, SqL.of a2⟩, (RpL_isEmpty h2).symm⟩
  · cases e
theorem str_beq {s t : Str} : (s == t) = decide (V.str s = V.str t) := by
  rw [L2.dec_str]
theorem op_cmpEq (hu : X.A.units + 65 < cLine) : OpR X (compareOp .Eq) (rCmp X.K .eq) := by
  refine OpR_mono ((op_eq (X := X)).or ((op_eqD (by omega)).or (op_eq0 (by omega)))) fun x y H Q h => ?_
  obtain ⟨w, u, v, ⟨rfl, R, hb⟩, qx, qy, c, e, q⟩ := h
  unfold cmp at e
  simp only at e
  unfold cmpEq at e
  split at e
  · cases qx; cases qy; cases e
    exact .inl ⟨rfl, by rw [← str_beq]; exact q⟩
  · split at e
    · rename_i c' e0
      cases e
      obtain ⟨a, b, xs, h1, h2, h3, rfl⟩ := cmpE0_ok R qx qy e0
      exact .inr (.inr ⟨a, b, xs, h1, h2, h3, by rw [Bool.bne_false]; exact q⟩)
    · split at e
      · rename_i d1 d2 e1 e2
        cases e
        obtain ⟨p1, s1⟩ := pe_dp R qx e1
        obtain ⟨p2, s2⟩ := pe_dp R qy e2
        exact .inr (.inl ⟨_, _, p1, p2, s1, s2, q⟩)
      · cases e
theorem op_cmpNe (hu : X.A.units + 65 < cLine) : OpR X (compareOp .NotEq) (rCmp X.K .ne) := by
  refine OpR_mono ((op_ne (X := X)).or ((op_neD (by omega)).or (op_ne0 (by omega)))) fun x y H Q h => ?_
  obtain ⟨w, u, v, ⟨rfl, R, hb⟩, qx, qy, c, e, q⟩ := h
  unfold cmp at e
  simp only [Option.map_eq_some_iff] at e
  obtain ⟨c', e, rfl⟩ := e
  unfold cmpEq at e
  split at e
  · cases qx; cases qy; cases e
    exact .inl ⟨rfl, by rw [← str_beq]; exact q⟩
  · split at e
    · rename_i c' e0
      cases e
      obtain ⟨a, b, xs, h1, h2, h3, rfl⟩ := cmpE0_ok R qx qy e0
      exact .inr (.inr ⟨a, b, xs, h1, h2, h3, by rw [Bool.bne_true]; exact q⟩)
    · split at e
      · rename_i d1 d2 e1 e2
        cases e
        obtain ⟨p1, s1⟩ := pe_dp R qx e1
        obtain ⟨p2, s2⟩ := pe_dp R qy e2
        exact .inr (.inl ⟨_, _, p1, p2, s1, s2, q⟩)
      · cases e
theorem op_cmpLt : OpR X (compareOp .Lt) (rCmp X.K .lt) := by
  refine OpR_mono (op_lt (X := X)) fun x y H Q h => ?_
  obtain ⟨w, u, v, ⟨rfl, R, hb⟩, qx, qy, c, e, q⟩ := h
  unfold cmp at e
  simp only at e
  split at e
  · cases qx; cases qy; cases e
    exact ⟨_, _, rfl, rfl, q⟩
  · cases e
theorem op_cmpLe : OpR X (compareOp .LtE) (rCmp X.K .le) := by
  refine OpR_mono (op_le (X := X)) fun x y H Q h => ?_
  obtain ⟨w, u, v, ⟨rfl, R, hb⟩, qx, qy, c, e, q⟩ := h
  unfold cmp at e
  simp only at e
  split at e
  · cases qx; cases qy; cases e
    exact ⟨_, _, rfl, rfl, q⟩
  · cases e
theorem op_cmpGt : OpR X (compareOp .Gt) (rCmp X.K .gt) := by
  refine OpR_mono (op_gt (X := X)) fun x y H Q h => ?_
  obtain ⟨w, u, v, ⟨rfl, R, hb⟩, qx, qy, c, e, q⟩ := h
  unfold cmp at e
  simp only at e
  split at e
  · cases qx; cases qy; cases e
    exact ⟨_, _, rfl, rfl, q⟩
  · cases e
theorem op_cmpGe : OpR X (compareOp .GtE) (rCmp X.K .ge) := by
  refine OpR_mono (op_ge (X := X)) fun x y H Q h => ?_
  obtain ⟨w, u, v, ⟨rfl, R, hb⟩, qx, qy, c, e, q⟩ := h
  unfold cmp at e
  simp only at e
  split at e
  · cases qx; cases qy; cases e
    exact ⟨_, _, rfl, rfl, q⟩
  · cases e
theorem flat_V {K : PySem.W.Frag} {L : Addr → Prop} {r : List Addr} {H : Hp} {x : V} {v : Val} (q : Rp K L r H x v) (f : flat v = true) : flatV x = true := by
  cases q <;> first | rfl | cases f
theorem flat_eq {K : PySem.W.Frag} {L : Addr → Prop} {r : List Addr} {H : Hp} {x y : V} {u v : Val} (p : Rp K L r H x u) (q : Rp K L r H y v) (f : flat u = true) (g : flat v = true) : eqV x y = PyData.eqv (toD u) (toD v) := by
  cases p <;> (try (cases f; done)) <;> cases q <;> (try (cases g; done)) <;> simp [toD, eqV, PyData.eqv]
theorem flatL_V {K : PySem.W.Frag} {L : Addr → Prop} {r : List Addr} {H : Hp} : ∀ {xs : List V} {l : List Val}, RpL K L r H xs l → l.all flat = true → xs.all flatV = true
  | _, _, .nil, _ => rfl
  | _, _, .cons q t, f => by
    rw [List.all_cons, Bool.and_eq_true] at f
    rw [List.all_cons, Bool.and_eq_true]
    exact ⟨flat_V q f.1, flatL_V t f.2⟩
theorem inl_V {K : PySem.W.Frag} {L : Addr → Prop} {r : List Addr} {H : Hp} {x : V} {v : Val} (p : Rp K L r H x v) (g : flat v = true) : ∀ {xs : List V} {l : List Val}, RpL K L r H xs l → l.all flat = true → inV x xs = inl (toD v) l
  | _, _, .nil, _ => rfl
  | _, _, .cons q t, f => by
    rw [List.all_cons, Bool.and_eq_true] at f
    have := inl_V p g t f.2
    unfold inV inl at *
    rw [List.any_cons, List.any_cons, this, flat_eq q p f.1 g]
theorem any_toD (d : PyData) : ∀ l : List Val, (toDL l).any (fun z => PyData.eqv z d) = inl d l
  | [] => rfl
  | v :: l => by
    have := any_toD d l
    unfold inl at *
    simp only [toDL, List.any_cons, this]
theorem cmpIn_ok {K : PySem.W.Frag} {w : Wd} {x y : V} {u v : Val} {c : Bool} (R : Rel K w) (qx : Rv K w x u) (qy : Rv K w y v) (e : cmpIn u v w.h = some c) :
    (∃ p xs, y = .ref p ∧ (SqL K w.H p xs ∨ SqT K w.H p xs) ∧ flatV x = true ∧ xs.all flatV = true ∧ inV x xs = c) ∨
    (∃ d ds, Dp K w.H x d ∧ Dp K w.H y (.list ds) ∧ SeqAt.shaped d = true ∧ SeqAt.shaped (.list ds) = true ∧ (ds.any fun z => PyData.eqv z d) = c) ∨
    (∃ d ds, Dp K w.H x d ∧ Dp K w.H y (.tuple ds) ∧ SeqAt.shaped d = true ∧ SeqAt.shaped (.list ds) = true ∧ (ds.any fun z => PyData.eqv z d) = c) := by
  unfold cmpIn at e
  split at e
  · cases qy with
    | tup a b =>
      split at e
      · rename_i hf
        cases e
        rw [Bool.and_eq_true] at hf
        exact .inl ⟨_, _, rfl, .inr a, flat_V qx hf.1, flatL_V b hf.2, inl_V qx hf.1 b hf.2⟩
      · split at e
        · rename_i d e1
          split at e
          · rename_i hs
            cases e
            obtain ⟨p1, s1⟩ := pe_dp R qx e1
            have := shpL_lay hs
            exact .inr (.inr ⟨d, _, p1, .tup a (dpL_shp hs b), s1, shaped_of ⟨this.1, by omega⟩, any_toD d _⟩)
          · cases e
        · cases e
  · split at e
    · rename_i d l e1 e2
      split at e
      · rename_i hs
        cases e
        obtain ⟨p1, s1⟩ := pe_dp R qx e1
        obtain ⟨a, xs, rfl, h1, h2⟩ := R.lits qy e2
        have := shpL_lay hs
        exact .inr (.inl ⟨d, toDL l, p1, .lst (SqL.of h1) (dpL_shp hs h2), s1, shaped_of ⟨this.1, by omega⟩, any_toD d l⟩)
      · cases e
    · cases e
def rInT (K : PySem.W.Frag) : R2 := fun x y H Q => ∃ d ds, Dp K H x d ∧ Dp K H y (.tuple ds) ∧ SeqAt.shaped d = true ∧ SeqAt.shaped (.list ds) = true ∧ Q (.bl (ds.any fun z => PyData.eqv z d)) H
def rNotInT (K : PySem.W.Frag) : R2 := fun x y H Q => ∃ d ds, Dp K H x d ∧ Dp K H y (.tuple ds) ∧ SeqAt.shaped d = true ∧ SeqAt.shaped (.list ds) = true ∧ Q (.bl (!ds.any fun z => PyData.eqv z d)) H
theorem op_inT (hu : X.A.units + 65 < cLine) : OpR X (compareOp .In) (rInT X.K) := by
  intro pins s σ H x y v u Q I rx ry h
  obtain ⟨d, ds, hd, he, sd, se, q⟩ := h
  obtain ⟨as, r1⟩ := Dp.reads I d x v hd rx
  obtain ⟨bs, r2⟩ := Dp.reads I (.tuple ds) y u he ry
  exact SeqAt.in_tuple_reads r2 r1 (SeqAt.canLay_of_shaped se) (SeqAt.canLay_of_shaped sd) (room_in_shaped sd hu) ⟨.bl _, H, I, rfl, q⟩
theorem op_notInT (hu : X.A.units + 65 < cLine) : OpR X (compareOp .NotIn) (rNotInT X.K) := by
  intro pins s σ H x y v u Q I rx ry h
  obtain ⟨d, ds, hd, he, sd, se, q⟩ := h
  obtain ⟨as, r1⟩ := Dp.reads I d x v hd rx
  obtain ⟨bs, r2⟩ := Dp.reads I (.tuple ds) y u he ry
  exact SeqAt.notIn_tuple_reads r2 r1 (SeqAt.canLay_of_shaped se) (SeqAt.canLay_of_shaped sd) (room_in_shaped sd hu) ⟨.bl _, H, I, rfl, q⟩
theorem op_cmpIn (hu : X.A.units + 65 < cLine) : OpR X (compareOp .In) (rCmp X.K .inn) := by
  refine OpR_mono ((op_in_seq (X := X)).or ((op_inD hu).or (op_inT hu))) fun x y H Q h => ?_
  obtain ⟨w, u, v, ⟨rfl, R, hb⟩, qx, qy, c, e, q⟩ := h
  rcases cmpIn_ok R qx qy e with ⟨p, xs, h1, h2, h3, h4, rfl⟩ | ⟨d, ds, h1, h2, h3, h4, rfl⟩ | ⟨d, ds, h1, h2, h3, h4, rfl⟩
  · exact .inl ⟨p, xs, h1, h2, h3, h4, q⟩
  · exact .inr (.inl ⟨d, ds, h1, h2, h3, h4, q⟩)
  · exact .inr (.inr ⟨d, ds, h1, h2, h3, h4, q⟩)
theorem op_cmpNin (hu : X.A.units + 65 < cLine) : OpR X (compareOp .NotIn) (rCmp X.K .nin) := by
  refine OpR_mono ((op_notIn_seq (X := X)).or ((op_notInD hu).or (op_notInT hu))) fun x y H Q h => ?_
  obtain ⟨w, u, v, ⟨rfl, R, hb⟩, qx, qy, c, e, q⟩ := h
  unfold cmp at e
  simp only [Option.map_eq_some_iff] at e
  obtain ⟨c', e, rfl⟩ := e
  rcases cmpIn_ok R qx qy e with ⟨p, xs, h1, h2, h3, h4, rfl⟩ | ⟨d, ds, h1, h2, h3, h4, rfl⟩ | ⟨d, ds, h1, h2, h3, h4, rfl⟩
  · exact .inl ⟨p, xs, h1, h2, h3, h4, q⟩
  · exact .inr (.inl ⟨d, ds, h1, h2, h3, h4, q⟩)
  · exact .inr (.inr ⟨d, ds, h1, h2, h3, h4, q⟩)
def copOf : Cop → CmpOp
  | .eq => .Eq
  | .ne => .NotEq
  | .lt => .Lt
  | .le => .LtE
  | .gt => .Gt
  | .ge => .GtE
  | .inn => .In
  | .nin => .NotIn
theorem op_cmp (hu : X.A.units + 65 < cLine) : ∀ o, OpR X (compareOp (copOf o)) (rCmp X.K o)
  | .eq => op_cmpEq hu
  | .ne => op_cmpNe hu
  | .lt => op_cmpLt
  | .le => op_cmpLe
  | .gt => op_cmpGt
  | .ge => op_cmpGe
  | .inn => op_cmpIn hu
  | .nin => op_cmpNin hu
end
end MP

set_option maxHeartbeats 1000000
/-! MiniD: subscripts, slices, built-ins, methods, isinstance, by values. -/
namespace MP
open PySem PySem.Spec PyProof.Rows L2
section
variable {X : Cx} {b : Nat}
/-! ### subscripts -/
theorem ixm_eq (n : Nat) (i : Int) : ixm n i = ixN n i := rfl
theorem ixv_at {K : PySem.W.Frag} {L : Addr → Prop} {r : List Addr} {H : Hp} {xs : List V} {l : List Val} {i : Int} {v : Val} (q : RpL K L r H xs l) (e : ixv l i = some v) : ∃ x, atI xs i = some x ∧ Rp K L r H x v := by
  unfold ixv at e
  rw [ixm_eq, ← q.length] at e
  obtain ⟨j, e1, e2⟩ := Option.bind_eq_some_iff.mp e
  obtain ⟨x, h1, h2⟩ := q.get e2
  refine ⟨x, ?_, h2⟩
  unfold atI
  rw [e1]
  exact h1
def rIdx (K : PySem.W.Frag) : R2 := fun x y H Q => ∃ w u i l v, At K 0 H w ∧ Rv K w x u ∧ y = .int i ∧ sits u w.h = some l ∧ ixv l i = some v ∧ ∀ z, Rv K w z v → Q z H
theorem ix_idx : IxR X (rIdx X.K) := by
  intro value slice pins s σ H x y v u Q I rx ry h hs
  refine ix_seq (X := X) value slice pins s σ H x y v u Q I rx ry ?_ hs
  obtain ⟨w, u, i, l, v, ⟨rfl, R, _⟩, qx, rfl, e1, e2, q⟩ := h
  obtain ⟨a, xs, rfl, hs, q1⟩ := R.sits qx e1
  obtain ⟨z, e3, q2⟩ := ixv_at q1 e2
  rcases hs with hs | hs
  · exact .inl ⟨a, xs, i, z, rfl, rfl, hs, e3, q z q2⟩
  · exact .inr (.inl ⟨a, xs, i, z, rfl, rfl, hs, e3, q z q2⟩)
/-! ### slices -/
theorem six_eq (n d : Nat) (i : Option Int) : six n d i = HT.sIx n d i := by
  cases i <;> rfl
theorem cut_rp {K : PySem.W.Frag} {L : Addr → Prop} {r : List Addr} {H : Hp} {xs : List V} {l : List Val} (lo hi : Option Int) (q : RpL K L r H xs l) : RpL K L r H (cutV xs lo hi) (cut l lo hi) := by
  unfold cut cutV
  rw [six_eq, six_eq, ← q.length]
  exact (q.drop _).take _
def rSlc (K : PySem.W.Frag) (b : Nat) (bx : Bool) : V → Option Int → Option Int → Hp → VK → Prop := fun x lo hi H Q => ∃ w u, At K b H w ∧ Rv K w x u ∧ OK K b w ((ofO (slc u lo hi w.h) w.h).bind (fin bx)) Q
theorem SlR_mono {r r' : V → Option Int → Option Int → Hp → VK → Prop} (h : SlR X r) (k : ∀ x l u H Q, r' x l u H Q → r x l u H Q) : SlR X r' := fun pins s σ H x v vl vu lo hi sl Q I rx hs pl pu q => h pins s σ H x v vl vu lo hi sl Q I rx hs pl pu (k _ _ _ _ _ q)
theorem sl_slc {bx : Bool} : SlR X (rSlc X.K b bx) := by
  refine SlR_mono ((sl_tupA (X := X)).or sl_list) fun x lo hi H Q h => ?_
  obtain ⟨w, u, ⟨rfl, R, hb⟩, qx, ok⟩ := h
  obtain ⟨r, e, ok⟩ := ok.some
  unfold slc at e
  split at e
  · cases qx with
    | tup a1 a2 =>
      cases e
      rename_i l _ a xs
      refine .inl ⟨_, _, rfl, a1, fun z => ?_, fun _ => ok.tup R (cut_rp lo hi a2)⟩
      have e2 : cut l lo hi = l := by
        unfold cut
        rw [six_eq, six_eq, ← a2.length, z.1, z.2, Nat.sub_zero, a2.length, List.drop_zero, List.take_length]
      rw [e2] at ok
      exact ok.same R (.tup a1 a2)
  · split at e
    · rename_i l e1
      cases e
      obtain ⟨a, xs, rfl, h1, h2⟩ := R.lits qx e1
      exact .inr ⟨_, _, rfl, SqL.of h1, ok.lst R hb (cut_rp lo hi h2)⟩
    · cases e
/-! ### built-ins -/
def rBi (K : PySem.W.Frag) (b : Nat) (f : Bi) (bx : Bool) : List V → Hp → VK → Prop := fun xs H Q => ∃ w vs, At K b H w ∧ RvL K w xs vs ∧ OK K b w ((ofO (bi f vs w.h) w.h).bind (fin bx)) Q
theorem CallR_mono {f : Value} {r r' : List V → Hp → VK → Prop} (h : CallR X f r) (k : ∀ xs H Q, r' xs H Q → r xs H Q) : CallR X f r' := fun pins s σ H xs us Q I rv q => h pins s σ H xs us Q I rv (k _ _ _ q)
theorem CallR_or {f : Value} {r r' : List V → Hp → VK → Prop} (h : CallR X f r) (h' : CallR X f r') : CallR X f (fun xs H Q => r xs H Q ∨ r' xs H Q) := fun pins s σ H xs us Q I rv q => by
  rcases q with q | q
  · exact h pins s σ H xs us Q I rv q
  · exact h' pins s σ H xs us Q I rv q
theorem rl1 {K : PySem.W.Frag} {L : Addr → Prop} {r : List Addr} {H : Hp} {xs : List V} {v : Val} (q : RpL K L r H xs [v]) : ∃ x, xs = [x] ∧ Rp K L r H x v := by
  cases q with
  | cons q t => cases t; exact ⟨_, rfl, q⟩
theorem rl2 {K : PySem.W.Frag} {L : Addr → Prop} {r : List Addr} {H : Hp} {xs : List V} {v u : Val} (q : RpL K L r H xs [v, u]) : ∃ x y, xs = [x, y] ∧ Rp K L r H x v ∧ Rp K L r H y u := by
  cases q with
  | cons q t => cases t with | cons p t => cases t; exact ⟨_, _, rfl, q, p⟩
theorem cb_len {bx : Bool} : CallR X (.builtin "len") (rBi X.K b .len bx) := by
  refine CallR_mono (call_len (X := X)) fun xs H Q h => ?_
  obtain ⟨w, vs, ⟨rfl, R, hb⟩, qx, ok⟩ := h
  obtain ⟨r, e, ok⟩ := ok.some
  unfold bi at e
  split at e <;> try (rename_i hh; cases hh; done)
  · split at e
    · rename_i hz
      cases e
      obtain ⟨x, rfl, q⟩ := rl1 qx
      cases q
      exact ⟨_, _, rfl, ⟨by rw [← sz_line]; exact hz, rfl⟩, ok.same R (.int _)⟩
    · cases e
  · obtain ⟨l, e1, e2⟩ := Option.map_eq_some_iff.mp e
    subst e2
    obtain ⟨x, rfl, q⟩ := rl1 qx
    obtain ⟨a, ys, rfl, hs, q1⟩ := R.sits q e1
    refine ⟨_, ys.length, rfl, ?_, by rw [q1.length]; exact ok.same R (.int _)⟩
    rcases hs with hs | hs
    · exact .inl ⟨_, hs, rfl⟩
    · exact .inr ⟨_, hs, rfl⟩
  · cases e
theorem cb_abs {bx : Bool} : CallR X (.builtin "abs") (rBi X.K b .abs bx) := by
  refine CallR_mono (call_abs (X := X)) fun xs H Q h => ?_
  obtain ⟨w, vs, ⟨rfl, R, hb⟩, qx, ok⟩ := h
  obtain ⟨r, e, ok⟩ := ok.some
  unfold bi at e
  split at e <;> try (rename_i hh; cases hh; done)
  · cases e
    obtain ⟨x, rfl, q⟩ := rl1 qx
    cases q
    exact ⟨_, rfl, ok.same R (.int _)⟩
  · cases e
theorem cb_min2 {bx : Bool} (hc : X.calm = true) : CallR X (.builtin "min") (rBi X.K b .min2 bx) := by
  refine CallR_mono (call_min2 hc) fun xs H Q h => ?_
  obtain ⟨w, vs, ⟨rfl, R, hb⟩, qx, ok⟩ := h
  obtain ⟨r, e, ok⟩ := ok.some
  unfold bi at e
  split at e <;> try (rename_i hh; cases hh; done)
  · cases e
    obtain ⟨x, y, rfl, q, p⟩ := rl2 qx
    cases q; cases p
    exact ⟨_, _, rfl, ok.same R (.int _)⟩
  · cases e
theorem cb_max2 {bx : Bool} (hc : X.calm = true) : CallR X (.builtin "max") (rBi X.K b .max2 bx) := by
  refine CallR_mono (call_max2 hc) fun xs H Q h => ?_
  obtain ⟨w, vs, ⟨rfl, R, hb⟩, qx, ok⟩ := h
  obtain ⟨r, e, ok⟩ := ok.some
  unfold bi at e
  split at e <;> try (rename_i hh; cases hh; done)
  · cases e
    obtain ⟨x, y, rfl, q, p⟩ := rl2 qx
    cases q; cases p
    exact ⟨_, _, rfl, ok.same R (.int _)⟩
  · cases e
theorem rl3 {K : PySem.W.Frag} {L : Addr → Prop} {r : List Addr} {H : Hp} {xs : List V} {a b c : Val} (q : RpL K L r H xs [a, b, c]) : ∃ x y z, xs = [x, y, z] ∧ Rp K L r H x a ∧ Rp K L r H y b ∧ Rp K L r H z c := by
  cases q with
  | cons q1 q => cases q with
    | cons q2 q => cases q with
      | cons q3 q => cases q; exact ⟨_, _, _, rfl, q1, q2, q3⟩
theorem nuMax3_int (i j k : Int) : nuMax3 (.int i) (.int j) (.int k) = some (.int (max (max i j) k)) := by
  have h2 : ∀ i j : Int, nuMax2 (.int i) (.int j) = some (.int (max i j)) := fun i j => by
    show some (if decide (i < j) = true then V.int j else V.int i) = _
    by_cases e : i < j
    · rw [if_pos (decide_eq_true e)]; rw [Int.max_eq_right (by omega)]
    · rw [if_neg (by simpa using e), Int.max_eq_left (by omega)]
  unfold nuMax3
  rw [h2, Option.bind_some, h2]
theorem nuMin3_int (i j k : Int) : nuMin3 (.int i) (.int j) (.int k) = some (.int (min (min i j) k)) := by
  have h2 : ∀ i j : Int, nuMin2 (.int i) (.int j) = some (.int (min i j)) := fun i j => by
    show some (if decide (j < i) = true then V.int j else V.int i) = _
    by_cases e : j < i
    · rw [if_pos (decide_eq_true e)]; rw [Int.min_eq_right (by omega)]
    · rw [if_neg (by simpa using e), Int.min_eq_left (by omega)]
  unfold nuMin3
  rw [h2, Option.bind_some, h2]
theorem cb_max3 {bx : Bool} (hc : X.calm = true) : CallR X (.builtin "max") (rBi X.K b .max3 bx) := by
  refine CallR_mono (call_max3Nu hc) fun xs H Q h => ?_
  obtain ⟨w, vs, ⟨rfl, R, hb⟩, qx, ok⟩ := h
  obtain ⟨r, e, ok⟩ := ok.some
  unfold bi at e
  split at e <;> try (rename_i hh; cases hh; done)
  · cases e
    obtain ⟨x, y, z, rfl, q, p, t⟩ := rl3 qx
    cases q; cases p; cases t
    exact ⟨_, _, _, _, rfl, nuMax3_int .., ok.same R (.int _)⟩
  · cases e
theorem cb_min3 {bx : Bool} (hc : X.calm = true) : CallR X (.builtin "min") (rBi X.K b .min3 bx) := by
  refine CallR_mono (call_min3Nu hc) fun xs H Q h => ?_
  obtain ⟨w, vs, ⟨rfl, R, hb⟩, qx, ok⟩ := h
  obtain ⟨r, e, ok⟩ := ok.some
  unfold bi at e
  split at e <;> try (rename_i hh; cases hh; done)
  · cases e
    obtain ⟨x, y, z, rfl, q, p, t⟩ := rl3 qx
    cases q; cases p; cases t
    exact ⟨_, _, _, _, rfl, nuMin3_int .., ok.same R (.int _)⟩
  · cases e
theorem foldMax (l : List Int) : ∀ x : Int, (∀ y ∈ l, y ≤ l.foldl (fun a b => if b > a then b else a) x) ∧ x ≤ l.foldl (fun a b => if b > a then b else a) x ∧ (l.foldl (fun a b => if b > a then b else a) x = x ∨ l.foldl (fun a b => if b > a then b else a) x ∈ l) := by
  induction l with
  | nil => intro x; simp
  | cons z l ih =>
    intro x
    obtain ⟨h1, h2, h3⟩ := ih (if z > x then z else x)
    simp only [List.foldl_cons, List.mem_cons]
    refine ⟨?_, ?_, ?_⟩
    · rintro y (rfl | hy)
      · refine Int.le_trans ?_ h2
        split <;> omega
      · exact h1 y hy
    · refine Int.le_trans ?_ h2
      split <;> omega
    · rcases h3 with h3 | h3
      · rw [h3]
        split
        · exact .inr (.inl rfl)
        · exact .inl rfl
      · exact .inr (.inr h3)
theorem foldMin (l : List Int) : ∀ x : Int, (∀ y ∈ l, l.foldl (fun a b => if b < a then b else a) x ≤ y) ∧ l.foldl (fun a b => if b < a then b else a) x ≤ x ∧ (l.foldl (fun a b => if b < a then b else a) x = x ∨ l.foldl (fun a b => if b < a then b else a) x ∈ l) := by
  induction l with
  | nil => intro x; simp
  | cons z l ih =>
    intro x
    obtain ⟨h1, h2, h3⟩ := ih (if z < x then z else x)
    simp only [List.foldl_cons, List.mem_cons]
    refine ⟨?_, ?_, ?_⟩
    · rintro y (rfl | hy)
      · refine Int.le_trans h2 ?_
        split <;> omega
      · exact h1 y hy
    · refine Int.le_trans h2 ?_
      split <;> omega
    · rcases h3 with h3 | h3
      · rw [h3]
        split
        · exact .inr (.inl rfl)
        · exact .inl rfl
      · exact .inr (.inr h3)
theorem holdAll_ints {h : Heap} : ∀ {us : List Value} {ns : List Int} (r : Vals (ns.map V.int) us), PySem.W.HoldAll h us ns
  | [], [], _ => ⟨[], .nil⟩
  | _ :: _, n :: ns, .cons r1 rs => by
    obtain ⟨t, rfl⟩ := r1
    have e : Reads h (.int n t) (PyData.int n) [] := .int n t
    exact .cons ⟨[], e⟩ (holdAll_ints rs)
  | [], _ :: _, r => by cases r
  | _ :: _, [], r => by cases r
def rMinT (K : PySem.W.Frag) : List V → Hp → VK → Prop := fun vs H Q => ∃ (a : Addr) (n : Int) (ns : List Int), vs = [V.ref a] ∧ SqT K H a ((n :: ns).map V.int) ∧ Q (.int (ns.foldl (fun a b => if b < a then b else a) n)) H
theorem cr_minT (hc : X.calm = true) (hu : X.A.units + 65 < cLine) : CallR X (.builtin "min") (rMinT X.K) := by
  intro pins s σ H vs us Q I r h
  obtain ⟨a, n, ns, rfl, hs, q⟩ := h
  obtain ⟨its, rv, hl, _⟩ := I.tuple hs
  rw [Vals.ref1 r]
  have hh : PySem.W.HoldAll s.heap its (n :: ns) := holdAll_ints rv
  obtain ⟨o, ho, hcl, n2, hd⟩ := hl
  refine PySem.W.min_tuple_datum (α := Int) (x := n) (xs := ns) (vs := its.toArray) (I.ok.hd hc) ⟨o, ho, hcl, n2, hd⟩ (by simpa using hh) (by show X.A.units + 1 + 0 < cLine; omega) fun i v h' tk _ hv hk => ?_
  obtain ⟨as, hv⟩ := hv
  have e : PySem.W.minOf n ns = ns.foldl (fun a b => if b < a then b else a) n := by
    unfold PySem.W.minOf
    congr 1
    funext a b
    show (if decide (b < a) = true then b else a) = _
    simp only [decide_eq_true_eq]
  rw [e] at hv
  change Reads h' v (PyData.int _) as at hv
  cases hv
  exact ⟨.int _, H, I.kept hk, ⟨_, rfl⟩, q⟩
theorem cb_minL {bx : Bool} (hc : X.calm = true) (hu : X.A.units + 65 < cLine) : CallR X (.builtin "min") (rBi X.K b .minL bx) := by
  refine CallR_mono (CallR_or (cr_min hc) (cr_minT hc hu)) fun xs H Q h => ?_
  obtain ⟨w, vs, ⟨rfl, R, hb⟩, qx, ok⟩ := h
  obtain ⟨r, e, ok⟩ := ok.some
  unfold bi at e
  split at e <;> try (rename_i hh; cases hh; done)
  · obtain ⟨x, rfl, q⟩ := rl1 qx
    obtain ⟨l, e1, e⟩ := Option.bind_eq_some_iff.mp e
    obtain ⟨ns, e2, e⟩ := Option.bind_eq_some_iff.mp e
    obtain ⟨m, e3, e⟩ := Option.map_eq_some_iff.mp e
    subst e
    obtain ⟨a, ys, rfl, hs, q1⟩ := R.sits q e1
    have := q1.ints e2
    subst this
    cases ns with
    | nil => cases e3
    | cons n ns =>
      obtain ⟨f1, f2, f3⟩ := foldMin ns n
      simp only [minI, Option.some.injEq] at e3
      subst e3
      rcases hs with hs | hs
      · refine .inl ⟨a, n :: ns, rfl, hs, by simp, fun m hm hl => ?_⟩
        have : m = ns.foldl (fun a b => if b < a then b else a) n := by
          have a1 := hl (ns.foldl (fun a b => if b < a then b else a) n) (by rcases f3 with f3 | f3; rw [f3]; exact List.mem_cons_self; exact List.mem_cons_of_mem _ f3)
          rcases List.mem_cons.mp hm with rfl | hm
          · omega
          · have := f1 m hm; omega
        subst this
        exact ok.same R (.int _)
      · exact .inr ⟨a, n, ns, rfl, hs, ok.same R (.int _)⟩
  · cases e
theorem cb_maxL {bx : Bool} (hc : X.calm = true) : CallR X (.builtin "max") (rBi X.K b .maxL bx) := by
  refine CallR_mono (cr_max hc) fun xs H Q h => ?_
  obtain ⟨w, vs, ⟨rfl, R, hb⟩, qx, ok⟩ := h
  obtain ⟨r, e, ok⟩ := ok.some
  unfold bi at e
  split at e <;> try (rename_i hh; cases hh; done)
  · obtain ⟨x, rfl, q⟩ := rl1 qx
    obtain ⟨l, e1, e⟩ := Option.bind_eq_some_iff.mp e
    obtain ⟨ns, e2, e⟩ := Option.bind_eq_some_iff.mp e
    obtain ⟨m, e3, e⟩ := Option.map_eq_some_iff.mp e
    subst e
    obtain ⟨a, ys, rfl, h1, q1⟩ := R.lits q e1
    have := q1.ints e2
    subst this
    cases ns with
    | nil => cases e3
    | cons n ns =>
      obtain ⟨f1, f2, f3⟩ := foldMax ns n
      simp only [maxI, Option.some.injEq] at e3
      subst e3
      refine ⟨a, n :: ns, rfl, SqL.of h1, by simp, fun m hm hl => ?_⟩
      have : m = ns.foldl (fun a b => if b > a then b else a) n := by
        have a1 := hl (ns.foldl (fun a b => if b > a then b else a) n) (by rcases f3 with f3 | f3; rw [f3]; exact List.mem_cons_self; exact List.mem_cons_of_mem _ f3)
        rcases List.mem_cons.mp hm with rfl | hm
        · omega
        · have := f1 m hm; omega
      subst this
      exact ok.same R (.int _)
  · cases e
/-- sum of a tuple of ints -/
theorem sum_tupG {prog : Program} {w : World} {A : Around} {E : Value → Shared → Prop} {s : Shared} {l : Addr} {xs : Array (Int × Tok)} {Q : Value → Shared → Prop} (hh : A.handled = none) (hl : s.heap.IsTuple l (intItems xs))
    (h : ∀ h' tk t', (∀ b o, s.heap.get? b = some o → h'.get? b = some o) → Q (.int (preSum (numAt xs) xs.size) t') { s with heap := h', toks := tk }) :
    wpAny (model prog w) A (call (.builtin "sum") [.ref l]) Q E s := by
  have hlt : l < s.heap.objs.size := by obtain ⟨o, ho, _⟩ := id hl; exact Heap.lt_size ho
  refine call_sum_walkG (wpAny_pyIter_tuple hl ?_)
  have hsz := @Heap.size_push
  refine ⟨_, _, _, _, _, _, numAt xs, rfl, Walks.tuple (A := A.in1) hh _ l (Nat.ne_of_lt hlt) (intItems xs),
    ⟨⟨_, Heap.get?_push_size _ rfl, rfl, rfl⟩, hl.push _⟩, fun c hc => ?_, (fun _ _ => intItems_at), fun h' tk t' hk => ?_⟩
  · show c < (s.heap.push _).objs.size
    rw [hsz]
    rcases List.mem_cons.mp hc with rfl | hc
    · exact Nat.lt_succ_self _
    · rcases List.mem_cons.mp hc with rfl | hc
      · exact Nat.lt_succ_of_lt hlt
      · cases hc
  · have hold : ∀ c o, s.heap.get? c = some o → h'.get? c = some o := fun c o e => by
      refine hk c o (fun hm => ?_) (Heap.get?_push_of_some _ e)
      rcases List.mem_cons.mp hm with rfl | hm
      · exact absurd (Heap.lt_size e) (Nat.lt_irrefl _)
      · cases hm
    have := h h' tk t' hold
    simpa [intItems] using this
def rSumT (K : PySem.W.Frag) : List V → Hp → VK → Prop := fun vs H Q => ∃ (a : Addr) (ns : List Int), vs = [V.ref a] ∧ SqT K H a (ns.map V.int) ∧ Q (.int ns.sum) H
theorem cr_sumT (hc : X.calm = true) : CallR X (.builtin "sum") (rSumT X.K) := by
  intro pins s σ H vs us Q I r h
  obtain ⟨a, ns, rfl, hs, q⟩ := h
  obtain ⟨its, rv, hl, _⟩ := I.tuple hs
  rw [Vals.ref1 r]
  have hi := rv.ints
  obtain ⟨xs, e⟩ := hi.allInts.items
  have hn : numsOf (intItems xs).toList = ns := by rw [← e]; exact hi.numsOf
  rw [nums_intItems] at hn
  rw [e] at hl
  obtain ⟨o, ho, hcl, n, hd⟩ := hl
  refine sum_tupG (I.ok.hd hc) ⟨o, ho, hcl, n, hd⟩ fun h' tk t' hk => ?_
  rw [preSum_eq, List.take_of_length_le (by simp), hn]
  exact ⟨.int _, H, I.kept hk, ⟨_, rfl⟩, q⟩
theorem cb_sum {bx : Bool} (hc : X.calm = true) : CallR X (.builtin "sum") (rBi X.K b .sum bx) := by
  refine CallR_mono (CallR_or (cr_sum hc) (cr_sumT hc)) fun xs H Q h => ?_
  obtain ⟨w, vs, ⟨rfl, R, hb⟩, qx, ok⟩ := h
  obtain ⟨r, e, ok⟩ := ok.some
  unfold bi at e
  split at e <;> try (rename_i hh; cases hh; done)
  · obtain ⟨x, rfl, q⟩ := rl1 qx
    obtain ⟨l, e1, e⟩ := Option.bind_eq_some_iff.mp e
    obtain ⟨ns, e2, e⟩ := Option.map_eq_some_iff.mp e
    subst e
    obtain ⟨a, ys, rfl, hs, q1⟩ := R.sits q e1
    have := q1.ints e2
    subst this
    rcases hs with hs | hs
    · exact .inl ⟨a, ns, rfl, hs, ok.same R (.int _)⟩
    · exact .inr ⟨a, ns, rfl, hs, ok.same R (.int _)⟩
  · cases e
theorem cb_all {bx : Bool} (hc : X.calm = true) : CallR X (.builtin "all") (rBi X.K b .all bx) := by
  refine CallR_mono (cr_all hc) fun xs H Q h => ?_
  obtain ⟨w, vs, ⟨rfl, R, hb⟩, qx, ok⟩ := h
  obtain ⟨r, e, ok⟩ := ok.some
  unfold bi at e
  split at e <;> try (rename_i hh; cases hh; done)
  · obtain ⟨x, rfl, q⟩ := rl1 qx
    obtain ⟨l, e1, e⟩ := Option.bind_eq_some_iff.mp e
    obtain ⟨ns, e2, e⟩ := Option.map_eq_some_iff.mp e
    subst e
    obtain ⟨a, ys, rfl, hs, q1⟩ := R.lits q e1
    have := q1.bls e2
    subst this
    exact ⟨a, ns, rfl, SqL.of hs, ok.same R (.bl _)⟩
  · cases e
theorem cb_any {bx : Bool} (hc : X.calm = true) : CallR X (.builtin "any") (rBi X.K b .any bx) := by
  refine CallR_mono (cr_any hc) fun xs H Q h => ?_
  obtain ⟨w, vs, ⟨rfl, R, hb⟩, qx, ok⟩ := h
  obtain ⟨r, e, ok⟩ := ok.some
  unfold bi at e
  split at e <;> try (rename_i hh; cases hh; done)
  · obtain ⟨x, rfl, q⟩ := rl1 qx
    obtain ⟨l, e1, e⟩ := Option.bind_eq_some_iff.mp e
    obtain ⟨ns, e2, e⟩ := Option.map_eq_some_iff.mp e
    subst e
    obtain ⟨a, ys, rfl, hs, q1⟩ := R.lits q e1
    have := q1.bls e2
    subst this
    exact ⟨a, ns, rfl, SqL.of hs, ok.same R (.bl _)⟩
  · cases e
theorem insI_perm (x : Int) : ∀ l, (insI x l).Perm (x :: l)
  | [] => .refl _
  | y :: l => by
    unfold insI
    split
    · exact .refl _
    · exact ((insI_perm x l).cons y).trans (.swap x y l)
theorem sortI_perm : ∀ l, (sortI l).Perm l
  | [] => .refl _
  | x :: l => (insI_perm x _).trans ((sortI_perm l).cons x)
theorem insI_sorted (x : Int) : ∀ l : List Int, l.Pairwise (· ≤ ·) → (insI x l).Pairwise (· ≤ ·)
  | [], _ => by simp [insI]
  | y :: l, h => by
    unfold insI
    rw [List.pairwise_cons] at h
    split
    · rename_i hxy
      rw [List.pairwise_cons]
      refine ⟨fun z hz => ?_, List.pairwise_cons.mpr h⟩
      rcases List.mem_cons.mp hz with rfl | hz
      · exact hxy
      · have := h.1 z hz; omega
    · rename_i hxy
      rw [List.pairwise_cons]
      refine ⟨fun z hz => ?_, insI_sorted x l h.2⟩
      rcases List.mem_cons.mp ((insI_perm x l).mem_iff.mp hz) with rfl | hz
      · omega
      · exact h.1 z hz
theorem sortI_sorted : ∀ l, (sortI l).Pairwise (· ≤ ·)
  | [] => .nil
  | x :: l => insI_sorted x _ (sortI_sorted l)
theorem sorted_uniq {l m : List Int} (hl : l.Pairwise (· ≤ ·)) (hm : m.Pairwise (· ≤ ·)) (p : l.Perm m) : l = m :=
  p.eq_of_pairwise (fun a b _ _ h1 h2 => Int.le_antisymm h1 h2) hl hm
theorem cb_sorted {bx : Bool} : CallR X (.builtin "sorted") (rBi X.K b .sorted bx) := by
  refine CallR_mono (cr_sortedI (X := X)) fun xs H Q h => ?_
  obtain ⟨w, vs, ⟨rfl, R, hb⟩, qx, ok⟩ := h
  obtain ⟨r, e, ok⟩ := ok.some
  unfold bi at e
  split at e <;> try (rename_i hh; cases hh; done)
  · obtain ⟨x, rfl, q⟩ := rl1 qx
    obtain ⟨l, e1, e⟩ := Option.bind_eq_some_iff.mp e
    obtain ⟨ns, e2, e⟩ := Option.map_eq_some_iff.mp e
    subst e
    obtain ⟨a, ys, rfl, hs, q1⟩ := R.lits q e1
    have := q1.ints e2
    subst this
    refine ⟨a, ns, rfl, SqL.of hs, fun ns' p hp ho => ?_⟩
    have : ns' = sortI ns := sorted_uniq ho (sortI_sorted ns) (hp.trans (sortI_perm ns).symm)
    subst this
    exact ok.lst R hb (RpL.of_ints _) p
  · cases e
theorem cb_tuple {bx : Bool} : CallR X (.type "tuple") (rBi X.K b .tuple bx) := by
  refine CallR_mono (call_tuple_of (X := X)) fun xs H Q h => ?_
  obtain ⟨w, vs, ⟨rfl, R, hb⟩, qx, ok⟩ := h
  obtain ⟨r, e, ok⟩ := ok.some
  unfold bi at e
  split at e <;> try (rename_i hh; cases hh; done)
  · obtain ⟨x, rfl, q⟩ := rl1 qx
    obtain ⟨l, e1, e⟩ := Option.map_eq_some_iff.mp e
    subst e
    obtain ⟨a, ys, rfl, hs, q1⟩ := R.sits q e1
    rcases hs with hs | hs
    · exact ⟨a, ys, rfl, .inl ⟨hs, ok.tup R q1⟩⟩
    · exact ⟨a, ys, rfl, .inr ⟨hs, ok.same R (.tup hs q1)⟩⟩
  · cases e
theorem cb_list {bx : Bool} : CallR X (.type "list") (rBi X.K b .list bx) := by
  refine CallR_mono (call_list_of (X := X)) fun xs H Q h => ?_
  obtain ⟨w, vs, ⟨rfl, R, hb⟩, qx, ok⟩ := h
  obtain ⟨r, e, ok⟩ := ok.some
  unfold bi at e
  split at e <;> try (rename_i hh; cases hh; done)
  · obtain ⟨x, rfl, q⟩ := rl1 qx
    obtain ⟨l, e1, e⟩ := Option.map_eq_some_iff.mp e
    subst e
    obtain ⟨a, ys, rfl, hs, q1⟩ := R.sits q e1
    exact ⟨a, ys, rfl, hs, ok.lst R hb q1⟩
  · cases e
theorem cb_int {bx : Bool} : CallR X (.type "int") (rBi X.K b .int bx) := by
  refine CallR_mono (call_int1 (X := X)) fun xs H Q h => ?_
  obtain ⟨w, vs, ⟨rfl, R, hb⟩, qx, ok⟩ := h
  obtain ⟨r, e, ok⟩ := ok.some
  unfold bi at e
  split at e <;> try (rename_i hh; cases hh; done)
  · cases e
    obtain ⟨x, rfl, q⟩ := rl1 qx
    cases q
    exact .inl ⟨_, rfl, ok.same R (.int _)⟩
  · cases e
    obtain ⟨x, rfl, q⟩ := rl1 qx
    cases q
    exact .inr ⟨_, rfl, ok.same R (.int _)⟩
  · cases e
theorem cb_str {bx : Bool} : CallR X (.type "str") (rBi X.K b .str bx) := by
  refine CallR_mono (call_str_int (X := X)) fun xs H Q h => ?_
  obtain ⟨w, vs, ⟨rfl, R, hb⟩, qx, ok⟩ := h
  obtain ⟨r, e, ok⟩ := ok.some
  unfold bi at e
  split at e <;> try (rename_i hh; cases hh; done)
  · obtain ⟨x, rfl, q⟩ := rl1 qx
    cases q
    split at e
    · rename_i hz
      cases e
      exact ⟨_, rfl, Nat.lt_of_lt_of_le (PySem.Flt.log2_lt_of (by decide) hz) (by decide), ok.same R (.str _)⟩
    · cases e
  · cases e
end
end MP

set_option maxHeartbeats 1000000
/-! MiniD2: repr. -/
namespace MP
open PySem PySem.Spec PyProof.Rows L2
section
variable {X : Cx} {b : Nat} {pins : List (Addr × Obj)} {σ : L2.St} {H : Hp} {s : Shared}
theorem dct_reads (I : Inv X pins σ H s) {a : Addr} (h : H a = some (.dK [])) : Reads s.heap (.ref a) (.dict []) [a] ∧ a ≠ sysModules := by
  obtain ⟨_, ne, vs, kv, o, es, ep, e1, e2, e3, _, e4, _⟩ := I.hok a _ h
  cases kv
  have hn : es.toList = [] := by cases hs : es.toList with
    | nil => rfl
    | cons y ys => rw [hs] at e4; cases e4
  exact ⟨Reads.dict (as := []) (bs := []) e1 e2.1 e3 (by rw [hn]; exact .nil) (by rw [hn]; exact .nil), beq_eq_false_iff_ne.mp ne⟩
/-- what a shown value reads as -/
structure ShR (n : Nat) (h : Heap) (u : Value) (d : PyData) (as : List Addr) : Prop where
  rd : Reads h u d as
  ns : sysModules ∉ as
  dp : d.depth ≤ n + 1
structure ShRL (n : Nat) (h : Heap) (u : List Value) (d : List PyData) (as : List Addr) : Prop where
  rd : ReadsAll h u d as
  ns : sysModules ∉ as
  dp : PyData.depthAll d ≤ n
theorem ShRL.nil {n : Nat} {h : Heap} : ShRL n h [] [] [] := ⟨.nil, List.not_mem_nil, Nat.zero_le _⟩
theorem ShRL.cons {n : Nat} {h : Heap} {u : Value} {us : List Value} {d : PyData} {ds : List PyData} {as bs : List Addr} (p : ShR n h u d as) (q : ShRL (n + 1) h us ds bs) : ShRL (n + 1) h (u :: us) (d :: ds) (as ++ bs) :=
  ⟨.cons p.rd q.rd, fun z => (List.mem_append.mp z).elim p.ns q.ns, by
    have := p.dp; have := q.dp
    simp only [PyData.depthAll]; omega⟩
theorem ShRL.tup {n : Nat} {h : Heap} {a : Addr} {its : List Value} {ds : List PyData} {as : List Addr} (q : ShRL n h its ds as) (i : IsTup h a its.toArray) : ShR n h (.ref a) (.tuple ds) as := by
  obtain ⟨o, ho, hc, k, hd⟩ := i
  exact ⟨Reads.tuple ho hc hd q.rd, q.ns, by have := q.dp; simp only [PyData.depth]; omega⟩
theorem ShRL.lst {n : Nat} {h : Heap} {a : Addr} {its : List Value} {ds : List PyData} {as : List Addr} (q : ShRL n h its ds as) (i : PlainL h a its.toArray) (ne : a ≠ sysModules) : ShR n h (.ref a) (.list ds) (a :: as) := by
  obtain ⟨o, k, ho, hc, _, hd⟩ := i
  exact ⟨Reads.list ho hc hd q.rd, fun z => by
    rcases List.mem_cons.mp z with z | z
    · exact ne z.symm
    · exact q.ns z, by have := q.dp; simp only [PyData.depth]; omega⟩
theorem lst_apart (I : Inv X pins σ H s) (hm : ∃ o, X.base.get? sysModules = some o) {a : Addr} {u : HO} (h : H a = some u) : a ≠ sysModules := by
  rintro rfl
  obtain ⟨o, e⟩ := hm
  have := (I.bs _ _ e).2
  rw [h] at this
  cases this
theorem sho_reads (I : Inv X pins σ H s) (hm : ∃ o, X.base.get? sysModules = some o) {L : Addr → Prop} {r : List Addr} : ∀ (n : Nat) {v : Val} {x : V} {u : Value}, sho n v = true → Rp X.K L r H x v → RelV x u → ∃ as, ShR n s.heap u (toD v) as := by
  intro n
  induction n with
  | zero =>
    intro v x u e q rv
    cases q with
    | non => cases rv; exact ⟨_, .none, List.not_mem_nil, by simp [toD, PyData.depth]⟩
    | bl b => cases rv; exact ⟨_, .bool b, List.not_mem_nil, by simp [toD, PyData.depth]⟩
    | int i => obtain ⟨k, rfl⟩ := rv; exact ⟨_, .int i k, List.not_mem_nil, by simp [toD, PyData.depth]⟩
    | str y => obtain ⟨k, rfl⟩ := rv; exact ⟨_, .str y k, List.not_mem_nil, by simp [toD, PyData.depth]⟩
    | dct0 h1 h2 =>
      cases rv
      obtain ⟨p, ne⟩ := dct_reads I h1
      exact ⟨_, p, fun z => ne (List.mem_singleton.mp z).symm, by simp [toD, PyData.depth, PyData.depthKv]⟩
    | tup h1 h2 =>
      simp only [sho, List.isEmpty_iff] at e
      subst e
      cases h2
      cases rv
      obtain ⟨its, ri, it, _⟩ := I.tuple h1
      cases ri
      exact ⟨_, by simp only [toD, toDL]; exact ShRL.nil.tup it⟩
    | lst h1 _ h2 =>
      simp only [sho, List.isEmpty_iff] at e
      subst e
      cases h2
      cases rv
      obtain ⟨its, ri, it, _⟩ := I.list (SqL.of h1)
      cases ri
      exact ⟨_, by simp only [toD, toDL]; exact ShRL.nil.lst it (lst_apart I hm h1)⟩
    | scr a => simp [sho] at e
    | ref a => simp [sho] at e
  | succ n ih =>
    have all : ∀ {l : List Val} {xs : List V} {us : List Value}, l.all (sho n) = true → RpL X.K L r H xs l → Vals xs us → ∃ as, ShRL (n + 1) s.heap us (toDL l) as := by
      intro l
      induction l with
      | nil => intro xs us _ q rv; cases q; cases rv; exact ⟨_, by simp only [toDL]; exact .nil⟩
      | cons v l ihl =>
        intro xs us e q rv
        cases q with
        | cons q1 q2 =>
          cases rv with
          | cons r1 r2 =>
            rw [List.all_cons, Bool.and_eq_true] at e
            obtain ⟨as, p1⟩ := ih e.1 q1 r1
            obtain ⟨bs, p2⟩ := ihl e.2 q2 r2
            exact ⟨_, by simp only [toDL]; exact ShRL.cons p1 p2⟩
    intro v x u e q rv
    cases q with
    | non => cases rv; exact ⟨_, .none, List.not_mem_nil, by simp [toD, PyData.depth]⟩
    | bl b => cases rv; exact ⟨_, .bool b, List.not_mem_nil, by simp [toD, PyData.depth]⟩
    | int i => obtain ⟨k, rfl⟩ := rv; exact ⟨_, .int i k, List.not_mem_nil, by simp [toD, PyData.depth]⟩
    | str y => obtain ⟨k, rfl⟩ := rv; exact ⟨_, .str y k, List.not_mem_nil, by simp [toD, PyData.depth]⟩
    | dct0 h1 h2 =>
      cases rv
      obtain ⟨p, ne⟩ := dct_reads I h1
      exact ⟨_, p, fun z => ne (List.mem_singleton.mp z).symm, by simp [toD, PyData.depth, PyData.depthKv]⟩
    | tup h1 h2 =>
      simp only [sho] at e
      cases rv
      obtain ⟨its, ri, it, _⟩ := I.tuple h1
      obtain ⟨as, p⟩ := all e h2 ri
      exact ⟨_, by simp only [toD]; exact p.tup it⟩
    | lst h1 _ h2 =>
      simp only [sho] at e
      cases rv
      obtain ⟨its, ri, it, _⟩ := I.list (SqL.of h1)
      obtain ⟨as, p⟩ := all e h2 ri
      exact ⟨_, by simp only [toD]; exact p.lst it (lst_apart I hm h1)⟩
    | scr a => simp [sho] at e
    | ref a => simp [sho] at e
theorem shoL_reads (I : Inv X pins σ H s) (hm : ∃ o, X.base.get? sysModules = some o) {L : Addr → Prop} {r : List Addr} {n : Nat} {l : List Val} {xs : List V} {us : List Value} (e : l.all (sho n) = true) (q : RpL X.K L r H xs l) (rv : Vals xs us) : ∃ as, ShRL (n + 1) s.heap us (toDL l) as := by
  induction l generalizing xs us with
  | nil => cases q; cases rv; exact ⟨_, by simp only [toDL]; exact .nil⟩
  | cons v l ihl =>
    cases q with
    | cons q1 q2 =>
      cases rv with
      | cons r1 r2 =>
        rw [List.all_cons, Bool.and_eq_true] at e
        obtain ⟨as, p1⟩ := sho_reads I hm n e.1 q1 r1
        obtain ⟨bs, p2⟩ := ihl e.2 q2 r2
        exact ⟨_, by simp only [toDL]; exact ShRL.cons p1 p2⟩
theorem pd_reads (I : Inv X pins σ H s) (hm : ∃ o, X.base.get? sysModules = some o) {w : Wd} {v : Val} {x : V} {u : Value} {d : PyData} (hH : w.H = H) (R : Rel X.K w) (q : Rv X.K w x v) (e : pd v w.h = some d) (rv : RelV x u) : ∃ as, ShR 60 s.heap u d as := by
  subst hH
  have plain : (if sho 60 v = true then some (toD v) else none) = some d → ∃ as, ShR 60 s.heap u d as := fun e => by
    split at e
    · rename_i h
      cases e
      exact sho_reads I hm 60 h q rv
    · cases e
  cases v with
  | ref n =>
    unfold pd at e
    simp only at e
    split at e
    · rename_i l hn
      split at e
      · rename_i hs
        cases e
        cases q with
        | ref a =>
          obtain ⟨xs, h1, h2, _⟩ := R.cell n _ _ hn a
          cases rv
          obtain ⟨its, ri, it, _⟩ := I.list (SqL.of h1)
          obtain ⟨as, p⟩ := shoL_reads I hm hs h2 ri
          exact ⟨_, p.lst it (lst_apart I hm h1)⟩
      · cases e
    · cases e
  | _ => exact plain e
theorem cb_repr {bx : Bool} (hg : X.A.guards = some []) (hu : X.A.units + 65 < cLine) (hm : ∃ o, X.base.get? sysModules = some o) : CallR X (.builtin "repr") (rBi X.K b .repr bx) := by
  intro pins s σ H xs us Q I rv h
  obtain ⟨w, vs, ⟨hH, R, hb⟩, qx, ok⟩ := h
  obtain ⟨r, e, ok⟩ := ok.some
  unfold bi at e
  split at e <;> try (rename_i hh; cases hh; done)
  · rename_i v _
    obtain ⟨x, rfl, q⟩ := rl1 qx
    obtain ⟨d, e1, e2⟩ := Option.bind_eq_some_iff.mp e
    split at e2
    · rename_i hz
      cases e2
      rw [Bool.and_eq_true, decide_eq_true_eq] at hz
      obtain ⟨hz, hs⟩ := hz
      rw [sz_line] at hz
      obtain ⟨u, rfl, ru⟩ := vals1 rv
      obtain ⟨as, p⟩ := pd_reads I hm hH R q e1 ru
      have hq : Q (.str d.shown) H := hH ▸ ok.same R (.str _)
      have hdp : X.A.units + (d.depth + 1) < cLine := by have := p.dp; omega
      have hsm : d.hasDict = true → sysModules ∉ as := fun _ => p.ns
      cases u with
      | ref a => exact repr_of_reads' p.rd hs hsm hg hdp (fun _ _ z => z) (fun h' k tk hk => ⟨.str _, H, I.kept hk, ⟨_, rfl⟩, hq⟩) hz
      | none => cases p.rd; exact PySem.P.repr_of_none ⟨.str _, H, I.tok _, ⟨_, rfl⟩, hq⟩
      | bool c => cases p.rd; exact PySem.P.repr_of_bool ⟨.str _, H, I.tok _, ⟨_, rfl⟩, hq⟩
      | int i k => cases p.rd; exact PySem.P.repr_of_int (by simpa [PyData.showable] using hs) ⟨.str _, H, I.tok _, ⟨_, rfl⟩, hq⟩
      | str y k => cases p.rd; exact PySem.P.repr_of_str ⟨.str _, H, I.tok _, ⟨_, rfl⟩, hq⟩ hz
      | _ => cases p.rd
    · cases e2
  · cases e
end
end MP

set_option maxHeartbeats 4000000
/-! MiniD3: t[::-1] of tuples. -/
namespace MP
open PySem PySem.Spec PyProof.Rows L2
section
variable {prog : Program} {w : World} {A : Around} {E : Value → Shared → Prop} {s : Shared}
theorem places_back (n : Nat) : Builtin.Slice.slicePlaces ((n : Int) - 1) (-1) (-1) = n := by
  unfold Builtin.Slice.slicePlaces
  rw [if_neg (by decide)]
  split
  · rw [show (- -1 : Int) = 1 by decide, Int.ediv_one]
    omega
  · omega
theorem applied_back {sl : Addr} {vs : Value} {n : Nat} {Q : Int × Int × Nat → Shared → Prop} (hs : s.heap.IsSliceOf sl .none .none vs) (ps : IsPart vs (some (-1))) (h : Q ((n : Int) - 1, -1, n) s) :
    wpAny (model prog w) A (Builtin.Slice.sliceApplied (.ref sl) (pure (n : Int))) Q E s := by
  obtain ⟨os, h1, h2, h3⟩ := id hs
  unfold Builtin.Slice.sliceApplied Builtin.Slice.sliceFields
  refine wpAny_bind (wpAny_bind (wpAny_field h1 h3 (x := .none) rfl (wpAny_bind (wpAny_field h1 h3 (x := .none) rfl (wpAny_bind (wpAny_field h1 h3 (x := vs) rfl (wpAny_pure ?_)))))))
  refine wpAny_bind (HT.slicePart_ ps ?_)
  show wpAny _ _ (if ((-1 : Int) == 0) = true then _ else _) _ _ s
  rw [if_neg (by decide)]
  refine wpAny_bind (slicePart_none (wpAny_bind (slicePart_none (wpAny_bind (wpAny_pure ?_)))))
  show wpAny _ _ (pure ((n : Int) - 1, (-1 : Int), Builtin.Slice.slicePlaces ((n : Int) - 1) (-1) (-1))) _ _ s
  rw [places_back]
  exact wpAny_pure h
theorem fm_congr {α β : Type} {f g : α → Option β} : ∀ {l : List α}, (∀ x ∈ l, f x = g x) → l.filterMap f = l.filterMap g
  | [], _ => rfl
  | x :: l, h => by rw [List.filterMap_cons, List.filterMap_cons, h x List.mem_cons_self, fm_congr fun y hy => h y (List.mem_cons_of_mem _ hy)]
theorem pick_back (xs : Array Value) : ((List.range xs.size).filterMap fun (m : Nat) => xs[((xs.size : Int) - 1 + (m : Int) * -1).toNat]?).toArray = xs.toList.reverse.toArray := by
  have e : (List.range xs.size).filterMap (fun (m : Nat) => xs[((xs.size : Int) - 1 + (m : Int) * -1).toNat]?) = ((List.range xs.size).map fun k => xs.size - 1 - k).filterMap (xs[·]?) := by
    rw [List.filterMap_map]
    apply fm_congr
    intro m hm
    have := List.mem_range.mp hm
    show xs[((xs.size : Int) - 1 + (m : Int) * -1).toNat]? = xs[xs.size - 1 - m]?
    rw [show ((xs.size : Int) - 1 + (m : Int) * -1).toNat = xs.size - 1 - m by omega]
  rw [e, PySem.W.krv_range, List.filterMap_reverse, PySem.W.krv_all]
theorem item_back {t sl : Addr} {items : Array Value} {vs : Value} {Q : Value → Shared → Prop} (ht : IsTup s.heap t items) (hs : s.heap.IsSliceOf sl .none .none vs) (ps : IsPart vs (some (-1)))
    (h : Q (.ref s.heap.objs.size) { s with heap := s.heap.push { cls := .type "tuple", data := .seq items.toList.reverse.toArray } }) (hz : items.size ≤ sizeLine) : wpAny (model prog w) A (getItem (.ref t) (.ref sl)) Q E s := by
  have fits : sizeOk (.seq items.toList.reverse.toArray) := by
    show items.toList.reverse.toArray.size ≤ sizeLine
    rw [List.size_toArray, List.length_reverse, Array.length_toList]
    exact hz
  obtain ⟨os, h1, h2, h3⟩ := id hs
  have kind : s.TypeIs (.ref sl) "slice" := ⟨os, h1, h2⟩
  unfold getItem
  try with_reducible refine wpAny_holding ?_
  first | refine wpAny_bind (wpAny_pure ?_) | skip
  refine wpAny_bind (wpAny_sequenceKey ht.typeIs (by decide) ?_)
  refine wpAny_bind (wpAny_callSpecial?_slot (name := Str.ofString "__getitem__") ht.typeIs PyProof.Rows.slot_tuple_getitem (wpAny_call_entry PyProof.Rows.slot_tuple_getitem ht.typeIs entry_tuple_getitem ?_ (args_tuple_getitem _ _)))
  show wpAny _ _ (Builtin.Tuple.tupleItemsOf (.ref t) >>= _) _ _ s
  refine wpAny_bind (tupleItemsOf_ ht ?_)
  refine wpAny_bind (wpAny_typeOf kind ?_)
  rw [if_pos (by decide)]
  refine wpAny_bind (applied_back hs ps ?_)
  show wpAny _ _ (if (((items.size : Int) - 1) == 0 && (-1 : Int) == 1 && items.size == items.size) = true then _ else _) _ _ s
  rw [if_neg (by simp), pick_back]
  first
    | exact wpAny_bind (m := Builtin.Tuple.tupleExact _) (wpAny_newObj_type (wpAny_pure ⟨_, rfl, wpAny_pure h⟩) fits)
    | exact wpAny_bind (m := Builtin.Tuple.tupleExact _) (wpAny_newObj_type (wpAny_bind (wpAny_pure (wpAny_pure ⟨_, rfl, wpAny_pure h⟩))) fits)
    | exact wpAny_bind (wpAny_bind (m := Builtin.Tuple.tupleExact _) (wpAny_newObj_type (wpAny_pure (wpAny_pure ⟨_, rfl, wpAny_pure h⟩)) fits))
    | exact wpAny_bind (wpAny_bind (m := Builtin.Tuple.tupleExact _) (wpAny_newObj_type (wpAny_pure ⟨_, rfl, wpAny_pure h⟩) fits))
end
section
variable {X : Cx}
def tRevT (K : PySem.W.Frag) (te : TE) : TE := fun σ H Q => te σ H fun x H1 => ∃ a xs, x = .ref a ∧ SqT K H1 a xs ∧ ∀ p, H1 p = none → Q (.ref p) (upd H1 p (.tup xs.reverse))
theorem pe_revT {e : Expr} {te : TE} {k : Nat} {p1 p2 p3 pos : Pos} (he : PE X e te) : PE X (.Subscript e (.Slice none none (some (.UnaryOp .USub (.Constant (.int 1) k p1) p2)) p3) pos) (tRevT X.K te) := by
  constructor
  intro pins s σ H Q I h
  refine Subscript_ (thn (he.run pins s σ H _ I h) ?_)
  rintro v s1 ⟨x, H1, I1, r1, a, xs, rfl, hx, q⟩
  cases r1
  have hst : PO X (some (.UnaryOp .USub (.Constant (.int 1) k p1) p2)) (tPart (tUn (rU fun i => .int (-i)) (tC (.int 1)))) := po_some (pe_un un_neg pe_int)
  refine wpAny_Slice (thn (po_none.run pins s1 σ H1 (fun o H2 => o = none ∧ H2 = H1) I1 ⟨rfl, rfl⟩) ?_)
  rintro vl s2 ⟨_, _, I2, pl, rfl, rfl⟩
  refine thn (po_none.run pins s2 σ _ (fun o H3 => o = none ∧ H3 = _) I2 ⟨rfl, rfl⟩) ?_
  rintro vu s3 ⟨_, _, I3, pu, rfl, rfl⟩
  refine thn (hst.run pins s3 σ _ (fun o H4 => o = some (-1) ∧ H4 = _) I3 ⟨1, rfl, -1, rfl, rfl, rfl⟩) ?_
  rintro vs s4 ⟨_, _, I4, ps, rfl, rfl⟩
  cases pl
  cases pu
  have I5 := I4.kept (h' := s4.heap.push { cls := .type "slice", data := .fields #[.none, .none, vs] }) (t' := s4.toks) fun b ob q => Heap.get?_push_of_some _ q
  obtain ⟨its, r, ht, hz⟩ := I5.tuple hx
  show wpAny (model X.prog X.w) X.A (subscriptTail e (.Slice none none (some (.UnaryOp .USub (.Constant (.int 1) k p1) p2)) p3) (.ref a) (.ref s4.heap.objs.size)) (EP X pins σ Q) X.xe _
  refine tail_any (ops := [.ref a, .ref s4.heap.objs.size]) ht.typeIs (PyProof.Rows.slot_tuple_getitem.lookup) ?_ (by with_unfolding_all rfl)
  refine item_back ht (Heap.IsSliceOf.new _ .none .none vs) ps ?_ (by rw [List.size_toArray, ← r.length]; exact hz)
  exact ⟨.ref _, _, I5.laid (t' := s4.toks) (o := .tup xs.reverse) (fun b ob q => Heap.get?_push_of_some _ q) (Nat.le_refl _) ⟨by rw [List.length_reverse]; exact hz, _, r.reverse, IsTup.new _ _⟩, rfl, q _ (I5.hok.fresh (Nat.le_refl _))⟩
end
end MP

set_option maxHeartbeats 2000000
/-! MiniD4: list(zip(a, b)) of two lists. -/
namespace MP
open PySem PySem.Spec PyProof.Rows L2
theorem lz_len : typeLookup (.type "zip") "__len__" = pure none := by (rw [typeLookup_type, builtinLookup_eq_fast]; kernel_rfl)
theorem lz_hint : typeLookup (.type "zip") "__length_hint__" = pure none := by (rw [typeLookup_type, builtinLookup_eq_fast]; kernel_rfl)
/-- the zip at z behind i pairs, S the list that is filled -/
structure LzS (h : Heap) (S z TI TO i1 i2 l1 l2 : Addr) (xs ys : Array Value) (i : Nat) : Prop where
  ti : IsPair h TI (.ref i1) (.ref i2)
  a : h.IsListIter i1 l1 i
  b : h.IsListIter i2 l2 i
  la : h.IsList l1 xs
  lb : h.IsList l2 ys
  z : (IsZip h z TI TO .none ∧ ∃ a b, IsPair h TO a b) ∨ ∃ T f oT, IsZipHeld h z TI TO T f ∧ h.get? T = some oT ∧ T ≠ z ∧ T ≠ i1 ∧ T ≠ i2 ∧ T ≠ S
/-- S stands apart -/
structure LzA (S z TI TO i1 i2 l1 l2 : Addr) : Prop where
  z : z < S
  ti : TI < S
  to : TO < S
  a : i1 < S
  b : i2 < S
  la : l1 < S
  lb : l2 < S
/-- the pairs made, at as -/
structure LzG (xs ys : Array Value) (lo : Addr) (h : Heap) (as : List Addr) : Prop where
  nd : as.Nodup
  up : ∀ a ∈ as, lo < a
  at_ : ∀ (j : Nat) (a : Addr), as[j]? = some a → ∃ x y, xs[j]? = some x ∧ ys[j]? = some y ∧ h.get? a = some { cls := .type "tuple", data := .seq #[x, y] }
theorem LzG.lt {xs ys : Array Value} {lo : Addr} {h : Heap} {as : List Addr} (g : LzG xs ys lo h as) {a : Addr} (ha : a ∈ as) : a < h.objs.size := by
  obtain ⟨j, hj⟩ := List.mem_iff_getElem?.mp ha
  obtain ⟨_, _, _, _, e⟩ := g.at_ j a hj
  exact Heap.lt_size e
theorem LzG.next {xs ys : Array Value} {lo n : Addr} {h h' : Heap} {as : List Addr} {x y : Value} (g : LzG xs ys lo h as) (hlo : lo < n) (hn : h.objs.size ≤ n) (ex : xs[as.length]? = some x) (ey : ys[as.length]? = some y)
    (k : ∀ a ∈ as, ∀ o, h.get? a = some o → h'.get? a = some o) (e : h'.get? n = some { cls := .type "tuple", data := .seq #[x, y] }) : LzG xs ys lo h' (as ++ [n]) := by
  refine ⟨?_, fun a ha => ?_, fun j a ha => ?_⟩
  · rw [List.nodup_append]
    refine ⟨g.nd, by simp, fun a ha b hb => ?_⟩
    rw [List.mem_singleton.mp hb]
    exact Nat.ne_of_lt (Nat.lt_of_lt_of_le (g.lt ha) hn)
  · rcases List.mem_append.mp ha with z | z
    · exact g.up a z
    · rw [List.mem_singleton.mp z]; exact hlo
  · by_cases hj : j < as.length
    · rw [List.getElem?_append_left hj] at ha
      obtain ⟨x', y', e1, e2, e3⟩ := g.at_ j a ha
      exact ⟨x', y', e1, e2, k a (List.mem_of_getElem? ha) _ e3⟩
    · rw [List.getElem?_append_right (by omega)] at ha
      have hz : j - as.length = 0 := by
        rcases Nat.eq_zero_or_pos (j - as.length) with q | q
        · exact q
        · rw [List.getElem?_eq_none (by simp; omega)] at ha; cases ha
      have hj' : j = as.length := by omega
      subst hj'
      rw [hz] at ha
      cases ha
      exact ⟨x, y, ex, ey, e⟩
section
variable {prog : Program} {w : World} {A : Around} {s : Shared} {R : Result → Shared → Prop} {S z TI TO i1 i2 l1 l2 : Addr} {xs ys : Array Value}
/-- what must stand of a heap -/
def lzK (S z TO i1 i2 : Addr) (h h' : Heap) : Prop := ∀ b o, b ≠ S → b ≠ z → b ≠ TO → b ≠ i1 → b ≠ i2 → h.get? b = some o → h'.get? b = some o
theorem LzS.keep {h h' : Heap} {i : Nat} (t : LzS h S z TI TO i1 i2 l1 l2 xs ys i) (ap : LzA S z TI TO i1 i2 l1 l2) (k : ∀ b o, b ≠ S → h.get? b = some o → h'.get? b = some o) : LzS h' S z TI TO i1 i2 l1 l2 xs ys i where
  ti := k _ _ (Nat.ne_of_lt ap.ti) t.ti
  a := t.a.at fun o e => k _ o (Nat.ne_of_lt ap.a) e
  b := t.b.at fun o e => k _ o (Nat.ne_of_lt ap.b) e
  la := t.la.at fun o e => k _ o (Nat.ne_of_lt ap.la) e
  lb := t.lb.at fun o e => k _ o (Nat.ne_of_lt ap.lb) e
  z := by
    rcases t.z with ⟨q, a, b, q2⟩ | ⟨T, f, oT, q, q2, r1, r2, r3, r4⟩
    · exact .inl ⟨k _ _ (Nat.ne_of_lt ap.z) q, a, b, k _ _ (Nat.ne_of_lt ap.to) q2⟩
    · exact .inr ⟨T, f, oT, k _ _ (Nat.ne_of_lt ap.z) q, k _ _ r4 q2, r1, r2, r3, r4⟩
theorem lz_next (D : ZipApart z TI TO i1 i2 l1 l2) (ap : LzA S z TI TO i1 i2 l1 l2) {i : Nat} {x y : Value} {Q : Option Value → Shared → Prop} {E : Value → Shared → Prop} (t : LzS s.heap S z TI TO i1 i2 l1 l2 xs ys i) (hS : S < s.heap.objs.size) (ex : xs[i]? = some x) (ey : ys[i]? = some y)
    (hQ : ∀ h', LzS h' S z TI TO i1 i2 l1 l2 xs ys (i + 1) → h'.get? s.heap.objs.size = some { cls := .type "tuple", data := .seq #[x, y] } → (∀ b o, b ≠ z → b ≠ TO → b ≠ i1 → b ≠ i2 → s.heap.get? b = some o → h'.get? b = some o) → Q (some (.ref s.heap.objs.size)) { s with heap := h' }) :
    wpAny (model prog w) A (pyNext (.ref z)) Q E s := by
  have big : ∀ {c : Addr}, c < S → s.heap.objs.size ≠ c := fun q => Nat.ne_of_gt (Nat.lt_trans q hS)
  rcases t.z with ⟨q, a, b, q2⟩ | ⟨T, f, oT, q, q2, r1, r2, r3, r4⟩
  · refine wpAny_pyNext_zip_item D q t.ti q2 t.a t.b t.la t.lb ex ey fun h' a1 a2 a3 a4 a5 a6 k => hQ h' ⟨?_, a3, a4, ?_, ?_, ?_⟩ a5 k
    · exact k _ _ D.TIz D.TITO D.TIi1 D.TIi2 t.ti
    · exact t.la.at fun o e => k _ o D.l1z D.l1TO D.l1i1 D.l1i2 e
    · exact t.lb.at fun o e => k _ o D.l2z D.l2TO D.l2i1 D.l2i2 e
    · exact .inr ⟨s.heap.objs.size, false, _, a1, a5, big ap.z, big ap.a, big ap.b, Nat.ne_of_gt hS⟩
  · refine wpAny_pyNext_zip_item_held D q q2 t.ti t.a t.b t.la t.lb ex ey fun h' a1 a3 a4 a5 a6 k => hQ h' ⟨?_, a3, a4, ?_, ?_, ?_⟩ a5 fun b o c1 c2 c3 c4 e => k b o c1 c3 c4 e
    · exact k _ _ D.TIz D.TIi1 D.TIi2 t.ti
    · exact t.la.at fun o e => k _ o D.l1z D.l1i1 D.l1i2 e
    · exact t.lb.at fun o e => k _ o D.l2z D.l2i1 D.l2i2 e
    · exact .inr ⟨T, true, oT, a1, k _ _ r1 r2 r3 q2, r1, r2, r3, r4⟩
theorem lz_stop (hh : A.handled = none) (D : ZipApart z TI TO i1 i2 l1 l2) {i : Nat} {Q : Option Value → Shared → Prop} {E : Value → Shared → Prop} (t : LzS s.heap S z TI TO i1 i2 l1 l2 xs ys i) (he : xs[i]? = none ∨ ys[i]? = none)
    (hQ : ∀ h', (∀ b o, b ≠ z → b ≠ TO → b ≠ i1 → b ≠ i2 → s.heap.get? b = some o → h'.get? b = some o) → Q none { s with heap := h' }) : wpAny (model prog w) A (pyNext (.ref z)) Q E s := by
  rcases t.z with ⟨q, a, b, q2⟩ | ⟨T, f, oT, q, q2, _⟩
  · exact wpAny_pyNext_zip_end hh D q t.ti q2 t.a t.b t.la t.lb he hQ
  · exact wpAny_pyNext_zip_end_held hh D q q2 t.ti t.a t.b t.la t.lb he fun h' k => hQ h' fun b o c1 _ c3 c4 e => k b o c1 c3 c4 e
/-- a filled list -/
abbrev lzL (acc : Array Value) (c : Nat) : Obj := { cls := .type "list", dict := none, data := .seq acc c, slots := #[] }
def lzR (R : Result → Shared → Prop) (res : Value) (s : Shared) (h₁ : Heap) (S z TO i1 i2 : Addr) (xs ys : Array Value) : Prop := ∀ h' tk acc c as, lzK S z TO i1 i2 h₁ h' → h'.get? S = some (lzL acc c) → as.length = min xs.size ys.size → LzG xs ys S h' as → acc.toList = as.map Value.ref →
  R (.ok (.ret res)) { s with heap := h', toks := tk }
theorem lz_loop (hh : A.handled = none) (D : ZipApart z TI TO i1 i2 l1 l2) (ap : LzA S z TI TO i1 i2 l1 l2) (hn : min xs.size ys.size ≤ sizeLine) (res : Value) {h₁ : Heap} (hR : lzR R res s h₁ S z TO i1 i2 xs ys) :
    ∀ (k i : Nat) (h : Heap) (tk c : Nat) (acc : Array Value) (as : List Addr), min xs.size ys.size - i = k → i ≤ min xs.size ys.size → LzS h S z TI TO i1 i2 l1 l2 xs ys i → lzK S z TO i1 i2 h₁ h → h.get? S = some (lzL acc c) → acc.toList = as.map Value.ref → as.length = i → LzG xs ys S h as →
      codeAny (model prog w) A (.builtin "list.extend.loop" ⟨[.ref S, .ref z, res], []⟩) R { s with heap := h, toks := tk } := by
  intro k
  induction k with
  | zero =>
    intro i h tk c acc as hk hi t kp hS hacc hal g
    refine codeAny_builtin PySem.F.entry_extend_loop ?_
    rw [Around.under_plainId PySem.F.plain_extend_loop _]
    show wpAny _ A.in1 (pyNext (.ref z) >>= _) _ _ { s with heap := h, toks := tk }
    have he : xs[i]? = none ∨ ys[i]? = none := by
      rcases Nat.le_total xs.size ys.size with q | q
      · exact .inl (Array.getElem?_eq_none (by omega))
      · exact .inr (Array.getElem?_eq_none (by omega))
    refine wpAny_bind (lz_stop (A := A.in1) (s := { s with heap := h, toks := tk }) hh D t he fun h' k' => wpAny_pure ?_)
    refine hR h' tk acc c as (fun b o c0 c1 c2 c3 c4 e => k' b o c1 c2 c3 c4 (kp b o c0 c1 c2 c3 c4 e)) (k' S _ (Nat.ne_of_gt ap.z) (Nat.ne_of_gt ap.to) (Nat.ne_of_gt ap.a) (Nat.ne_of_gt ap.b) hS) (by omega) ⟨g.nd, g.up, fun j a ha => ?_⟩ hacc
    obtain ⟨x, y, e1, e2, e3⟩ := g.at_ j a ha
    have hu := g.up a (List.mem_of_getElem? ha)
    exact ⟨x, y, e1, e2, k' a _ (Nat.ne_of_gt (Nat.lt_trans ap.z hu)) (Nat.ne_of_gt (Nat.lt_trans ap.to hu)) (Nat.ne_of_gt (Nat.lt_trans ap.a hu)) (Nat.ne_of_gt (Nat.lt_trans ap.b hu)) e3⟩
  | succ k ih =>
    intro i h tk c acc as hk hi t kp hS hacc hal g
    have hsz : acc.size = i := by rw [← Array.length_toList, hacc, List.length_map, hal]
    have hix : i < xs.size := by omega
    have hiy : i < ys.size := by omega
    have hSl : S < h.objs.size := Heap.lt_size hS
    refine codeAny_builtin PySem.F.entry_extend_loop ?_
    rw [Around.under_plainId PySem.F.plain_extend_loop _]
    show wpAny _ A.in1 (pyNext (.ref z) >>= _) _ _ { s with heap := h, toks := tk }
    refine wpAny_bind (lz_next (s := { s with heap := h, toks := tk }) D ap t hSl (Array.getElem?_eq_getElem hix) (Array.getElem?_eq_getElem hiy) fun h' t' ht k' => ?_)
    dsimp only at ht k' ⊢
    have hS' := k' S _ (Nat.ne_of_gt ap.z) (Nat.ne_of_gt ap.to) (Nat.ne_of_gt ap.a) (Nat.ne_of_gt ap.b) hS
    have up : ∀ b o, b ≠ S → h'.get? b = some o → (h'.update S (Obj.mapSeq (·.push (Value.ref h.objs.size)))).get? b = some o := fun b o hb e => (Heap.get?_update_other _ _ (Ne.symm hb)).trans e
    show wpAny _ A.in1 (updateSeq S (·.push (Value.ref h.objs.size)) >>= _) _ _ _
    refine wpAny_bind (wpAny_updateSeq hS' rfl (wpAny_pure ⟨plainId_quiet PySem.F.plain_extend_loop _, ?_⟩) (by rw [hsz]; omega) (by show (acc.push (Value.ref h.objs.size)).size ≤ sizeLine + 1; rw [Array.size_push, hsz]; omega))
    refine ih (i + 1) _ tk _ (acc.push (Value.ref h.objs.size)) (as ++ [h.objs.size]) (by omega) (by omega) (t'.keep ap up) (fun b o c0 c1 c2 c3 c4 e => up b o c0 (k' b o c1 c2 c3 c4 (kp b o c0 c1 c2 c3 c4 e))) (Heap.get?_update_self _ hS' rfl) (by rw [Array.toList_push, hacc, List.map_append]; rfl) (by rw [List.length_append, hal]; rfl) ?_
    refine g.next hSl (Nat.le_refl _) (by rw [hal]; exact Array.getElem?_eq_getElem hix) (by rw [hal]; exact Array.getElem?_eq_getElem hiy) (fun a ha o e => ?_) (up _ _ (Nat.ne_of_gt hSl) ht)
    have hu := g.up a ha
    exact up a o (Nat.ne_of_gt hu) (k' a o (Nat.ne_of_gt (Nat.lt_trans ap.z hu)) (Nat.ne_of_gt (Nat.lt_trans ap.to hu)) (Nat.ne_of_gt (Nat.lt_trans ap.a hu)) (Nat.ne_of_gt (Nat.lt_trans ap.b hu)) e)
def lzQ (A : Around) (prog : Program) (w : World) (R : Result → Shared → Prop) : Fin → Shared → Prop := fun fin s' => match fin with
  | .done f => R (.ok f) s'
  | .again c' => c'.quiet = true ∧ codeAny (model prog w) A c' R s'
theorem lz_extend (hh : A.handled = none) (D : ZipApart z TI TO i1 i2 l1 l2) (ap : LzA S z TI TO i1 i2 l1 l2) (hn : min xs.size ys.size ≤ sizeLine) (res : Value) (c₀ : Nat) (t : LzS s.heap S z TI TO i1 i2 l1 l2 xs ys 0) (h0 : IsZip s.heap z TI TO .none) (hS : s.heap.get? S = some (lzL #[] c₀))
    (hR : lzR R res s s.heap S z TO i1 i2 xs ys) : wpAny (model prog w) A.in1 (Builtin.List.listExtendWith (.ref S) (.ref z) res) (lzQ A prog w R) (fun e s' => R (.error e) s') s := by
  have hT : s.TypeIs (.ref z) "zip" := ⟨_, h0, rfl⟩
  have key : ∀ (h : Heap) (c₁ tk : Nat), (∀ b o, b ≠ S → s.heap.get? b = some o → h.get? b = some o) → h.get? S = some (lzL #[] c₁) → codeAny (model prog w) A (.builtin "list.extend.loop" ⟨[.ref S, .ref z, res], []⟩) R { s with heap := h, toks := tk } := fun h c₁ tk k e =>
    lz_loop hh D ap hn res hR _ 0 h tk c₁ #[] [] rfl (Nat.zero_le _) (t.keep ap k) (fun b o c0 _ _ _ _ e => k b o c0 e) e rfl rfl ⟨List.nodup_nil, (fun _ q => nomatch q), fun j a q => by simp at q⟩
  (unfold Builtin.List.listExtendWith)
  refine wpAny_bind (wpAny_typeOf hT ?_)
  have n1 : Builtin.List.listSameRef (.ref S) (.ref z) = false := by simp [Builtin.List.listSameRef, Nat.ne_of_gt ap.z]
  have n2 : (Value.type "zip" == Value.type "list") = false := by decide
  have n3 : (Value.type "zip" == Value.type "tuple") = false := by decide
  simp only [n1, n2, n3, Bool.or_false, Bool.false_eq_true, if_false]
  refine wpAny_bind (wpAny_pyIter_zip h0 (wpAny_bind (wpAny_holding ?_)))
  (unfold Builtin.List.listLengthHint)
  refine wpAny_bind (wpAny_specialOf hT lz_len ?_)
  show wpAny _ _ (specialOf (Value.ref z) (Str.ofString "__length_hint__") >>= _) _ _ _
  refine wpAny_bind (wpAny_specialOf hT lz_hint (wpAny_pure ?_))
  refine wpAny_ite_split (fun _ => ?_) (fun _ => wpAny_pure ⟨plainId_quiet PySem.F.plain_extend_loop _, key _ c₀ _ (fun _ _ _ e => e) hS⟩)
  refine wpAny_bind (wpAny_rule (wpAny_bind ?_))
  show wpAny _ _ (updateSeq S (·.push .none) >>= fun _ => updateSeq S (·.pop)) _ _ s
  refine wpAny_bind (wpAny_updateSeq hS rfl ?_)
  have hS2 := Heap.get?_update_self (Obj.mapSeq (·.push Value.none)) hS rfl
  refine wpAny_updateSeq (hz := by seq_fits) hS2 rfl (wpAny_pure ⟨plainId_quiet PySem.F.plain_extend_loop _, key _ _ _ (fun b o hb e => ?_) (Heap.get?_update_self (Obj.mapSeq (·.pop)) hS2 rfl)⟩)
  rw [Heap.get?_update_other _ _ (Ne.symm hb), Heap.get?_update_other _ _ (Ne.symm hb)]
  exact e
theorem lz_init (hh : A.handled = none) (D : ZipApart z TI TO i1 i2 l1 l2) (ap : LzA S z TI TO i1 i2 l1 l2) (hn : min xs.size ys.size ≤ sizeLine) (t : LzS s.heap S z TI TO i1 i2 l1 l2 xs ys 0) (h0 : IsZip s.heap z TI TO .none) (hS : s.heap.get? S = some (lzL #[] 0))
    (hR : lzR R .none s s.heap S z TO i1 i2 xs ys) : wpAny (model prog w) A.in1 (Builtin.«list.__init__» ⟨[.ref S, .ref z], []⟩) (lzQ A prog w R) (fun e s' => R (.error e) s') s := by
  show wpAny _ _ (do let old ← Builtin.List.listItems (.ref S); Builtin.List.listUpdate (.ref S) (fun _ => #[]); letGo old.toList.reverse; Builtin.List.listExtendWith (.ref S) (.ref z) .none) _ _ s
  refine wpAny_bind ?_
  (unfold Builtin.List.listItems)
  refine wpAny_bind (wpAny_seqItems hS rfl (wpAny_pure ?_))
  show wpAny _ _ (updateSeq S (fun _ => #[]) >>= fun _ => letGo (#[] : Array Value).toList.reverse >>= fun _ => Builtin.List.listExtendWith (.ref S) (.ref z) .none) _ _ s
  refine wpAny_bind (wpAny_updateSeq hS rfl (wpAny_bind (wpAny_letGo ?_)))
  have oth : ∀ b o, b ≠ S → s.heap.get? b = some o → (s.heap.update S (Obj.mapSeq (fun _ => (#[] : Array Value)))).get? b = some o := fun b o hb e => by
    rw [Heap.get?_update_other _ _ (Ne.symm hb)]
    exact e
  refine lz_extend (s := { s with heap := s.heap.update S (Obj.mapSeq (fun _ => (#[] : Array Value))) }) hh D ap hn .none _ (t.keep ap oth) (oth _ _ (Nat.ne_of_lt ap.z) h0) (Heap.get?_update_self (Obj.mapSeq (fun _ => (#[] : Array Value))) hS rfl) ?_
  exact fun h' tk acc c as k e1 e2 e3 e4 => hR h' tk acc c as (fun b o c0 c1 c2 c3 c4 e => k b o c0 c1 c2 c3 c4 (oth b o c0 e)) e1 e2 e3 e4
theorem lz_call {Q : Value → Shared → Prop} {E : Value → Shared → Prop} (hh : A.handled = none) (D : ZipApart z TI TO i1 i2 l1 l2) (ap : LzA s.heap.objs.size z TI TO i1 i2 l1 l2) (hn : min xs.size ys.size ≤ sizeLine) (h0 : IsZip s.heap z TI TO .none) (h1 : IsPair s.heap TI (.ref i1) (.ref i2)) (h2 : ∃ a b, IsPair s.heap TO a b)
    (h3 : s.heap.IsListIter i1 l1 0) (h4 : s.heap.IsListIter i2 l2 0) (h5 : s.heap.IsList l1 xs) (h6 : s.heap.IsList l2 ys)
    (hQ : ∀ h' tk acc c as, lzK s.heap.objs.size z TO i1 i2 s.heap h' → h'.get? s.heap.objs.size = some (lzL acc c) → as.length = min xs.size ys.size → LzG xs ys s.heap.objs.size h' as → acc.toList = as.map Value.ref → Q (.ref s.heap.objs.size) { s with heap := h', toks := tk }) :
    wpAny (model prog w) A (call (.type "list") [.ref z]) Q E s := by
  refine callType_codes (Q₁ := fun obj s₁ => obj = .ref s.heap.objs.size ∧ s₁ = { s with heap := s.heap.push (lzL #[] 0) }) PySem.F.called_list (PySem.F.typeCall_list_1 _) PySem.F.entry_list_init (code_list_new _ ⟨rfl, rfl⟩) fun obj s₁ q => ?_
  obtain ⟨rfl, rfl⟩ := q
  have hS : (s.heap.push (lzL #[] 0)).get? s.heap.objs.size = some (lzL #[] 0) := Heap.get?_push_size _ rfl
  have pu : ∀ {b : Addr} {o : Obj}, s.heap.get? b = some o → (s.heap.push (lzL #[] 0)).get? b = some o := fun e => Heap.get?_push_of_some _ e
  have t : LzS (s.heap.push (lzL #[] 0)) s.heap.objs.size z TI TO i1 i2 l1 l2 xs ys 0 := by
    obtain ⟨a, b, h2⟩ := h2
    exact ⟨pu h1, h3.at fun o e => pu e, h4.at fun o e => pu e, h5.at fun o e => pu e, h6.at fun o e => pu e, .inl ⟨pu h0, a, b, pu h2⟩⟩
  refine ⟨⟨_, hS, rfl⟩, PySem.F.args_list_init_2 _ _, ?_⟩
  refine lz_init (A := A.in1) (s := { s with heap := s.heap.push (lzL #[] 0) }) hh D ap hn t (pu h0) hS ?_
  exact fun h' tk acc c as k e1 e2 e3 e4 => ⟨rfl, hQ h' tk acc c as (fun b o c0 c1 c2 c3 c4 e => k b o c0 c1 c2 c3 c4 (pu e)) e1 e2 e3 e4⟩
end
/-! ### laid in the abstract heap -/
def putZ : Hp → List Addr → List (V × V) → Hp
  | H, a :: as, p :: ps => putZ (upd H a (.tup [p.1, p.2])) as ps
  | H, _, _ => H
theorem putZ_off {b : Addr} : ∀ (as : List Addr) (ps : List (V × V)) (H : Hp), b ∉ as → putZ H as ps b = H b
  | [], _, _, _ => rfl
  | _ :: _, [], _, _ => rfl
  | a :: as, p :: ps, H, h => by
    rw [List.mem_cons, not_or] at h
    rw [show putZ H (a :: as) (p :: ps) = putZ (upd H a (.tup [p.1, p.2])) as ps from rfl, putZ_off as ps _ h.2, upd_ne h.1]
theorem putZ_at {a : Addr} : ∀ (as : List Addr) (ps : List (V × V)) (H : Hp) (j : Nat), as.Nodup → as.length = ps.length → as[j]? = some a → ∃ q, ps[j]? = some q ∧ putZ H as ps a = some (.tup [q.1, q.2])
  | [], _, _, _, _, _, h => by simp at h
  | b :: as, [], _, _, _, h, _ => by simp at h
  | b :: as, p :: ps, H, 0, hn, hl, h => by
    simp only [List.getElem?_cons_zero, Option.some.injEq] at h
    subst h
    exact ⟨p, rfl, by rw [show putZ H (b :: as) (p :: ps) = putZ (upd H b (.tup [p.1, p.2])) as ps from rfl, putZ_off as ps _ (List.nodup_cons.mp hn).1, upd_same]⟩
  | b :: as, p :: ps, H, j + 1, hn, hl, h => by
    obtain ⟨q, e1, e2⟩ := putZ_at as ps (upd H b (.tup [p.1, p.2])) j (List.nodup_cons.mp hn).2 (by simpa using hl) (by simpa using h)
    exact ⟨q, by simpa using e1, e2⟩
theorem refs_vals : ∀ as : List Addr, Vals (as.map V.ref) (as.map Value.ref)
  | [] => .nil
  | _ :: as => .cons rfl (refs_vals as)
theorem zip_laid {X : Cx} {pins : List (Addr × Obj)} {σ : L2.St} {H : Hp} {s : Shared} {h' : Heap} {tk c : Nat} {S : Addr} {acc : Array Value} {as : List Addr} {us vs : Array Value} {ps : List (V × V)} (I : Inv X pins σ H s) (hk : ∀ b o, s.heap.get? b = some o → h'.get? b = some o) (pS : s.heap.objs.size ≤ S)
    (hS : h'.get? S = some (lzL acc c)) (g : LzG us vs S h' as) (hacc : acc.toList = as.map Value.ref) (hl : as.length = ps.length) (hz : as.length ≤ sizeLine) (rel : ∀ (j : Nat) (q : V × V) (x y : Value), ps[j]? = some q → us[j]? = some x → vs[j]? = some y → RelV q.1 x ∧ RelV q.2 y) :
    Inv X pins σ (upd (putZ H as ps) S (.lst (as.map V.ref))) { s with heap := h', toks := tk } := by
  have old : ∀ {b : Addr} {o : Obj}, s.heap.get? b = some o → b ≠ S ∧ b ∉ as := fun {b o} e => ⟨Nat.ne_of_lt (Nat.lt_of_lt_of_le (Heap.lt_size e) pS), fun z => Nat.lt_irrefl _ (Nat.lt_trans (g.up b z) (Nat.lt_of_lt_of_le (Heap.lt_size e) pS))⟩
  have off : ∀ {b : Addr}, b ≠ S → b ∉ as → upd (putZ H as ps) S (.lst (as.map V.ref)) b = H b := fun h1 h2 => by rw [upd_ne h1, putZ_off as ps H h2]
  have oldH : ∀ {b : Addr} {u : HO}, H b = some u → b ≠ S ∧ b ∉ as := fun {b u} e => by
    have lt : b < s.heap.objs.size := Nat.lt_of_not_le fun z => by rw [I.hok.fresh z] at e; cases e
    exact ⟨Nat.ne_of_lt (Nat.lt_of_lt_of_le lt pS), fun z => Nat.lt_irrefl _ (Nat.lt_trans (g.up b z) (Nat.lt_of_lt_of_le lt pS))⟩
  have kp : ∀ {b : Addr} {u : HO}, H b = some u → upd (putZ H as ps) S (.lst (as.map V.ref)) b = some u := fun e => (off (oldH e).1 (oldH e).2).trans e
  refine I.call' (ch := []) rfl { keep := fun b o q _ _ _ => hk b o q, slot := fun b o q _ _ _ => ⟨o.slots, hk b o q⟩, free := fun b o q n _ => (off (old q).1 (old q).2).trans n, there := fun b o q _ => ⟨o, hk b o q⟩, tups := fun b xs q => kp q, frzs := fun b o u q => kp q, tbls := fun b l q => ⟨#[], by rw [kp q]; simp⟩ } (fun b u q => ?_) I.bare fun b z => by simp at z
  by_cases hb : b = S
  · subst hb
    rw [upd_same] at q
    cases q
    refine ⟨by rw [List.length_map]; exact hz, acc.toList, c, by rw [hacc]; exact refs_vals as, ?_⟩
    rw [Array.toArray_toList]
    exact hS
  · by_cases hb2 : b ∈ as
    · obtain ⟨j, hj⟩ := List.mem_iff_getElem?.mp hb2
      obtain ⟨p, e1, e2⟩ := putZ_at as ps H j g.nd hl hj
      obtain ⟨x, y, e3, e4, e5⟩ := g.at_ j b hj
      rw [upd_ne hb, e2] at q
      cases q
      obtain ⟨r1, r2⟩ := rel j p x y e1 e3 e4
      exact ⟨by show 2 ≤ sizeLine; decide, [x, y], .cons r1 (.cons r2 .nil), ⟨_, e5, rfl, _, rfl⟩⟩
    · rw [off hb hb2] at q
      exact (I.hok b u q).stay (fun d v _ z => hk d v z) (fun d z => kp z) fun d xs z => kp z
/-- list(zip(a, b)), a and b lists -/
def tLz (K : PySem.W.Frag) (ta : TA) : TE := fun σ H Q => ta σ H fun vs H1 => ∃ a b xs ys, vs = [.ref a, .ref b] ∧ SqL K H1 a xs ∧ SqL K H1 b ys ∧ min xs.length ys.length ≤ sizeLine ∧
  ∀ (p : Addr) (ts : List Addr), H1 p = none → (∀ t ∈ ts, H1 t = none) → p ∉ ts → ts.Nodup → ts.length = (xs.zip ys).length → Q (.ref p) (upd (putZ H1 ts (xs.zip ys)) p (.lst (ts.map V.ref)))
theorem pe_lz {X : Cx} {e e2 : Expr} {ta : TA} {p p2 pos cpos : Pos} (hc : X.calm = true) (hg : Gl X "list") (hm : X.mg "list" = none) (hg2 : Gl X "zip") (hm2 : X.mg "zip" = none) (ha : PA X [e, e2] ta)
    (hs : starEach [e, e2] X.env = (false, eval e X.env) :: starEach [e2] X.env) (hpl : (backTo cpos (starEach [e2] X.env)).any (·.1) = false) :
    PE X (.Call (.Name "list" p) [.Call (.Name "zip" p2) [e, e2] [] cpos] [] pos) (tLz X.K ta) := by
  refine ⟨fun pins s σ H Q I h => ?_⟩
  refine Call_ (ld_blt I hg hm boot_list (PyProof.Rows.callWith_type1 (args_cons ?_ rfl) rfl))
  refine Call_ (ld_blt I hg2 hm2 PyProof.Rows.boot_zip (PyProof.Rows.callWith_type1 (thn (ha.run cpos pins s σ H _ I h) fun us s1 ⟨vs, H1, I1, r1, a, b, xs, ys, ex, hx, hy, hz, q⟩ => ?_) hs hpl))
  subst ex
  cases r1 with
  | cons r rr =>
    cases rr with
    | cons r' rr =>
      cases rr
      cases r
      cases r'
      obtain ⟨its, rv, p1, _⟩ := I1.list hx
      obtain ⟨its2, rv2, p2', _⟩ := I1.list hy
      have n : s1.heap.objs.size < s1.heap.objs.size + 5 := by omega
      refine call_zip_2 p1.isList p2'.isList fun h' q1 q2 q3 q4 q5 hsz hk => args_nil ?_
      have l1 := rv.length
      have l2 := rv2.length
      have b1 := p1.lt
      have b2 := p2'.lt
      refine lz_call (s := { s1 with heap := h' }) (I1.ok.hd hc) (PySem.W.ktu_apart s1.heap.objs.size a b p1.lt p2'.lt) ⟨?_, ?_, ?_, ?_, ?_, ?_, ?_⟩ (by simp only [List.size_toArray]; rw [← l1, ← l2]; exact hz) q1 q2 ⟨_, _, q3⟩ q4 q5 (p1.isList.at fun o z => hk _ o z) (p2'.isList.at fun o z => hk _ o z) fun h2 tk acc c as k e1 e3 e4 e5 => ?_
      · show _ < h'.objs.size; omega
      · show _ < h'.objs.size; omega
      · show _ < h'.objs.size; omega
      · show _ < h'.objs.size; omega
      · show _ < h'.objs.size; omega
      · exact Nat.lt_of_lt_of_le b1 (show s1.heap.objs.size ≤ h'.objs.size by omega)
      · exact Nat.lt_of_lt_of_le b2 (show s1.heap.objs.size ≤ h'.objs.size by omega)
      · dsimp only at k e1 e4 ⊢
        have pS : s1.heap.objs.size ≤ h'.objs.size := by omega
        have len : as.length = (xs.zip ys).length := by rw [e3, List.length_zip]; simp only [List.size_toArray]; rw [l1, l2]
        have hk2 : ∀ b o, s1.heap.get? b = some o → h2.get? b = some o := fun b o z => by
          have lt := Heap.lt_size z
          have ne : ∀ (m : Nat), s1.heap.objs.size ≤ m → b ≠ m := fun m z => Nat.ne_of_lt (Nat.lt_of_lt_of_le lt z)
          exact k b o (ne _ pS) (ne _ (by omega)) (ne _ (by omega)) (ne _ (by omega)) (ne _ (by omega)) (hk b o z)
        have new : ∀ {t : Addr}, s1.heap.objs.size ≤ t → H1 t = none := fun z => I1.hok.fresh z
        have rel : ∀ (j : Nat) (q : V × V) (x y : Value), (xs.zip ys)[j]? = some q → its.toArray[j]? = some x → its2.toArray[j]? = some y → RelV q.1 x ∧ RelV q.2 y := fun j q x y z1 z2 z3 => by
          obtain ⟨w1, w2⟩ := List.getElem?_zip_eq_some.mp z1
          obtain ⟨u1, g1, g2⟩ := rv.get w1
          obtain ⟨u2, g3, g4⟩ := rv2.get w2
          rw [show its.toArray[j]? = its[j]? by simp, g1] at z2
          rw [show its2.toArray[j]? = its2[j]? by simp, g3] at z3
          cases z2; cases z3
          exact ⟨g2, g4⟩
        exact ⟨.ref h'.objs.size, _, zip_laid (tk := tk) I1 hk2 pS e1 e4 e5 len (by rw [e3]; simp only [List.size_toArray]; rw [← l1, ← l2]; exact hz) rel, rfl, q _ as (new pS) (fun t ht => new (Nat.le_trans pS (Nat.le_of_lt (e4.up t ht)))) (fun z => Nat.lt_irrefl _ (e4.up _ z)) e4.nd len⟩
end MP

set_option maxHeartbeats 4000000
/-! MiniD5: set(list of ints), sorted of it. -/
namespace MP
open PySem PySem.Spec PyProof.Rows L2
/-- an empty set's object -/
abbrev eSet (w : World) : Obj := { cls := .type "set", dict := none, data := .set #[] 0 (.fresh 0 0 (!w.params.followText "set-order")) }
section
variable {P : Program} {w : World} {A : Around} {E : Value → Shared → Prop} {s : Shared}
/-- what stands behind the filling -/
abbrev SetEnd (w : World) (s : Shared) (ns : List Int) (t : Shared) : Prop := ∃ g tk c, t = { s with heap := g, toks := tk } ∧ SetR w g s.heap.objs.size (fun j => decide (j ∈ ns)) c ∧ c ≤ ns.length ∧ ∀ b o, s.heap.get? b = some o → g.get? b = some o
theorem set_listI {l : Addr} {items : Array Value} (ns : List Int) {Q : Value → Shared → Prop} (hh : A.handled = none) (hl : s.heap.IsList l items) (hit : IntsAre items.toList ns) (hb : ns.length + 1 < scanBound)
    (h : ∀ t, SetEnd w s ns t → Q (.ref s.heap.objs.size) t) : wpAny (model P w) A (call (.type "set") [.ref l]) Q E s := by
  have isz : items.size = ns.length := by rw [← Array.length_toList]; exact IntsAre.length hit
  obtain ⟨cc, tt, mro0⟩ := F.called_set.mro
  have made0 := F.called_set.made; have sub0 := F.called_set.sub
  refine wpAny_call (codeAny_of_tree ?_); show wpAny _ _ (callAny (.type "set") _) _ _ _
  refine wpAny_pure ⟨Code.quiet_builtin _ (by decide +kernel), codeAny_builtin F.entry_type_call ?_⟩; rw [Around.under_plain (weight_type_call_type "set" [.ref l] []) rfl]
  have k1 := F.called_set.notType; have k2 := F.called_set.canCreate; have k3 := F.typeCall_set_1 (.ref l)
  repeat (any_goals (first | assumption | wp_step))
  refine codeAny_mono (code_set_led1 (.ref l) (E := E) (Q₁ := fun obj t => obj = .ref s.heap.objs.size ∧ t = { s with heap := s.heap.push (eSet w) }) ⟨rfl, rfl⟩) fun r t hr => ?_
  cases r with
  | error e => exact hr
  | ok fl =>
    cases fl with
    | ret obj =>
      obtain ⟨rfl, rfl⟩ := hr
      have o1 : (s.heap.push (eSet w)).get? s.heap.objs.size = some (eSet w) := Heap.get?_push_size _ rfl
      have o2 : Shared.TypeIs { s with heap := s.heap.push (eSet w) } (.ref s.heap.objs.size) "set" := ⟨_, o1, rfl⟩
      have i1 := F.called_set.init.lookup; have i2 := F.called_set.init.bind (.ref s.heap.objs.size)
      repeat (any_goals (first | assumption | wp_step))
      refine codeAny_mono (codeAny_call_builtin (R := wants (fun r t => r = .none ∧ SetEnd w s ns t) E) F.called_set.init.plain F.entry_set_init (check_set_init_1 o2 ?_)) fun r2 t2 hr2 => ?_
      · obtain ⟨ol, hol, hcl, nl, hdl⟩ := hl
        obtain ⟨ocls, odict, odata, oslots⟩ := ol
        simp only at hcl hdl
        subst hcl hdl
        have o3 : (s.heap.push (eSet w)).get? l = some { cls := .type "list", dict := odict, data := .seq items nl, slots := oslots } := Heap.get?_push_of_some _ hol
        have j1 := F.sub_list_set; have j2 := F.sub_list_frozenset
        have j3 : (Value.type "list" == Value.type "dict") = false := by decide
        have lst : (s.heap.push (eSet w)).IsList l items := ⟨_, o3, rfl, nl, rfl⟩
        unfold Builtin.«set.__init__» noKeywords Builtin.Frozenset.updateFrom
        generalize pi : pyIter = PI
        wp_walk
        subst pi
        refine wpAny_pyIter_list lst (wpAny_bind (wpAny_runValue ?_))
        have lt : l < s.heap.objs.size := Heap.lt_size hol
        have h3 : A.in1.in1.in1.handled = none := by simp [hh]
        have z1 : (s.heap.push (eSet w)).objs.size = s.heap.objs.size + 1 := Heap.size_push ..
        have ne1 : l ≠ (s.heap.push (eSet w)).objs.size := by rw [z1]; exact Nat.ne_of_lt (Nat.lt_succ_of_lt lt)
        have nin : s.heap.objs.size ∉ [(s.heap.push (eSet w)).objs.size, l] := by
          rw [z1]
          simp only [List.mem_cons, List.not_mem_nil, or_false, not_or]
          exact ⟨Nat.ne_of_lt (Nat.lt_succ_self _), Nat.ne_of_gt lt⟩
        have val : ∀ (i : Nat) (v : Value), items[i]? = some v → ∃ k t, ns[i]? = some k ∧ v = .int k t := fun i v hv => by
          have hi : i < ns.length := by rw [← isz]; exact (Array.getElem?_eq_some_iff.mp hv).1
          obtain ⟨t, e⟩ := IntsAre.int_at hit i v (by rw [Array.getElem?_toList]; exact hv)
          exact ⟨ns[i], t, List.getElem?_eq_getElem hi, by rw [e, List.getD_eq_getElem?_getD, List.getElem?_eq_getElem hi]; rfl⟩
        refine set_update_ints ((Walks.list h3 _ l ne1 items).toS) s.heap.objs.size nin ns isz hb val (items.size - 0) 0 _ (by omega) (Nat.zero_le _) ⟨⟨_, Heap.get?_push_size _ rfl, rfl, rfl⟩, (lst.push _)⟩ ?first ?rest
        case first =>
          have o4 : ((s.heap.push (eSet w)).push { cls := .type "list_iterator", data := .fields #[.ref l, .int 0 0] }).get? s.heap.objs.size = some (eSet w) := Heap.get?_push_of_some _ o1
          exact ⟨0, Nat.le_refl 0, setR_new_at o4⟩
        case rest =>
          intro t c hm hc hS
          obtain ⟨g, g2, d, tk, os⟩ := t
          have eg : g2 = s.gens := hm.gens; have ed : d = s.drawn := hm.drawn; have eo : os = s.os := hm.os
          subst eg ed eo
          show wpAny _ _ _ _ _ _
          refine wpAny_pure ?_
          show wpAny _ _ (ret Value.none) _ _ _
          rw [isz] at hc
          refine wpAny_pure ⟨rfl, g, tk, c, rfl, hS, hc, fun b o e => ?_⟩
          have lb : b < s.heap.objs.size := Heap.lt_size e
          refine hm.heap b o ?_ (Heap.get?_push_of_some _ (Heap.get?_push_of_some _ e))
          rw [z1]
          simp only [List.mem_cons, List.not_mem_nil, or_false, not_or]
          exact ⟨Nat.ne_of_lt lb, Nat.ne_of_lt (Nat.lt_succ_of_lt lb)⟩
      · cases r2 with
        | error e => exact hr2
        | ok fl2 =>
          cases fl2 with
          | ret r =>
            obtain ⟨rfl, g, tk, c, rfl, q1, q2, q3⟩ := hr2
            repeat (any_goals (first | assumption | wp_step))
            exact h _ ⟨g, tk, c, rfl, q1, q2, q3⟩
          | _ => exact hr2.elim
    | _ => exact hr.elim
end
section
variable {X : Cx}
/-- set(xs), ints -/
def rSetL (K : PySem.W.Frag) (w : World) : List V → Hp → VK → Prop := fun xs H Q => ∃ (l : Addr) (ns : List Int), xs = [V.ref l] ∧ SqL K H l (ns.map V.int) ∧ ns.length + 1 < scanBound ∧
  ∀ a c, H a = none → c ≤ ns.length → Q (.ref a) (upd H a (SetO w a (fun j => decide (j ∈ ns)) c))
theorem cr_setL (hc : X.calm = true) : CallR X (.type "set") (rSetL X.K X.w) := by
  intro pins s σ H xs us Q I r h
  obtain ⟨l, ns, rfl, hl, hb, q⟩ := h
  cases r with
  | cons r rr =>
    cases rr
    cases r
    obtain ⟨its, rv, pl, hz⟩ := I.list hl
    have hn : H s.heap.objs.size = none := I.hok.fresh (Nat.le_refl _)
    refine set_listI ns (I.ok.hd hc) pl.isList (by simpa using ints_of_vals rv) hb fun t ht => ?_
    obtain ⟨g, tk, c, rfl, R, hcn, k⟩ := ht
    exact ⟨.ref s.heap.objs.size, upd H s.heap.objs.size (SetO X.w s.heap.objs.size (fun j => decide (j ∈ ns)) c), I.laid (t' := tk) k (Nat.le_refl _) (setO_new R), rfl, q _ c hn hcn⟩
end
/-! ### the mini side: rising, each once -/
theorem insU_mem {x y : Int} : ∀ {l : List Int}, y ∈ insU x l ↔ y = x ∨ y ∈ l
  | [] => by simp [insU]
  | z :: l => by
    unfold insU
    split
    · simp
    · split
      · rename_i h; subst h; simp
      · rw [List.mem_cons, List.mem_cons, insU_mem]
        constructor
        · rintro (h | h | h)
          · exact .inr (.inl h)
          · exact .inl h
          · exact .inr (.inr h)
        · rintro (h | h | h)
          · exact .inr (.inl h)
          · exact .inl h
          · exact .inr (.inr h)
theorem insU_up {x : Int} : ∀ {l : List Int}, l.Pairwise (· < ·) → (insU x l).Pairwise (· < ·)
  | [], _ => by simp [insU]
  | y :: l, h => by
    obtain ⟨h1, h2⟩ := List.pairwise_cons.mp h
    unfold insU
    split
    · rename_i c
      refine List.pairwise_cons.mpr ⟨fun z hz => ?_, h⟩
      rcases List.mem_cons.mp hz with rfl | hz
      · exact c
      · exact Int.lt_trans c (h1 z hz)
    · split
      · exact h
      · refine List.pairwise_cons.mpr ⟨fun z hz => ?_, insU_up h2⟩
        rcases insU_mem.mp hz with rfl | hz
        · omega
        · exact h1 z hz
theorem dedS_mem {y : Int} : ∀ {l : List Int}, y ∈ dedS l ↔ y ∈ l
  | [] => by simp [dedS]
  | x :: l => by
    have : dedS (x :: l) = insU x (dedS l) := rfl
    rw [this, insU_mem, dedS_mem, List.mem_cons]
theorem dedS_up : ∀ (l : List Int), (dedS l).Pairwise (· < ·)
  | [] => by simp [dedS]
  | x :: l => insU_up (dedS_up l)
theorem up_eq : ∀ {l m : List Int}, l.Pairwise (· < ·) → m.Pairwise (· < ·) → (∀ x, x ∈ l ↔ x ∈ m) → l = m
  | [], [], _, _, _ => rfl
  | [], y :: m, _, _, h => absurd ((h y).mpr List.mem_cons_self) (by simp)
  | x :: l, [], _, _, h => absurd ((h x).mp List.mem_cons_self) (by simp)
  | x :: l, y :: m, hl, hm, h => by
    obtain ⟨l1, l2⟩ := List.pairwise_cons.mp hl
    obtain ⟨m1, m2⟩ := List.pairwise_cons.mp hm
    have e : x = y := by
      rcases List.mem_cons.mp ((h x).mp List.mem_cons_self) with e | e
      · exact e
      · rcases List.mem_cons.mp ((h y).mpr List.mem_cons_self) with e2 | e2
        · exact e2.symm
        · have := m1 x e
          have := l1 y e2
          omega
    subst e
    refine congrArg (x :: ·) (up_eq l2 m2 fun z => ?_)
    constructor
    · intro hz
      rcases List.mem_cons.mp ((h z).mp (List.mem_cons_of_mem _ hz)) with e | e
      · have := l1 z hz; omega
      · exact e
    · intro hz
      rcases List.mem_cons.mp ((h z).mpr (List.mem_cons_of_mem _ hz)) with e | e
      · have := m1 z hz; omega
      · exact e
section
variable {X : Cx}
/-- sorted(set(xs)) -/
theorem pe_sset {e : Expr} {ta : TA} {p p2 q pos : Pos} (hc : X.calm = true) (hg : Gl X "sorted") (hm : X.mg "sorted" = none) (hg2 : Gl X "set") (hm2 : X.mg "set" = none) (ha : PA X [e] ta) (hs : starEach [e] X.env = (false, eval e X.env) :: starEach [] X.env) :
    PE X (.Call (.Name "sorted" p) [.Call (.Name "set" p2) [e] [] q] [] pos) (fun σ H Q => ta σ H fun vs H1 => rSetL X.K X.w vs H1 fun x H2 => rSortedSet X.w [x] H2 Q) := by
  have b1 : bootBuiltins ("set" : Str) = some (.type "set") := by decide +kernel
  have b2 : bootBuiltins ("sorted" : Str) = some (.builtin "sorted") := by decide +kernel
  have h1 : PE X (.Call (.Name "set" p2) [e] [] q) _ := pe_callTy (cr_setL hc) hg2 hm2 b1 ha (by decide) (by decide) hs rfl
  have h2 : PE X (.Call (.Name "sorted" p) [.Call (.Name "set" p2) [e] [] q] [] pos) _ := pe_callB (cr_sortedSet hc) hg hm b2 (pa_cons h1 pa_nil) (by decide) (by decide)
  exact h2
/-- sorted(xs), by data -/
def rSortD (K : PySem.W.Frag) (n : Nat) : List V → Hp → VK → Prop := fun vs H Q => ∃ (a : Addr) (xs : List V) (ds : List PyData), vs = [V.ref a] ∧ SqL K H a xs ∧ DpAll K H xs ds ∧ PySem.W.AllAlike ds ∧ PySem.W.Sortable ds ∧ (∀ d ∈ ds, n + 2 + d.depth < cLine) ∧
  ∀ p, H p = none → Q (.ref p) (upd H p (.lst (((xs.zip ds).mergeSort (PySem.W.dataLe false (·.2))).map (·.1))))
theorem dpAll_len {K : PySem.W.Frag} {H : Hp} : ∀ {xs : List V} {ds : List PyData}, DpAll K H xs ds → xs.length = ds.length
  | _, _, .nil => rfl
  | _, _, .cons _ t => by rw [List.length_cons, List.length_cons, dpAll_len t]
theorem each_zip {pins : List (Addr × Obj)} {σ : L2.St} {H : Hp} {s : Shared} (I : Inv X pins σ H s) : ∀ {xs : List V} {ds : List PyData} {us : List Value}, DpAll X.K H xs ds → Vals xs us →
    PySem.W.EachIs (fun (v : Value) (b : V × PyData) => RelV b.1 v) us (xs.zip ds) ∧ PySem.W.EachIs (fun (v : Value) (b : V × PyData) => ∃ as, Reads s.heap v b.2 as) us (xs.zip ds)
  | _, _, _, .nil, .nil => ⟨.nil, .nil⟩
  | _, _, _, .cons h1 h2, .cons r1 r2 => by
    obtain ⟨a, b⟩ := each_zip I h2 r2
    exact ⟨.cons r1 a, .cons (Dp.reads I _ _ _ h1 r1) b⟩
theorem each_vals {us : List Value} : ∀ {bs : List (V × PyData)}, PySem.W.EachIs (fun (v : Value) (b : V × PyData) => RelV b.1 v) us bs → Vals (bs.map (·.1)) us := by
  induction us with
  | nil => intro bs h; cases h; exact .nil
  | cons u us ih => intro bs h; cases h with | cons a b => exact .cons a (ih b)
theorem cr_sortD : CallR X (.builtin "sorted") (rSortD X.K X.A.units) := by
  intro pins s σ H vs us Q I r h
  obtain ⟨a, xs, ds, rfl, hs, hd, al, so, hu, q⟩ := h
  cases r with
  | cons r rr =>
    cases rr
    cases r
    obtain ⟨its, rv, hl, hz⟩ := I.list hs
    obtain ⟨e1, e2⟩ := each_zip I hd rv
    have l1 := dpAll_len hd
    have m2 : (xs.zip ds).map (·.2) = ds := List.map_snd_zip (by omega)
    have lz : (xs.zip ds).length = xs.length := by rw [List.length_zip]; omega
    refine PySem.W.sorted_data hl.isList e1 e2 (by rw [m2]; exact al) (by rw [m2]; exact so) (by rw [lz]; exact hz) (fun b hb => hu _ (List.of_mem_zip hb).2) fun out h1 h2 => ?_
    obtain ⟨ep, he⟩ := PyProof.Rows.sortedAll_at s.heap its out.toArray
    have lm : (((xs.zip ds).mergeSort (PySem.W.dataLe false (·.2))).map (·.1)).length ≤ sizeLine := by
      rw [List.length_map, List.length_mergeSort, lz]
      exact hz
    exact ⟨.ref (s.heap.objs.size + 1), upd H (s.heap.objs.size + 1) (.lst (((xs.zip ds).mergeSort (PySem.W.dataLe false (·.2))).map (·.1))), I.laid (t' := s.toks) (fun _ _ => PyProof.Rows.sortedAll_old) (Nat.le_succ _) ⟨lm, out, ep, each_vals h2, he⟩, rfl, q _ (I.hok.fresh (Nat.le_succ _))⟩
theorem toDL_map : ∀ l : List Val, toDL l = l.map toD
  | [] => by simp [toDL]
  | v :: l => by rw [toDL, toDL_map l, List.map_cons]
theorem rpL_zip {K : PySem.W.Frag} {L : Addr → Prop} {r : List Addr} {H : Hp} : ∀ {xs : List V} {l : List Val}, RpL K L r H xs l → ∀ p ∈ xs.zip l, Rp K L r H p.1 p.2
  | _, _, .nil, p, h => by simp at h
  | _, _, .cons q t, p, h => by
    rw [List.zip_cons_cons, List.mem_cons] at h
    rcases h with rfl | h
    · exact q
    · exact rpL_zip t p h
theorem rpL_of {K : PySem.W.Frag} {L : Addr → Prop} {r : List Addr} {H : Hp} : ∀ {T : List (V × Val)}, (∀ p ∈ T, Rp K L r H p.1 p.2) → RpL K L r H (T.map (·.1)) (T.map (·.2))
  | [], _ => .nil
  | p :: T, h => .cons (h p List.mem_cons_self) (rpL_of fun q hq => h q (List.mem_cons_of_mem _ hq))
variable {b : Nat}
theorem cb_sortD {bx : Bool} (hu : X.A.units + 65 < cLine) : CallR X (.builtin "sorted") (rBi X.K b .sortD bx) := by
  refine CallR_mono (cr_sortD (X := X)) fun xs H Q h => ?_
  obtain ⟨w, vs, ⟨rfl, R, hb⟩, qx, ok⟩ := h
  obtain ⟨r, e, ok⟩ := ok.some
  unfold bi at e
  split at e <;> try (rename_i hh; cases hh; done)
  · obtain ⟨x, rfl, q⟩ := rl1 qx
    obtain ⟨l, e1, e⟩ := Option.bind_eq_some_iff.mp e
    split at e
    · rename_i hc
      cases e
      rw [Bool.and_eq_true, List.all_eq_true] at hc
      obtain ⟨h1, h2⟩ := hc
      obtain ⟨a, ys, rfl, hs, q1⟩ := R.lits q e1
      have hshp : l.all (shp 58) = true := List.all_eq_true.mpr fun u hu => (Bool.and_eq_true_iff.mp (h1 u hu)).1
      refine ⟨a, ys, toDL l, rfl, SqL.of hs, dpL_shp hshp q1, ?_, ?_, ?_, fun p hp => ?_⟩
      · rw [toDL_map]
        intro d hd d' hd'
        obtain ⟨u, hu, rfl⟩ := List.mem_map.mp hd
        obtain ⟨u', hu', rfl⟩ := List.mem_map.mp hd'
        exact List.all_eq_true.mp (List.all_eq_true.mp h2 u hu) u' hu'
      · rw [toDL_map]
        refine .inl fun d hd => ?_
        obtain ⟨u, hu, rfl⟩ := List.mem_map.mp hd
        have := (Bool.and_eq_true_iff.mp (h1 u hu)).2
        cases u with
        | tup m =>
          cases m with
          | nil => cases this
          | cons y m => exact ⟨toD y, toDL m, by simp only [toD, toDL]⟩
        | _ => cases this
      · rw [toDL_map]
        intro d hd
        obtain ⟨u, hu', rfl⟩ := List.mem_map.mp hd
        have := (shp_lay 58 (Bool.and_eq_true_iff.mp (h1 u hu')).1).2
        omega
      · have hl := q1.length
        have key : ∃ T : List (V × Val), (∀ p ∈ T, Rv X.K w p.1 p.2) ∧ ((ys.zip (toDL l)).mergeSort (PySem.W.dataLe false (·.2))).map (·.1) = T.map (·.1) ∧ sortD l = T.map (·.2) := by
          have em : ys.zip (toDL l) = (ys.zip l).map fun p => (p.1, toD p.2) := by
            rw [toDL_map, List.zip_map_right]
            rfl
          refine ⟨(ys.zip l).mergeSort fun p q => !PySem.W.dataLt (toD q.2) (toD p.2), fun p hp => rpL_zip q1 p (List.mem_mergeSort.mp hp), ?_, ?_⟩
          · rw [em, ← List.map_mergeSort (r := fun p q => !PySem.W.dataLt (toD q.2) (toD p.2)) fun a _ c _ => rfl, List.map_map]
            rfl
          · have e2 : l = (ys.zip l).map (·.2) := (List.map_snd_zip (by omega)).symm
            unfold sortD
            conv => lhs; rw [e2]
            rw [← List.map_mergeSort (r := fun p q => !PySem.W.dataLt (toD q.2) (toD p.2)) fun a _ c _ => rfl]
        obtain ⟨T, t1, t2, t3⟩ := key
        rw [t2]
        rw [t3] at ok
        exact ok.lst R hb (rpL_of t1) p hp
    · cases e
  · cases e
end
end MP

set_option maxHeartbeats 1000000
/-! MiniE: readings that say what the mini-evaluator says; expressions. -/
namespace MP
open PySem PySem.Spec PyProof.Rows L2
def RelE (K : PySem.W.Frag) (w : Wd) (σ : L2.St) (g : ME) : Prop := σ.length = g.length ∧ ∀ (i : Nat) (v : Val), g[i]? = some (some v) → ∃ x, σ[i]? = some (some x) ∧ Rv K w x v
theorem RelE.to {K : PySem.W.Frag} {b : Nat} {w w' : Wd} {σ : L2.St} {g : ME} (q : RelE K w σ g) (t : To K b w w') : RelE K w' σ g :=
  ⟨q.1, fun i v e => let ⟨x, e1, r⟩ := q.2 i v e; ⟨x, e1, t.rv r⟩⟩
theorem RelE.set {K : PySem.W.Frag} {w : Wd} {σ : L2.St} {g : ME} {x : V} {v : Val} (q : RelE K w σ g) (i : Nat) (r : Rv K w x v) : RelE K w (σ.set i (some x)) (g.set i (some v)) := by
  refine ⟨by simp [q.1], fun j u e => ?_⟩
  by_cases h : i = j
  · subst h
    by_cases hl : i < g.length
    · rw [List.getElem?_set_self hl] at e
      cases e
      exact ⟨x, List.getElem?_set_self (by rw [q.1]; exact hl), r⟩
    · rw [List.getElem?_eq_none (by simpa using hl)] at e; cases e
  · rw [List.getElem?_set_ne h] at e
    obtain ⟨y, e1, r1⟩ := q.2 j u e
    exact ⟨y, by rw [List.getElem?_set_ne h]; exact e1, r1⟩
theorem RelE.drop {K : PySem.W.Frag} {w : Wd} {σ : L2.St} {g : ME} (q : RelE K w σ g) (i : Nat) : RelE K w (σ.set i none) (g.set i none) := by
  refine ⟨by simp [q.1], fun j u e => ?_⟩
  by_cases h : i = j
  · subst h
    by_cases hl : i < g.length
    · rw [List.getElem?_set_self hl] at e; cases e
    · rw [List.getElem?_eq_none (by simpa using hl)] at e; cases e
  · rw [List.getElem?_set_ne h] at e
    obtain ⟨y, e1, r1⟩ := q.2 j u e
    exact ⟨y, by rw [List.getElem?_set_ne h]; exact e1, r1⟩
theorem RelE.wipe {K : PySem.W.Frag} {w : Wd} {σ : L2.St} {g : ME} (q : RelE K w σ g) : ∀ own : List Nat, RelE K w (wipe σ own) (wipeE g own)
  | [] => q
  | i :: own => (RelE.wipe q own).drop i
theorem OK_bind {K : PySem.W.Frag} {b : Nat} {w : Wd} {α : Type} {r : Res α} {f : α → MH → Res Val} {Q : VK} (h : OK K b w (r.bind f) Q) :
    ∃ a h', r = .ok a h' ∧ ∀ w', w'.h = h' → To K b w w' → Rel K w' → OK K b w' (f a w'.h) Q := by
  obtain ⟨v, h', e, k⟩ := h
  obtain ⟨a, h1, e1, e2⟩ := bind_eq_ok e
  refine ⟨a, h1, e1, fun w' e3 t R => ⟨v, h', by rw [e3]; exact e2, fun w2 e4 t2 R2 => k w2 e4 (t.trans t2) R2⟩⟩
theorem OK_mk {K : PySem.W.Frag} {b : Nat} {w : Wd} {r : Res Val} {Q Q' : VK} {v : Val} {h' : MH} (e : r = .ok v h') (k : ∀ w', w'.h = h' → To K b w w' → Rel K w' → ∀ x, Rv K w' x v → Q x w'.H) : OK K b w r Q := ⟨v, h', e, k⟩
def tME (K : PySem.W.Frag) (C : EC) (m : E) : TE := fun σ H Q => ∃ w g, At K C.base H w ∧ RelE K w σ g ∧ OK K C.base w (ev C m g w.h) Q
def OKL (K : PySem.W.Frag) (b : Nat) (w : Wd) (r : Res (List Val)) (Q : List V → Hp → Prop) : Prop :=
  ∃ v h', r = .ok v h' ∧ ∀ w', w'.h = h' → To K b w w' → Rel K w' → ∀ x, RvL K w' x v → Q x w'.H
def tMA (K : PySem.W.Frag) (C : EC) (m : Es) : TA := fun σ H Q => ∃ w g, At K C.base H w ∧ RelE K w σ g ∧ OKL K C.base w (evs C m g w.h) Q
def OKB (K : PySem.W.Frag) (b : Nat) (w : Wd) (r : Res Bool) (Q : Bool → Hp → Prop) : Prop :=
  ∃ v h', r = .ok v h' ∧ ∀ w', w'.h = h' → To K b w w' → Rel K w' → Q v w'.H
def evT (C : EC) (m : E) (g : ME) (h : MH) : Res Bool := (ev C m g h).bind fun x h => ofO (bopV x) h
def tMT (K : PySem.W.Frag) (C : EC) (m : E) : TT := fun σ H Q => ∃ w g, At K C.base H w ∧ RelE K w σ g ∧ OKB K C.base w (evT C m g w.h) Q
theorem At.to {K : PySem.W.Frag} {b : Nat} {H : Hp} {w w' : Wd} (a : At K b H w) (t : To K b w w') (R : Rel K w') : At K b w'.H w' := ⟨rfl, R, Nat.le_trans a.hb t.len⟩
theorem OKL_cons {K : PySem.W.Frag} {C : EC} {w : Wd} {σ : L2.St} {g : ME} {e : E} {es : Es} {H : Hp} {Q : List V → Hp → Prop} (a : At K C.base H w) (re : RelE K w σ g) (h : OKL K C.base w (evs C (.cons e es) g w.h) Q) :
    OK K C.base w (ev C e g w.h) fun x H1 => tMA K C es σ H1 fun xs H2 => Q (x :: xs) H2 := by
  obtain ⟨vs, h', e1, k⟩ := h
  simp only [evs] at e1
  obtain ⟨v, h1, e2, e3⟩ := bind_eq_ok e1
  obtain ⟨vs', h2, e4, e5⟩ := bind_eq_ok e3
  cases e5
  exact ⟨v, h1, e2, fun w1 f1 t1 R1 x q => ⟨w1, g, a.to t1 R1, re.to t1, vs', _, by rw [f1]; exact e4, fun w2 f2 t2 R2 xs q2 => k w2 f2 (t1.trans t2) R2 _ (.cons (t2.rv q) q2)⟩⟩
/-- the value of a test -/
theorem OKB_of {K : PySem.W.Frag} {C : EC} {w : Wd} {m : E} {g : ME} {Q : Bool → Hp → Prop} (h : OKB K C.base w (evT C m g w.h) Q) : OK K C.base w (ev C m g w.h) fun x H1 => ∃ c, x = .bl c ∧ Q c H1 := by
  obtain ⟨v, h', e, k⟩ := h
  obtain ⟨x, h1, e1, e2⟩ := bind_eq_ok e
  obtain ⟨e3, e4⟩ := ofO_eq_ok e2
  subst e4
  refine ⟨x, _, e1, fun w' f t R y q => ?_⟩
  cases x with
  | bl c =>
    cases q
    cases e3
    exact ⟨_, rfl, k w' f t R⟩
  | _ => cases e3
section
variable {X : Cx} {C : EC} {e a b c : Expr} {m ma mb mc : E} {pos : Pos} {es : List Expr} {mes : Es}
abbrev SE (X : Cx) (C : EC) (e : Expr) (m : E) : Prop := PE X e (tME X.K C m)
abbrev ST (X : Cx) (C : EC) (e : Expr) (m : E) : Prop := PT X e (tMT X.K C m)
abbrev SA (X : Cx) (C : EC) (es : List Expr) (m : Es) : Prop := PA X es (tMA X.K C m)
def notStar : Expr → Bool
  | .Starred _ _ => false
  | _ => true
theorem star_cons {env : Env} (h : notStar e = true) : starEach (e :: es) env = (false, eval e env) :: starEach es env := by
  cases e <;> first | rfl | cases h
theorem star_plain {env : Env} : ∀ {es : List Expr}, es.all notStar = true → (backTo pos (starEach es env)).any (·.1) = false
  | [], _ => rfl
  | e :: es, h => by
    rw [List.all_cons, Bool.and_eq_true] at h
    rw [star_cons h.1]
    unfold backTo
    rw [List.map_cons, List.any_cons]
    exact star_plain h.2
/-- e's test is its value's truth -/
def plainTest : Expr → Bool
  | .UnaryOp .Not _ _ => false
  | .BoolOp _ _ _ => false
  | .IfExp _ _ _ _ => false
  | .Compare _ _ _ _ => false
  | _ => true
theorem test_plain {env : Env} (h : plainTest e = true) : ∀ whole, isTrue e env whole = (do let v ← whole; standAt e.pos; holding [v] (truthy v)) := by
  cases e with
  | UnaryOp op x p => cases op <;> first | (intro _; rfl) | cases h
  | _ => first | (intro _; rfl) | cases h
theorem t_plain (ha : SE X C e m) (h : plainTest e = true) : ST X C e m := by
  refine PT_mono (pt_val ha (test_plain h)) fun σ H Q ⟨w, g, at_, re, ok⟩ => ?_
  exact ⟨w, g, at_, re, OKB_of ok⟩
theorem s_nil : SA X C [] .nil := by
  refine PA_mono pa_nil fun σ H Q ⟨w, g, at_, re, v, h', e, k⟩ => ?_
  simp only [evs, Res.ok.injEq] at e
  obtain ⟨rfl, rfl⟩ := e
  have := k w rfl (To.refl at_.rel) at_.rel [] .nil
  rw [at_.hH] at this
  exact this
theorem s_cons (ha : SE X C e m) (hr : SA X C es mes) (hs : notStar e = true) : SA X C (e :: es) (.cons m mes) := by
  refine PA_mono (pa_cons ha hr (star_cons hs)) fun σ H Q ⟨w, g, at_, re, ok⟩ => ?_
  exact ⟨w, g, at_, re, OKL_cons at_ re ok⟩
theorem s_var {i : Nat} {x : Str} (hN : X.N[i]? = some x) (hv : Vis X.env.scope x) (hd : (x == ("__debug__" : Str)) = false) (hcd : (x == ("__classdict__" : Str)) = false) : SE X C (.Name x pos) (.var i) := by
  refine PE_mono (pe_var hN hv hd hcd) fun σ H Q ⟨w, g, at_, re, v, h', e, k⟩ => ?_
  simp only [ev] at e
  split at e
  · rename_i v' hv'
    cases e
    obtain ⟨y, e1, q⟩ := re.2 i _ hv'
    exact ⟨y, e1, by have := k w rfl (To.refl at_.rel) at_.rel y q; rw [at_.hH] at this; exact this⟩
  · cases e
theorem s_cst {v : Val} {y : V} {e : Expr} (h : PE X e (tC y)) (q : ∀ w, Rv X.K w y v) : SE X C e (.cst v) := by
  refine PE_mono h fun σ H Q ⟨w, g, at_, re, u, h', e, k⟩ => ?_
  simp only [ev, Res.ok.injEq] at e
  obtain ⟨rfl, rfl⟩ := e
  have := k w rfl (To.refl at_.rel) at_.rel y (q w)
  rw [at_.hH] at this
  exact this
theorem s_glb {v : Val} {x : Str} {y : V} {e : Expr} (h : PE X e (tC y)) (q : ∀ w, Rv X.K w y v) : SE X C e (.glb x v) := by
  refine PE_mono h fun σ H Q ⟨w, g, at_, re, u, h', e, k⟩ => ?_
  simp only [ev, Res.ok.injEq] at e
  obtain ⟨rfl, rfl⟩ := e
  have := k w rfl (To.refl at_.rel) at_.rel y (q w)
  rw [at_.hH] at this
  exact this
/-- two in a row -/
theorem two {K : PySem.W.Frag} {C : EC} {w : Wd} {σ : L2.St} {g : ME} {H : Hp} {f : Val → Val → MH → Res Val} {Q : VK} (at_ : At K C.base H w) (re : RelE K w σ g)
    (ok : OK K C.base w ((ev C ma g w.h).bind fun x h => (ev C mb g h).bind fun y h => f x y h) Q) {r : V → V → Hp → Prop}
    (k : ∀ w' x y u v, At K C.base w'.H w' → RelE K w' σ g → Rv K w' x u → Rv K w' y v → OK K C.base w' (f u v w'.h) Q → r x y w'.H) : tME K C ma σ H fun x H1 => tME K C mb σ H1 fun y H2 => r x y H2 := by
  obtain ⟨u, h1, e1, k1⟩ := OK_bind ok
  refine ⟨w, g, at_, re, u, h1, e1, fun w1 f1 t1 R1 x q1 => ?_⟩
  obtain ⟨v, h2, e2, k2⟩ := OK_bind (k1 w1 f1 t1 R1)
  refine ⟨w1, g, at_.to t1 R1, re.to t1, v, h2, e2, fun w2 f2 t2 R2 y q2 => ?_⟩
  exact k w2 x y u v ((at_.to t1 R1).to t2 R2) ((re.to t1).to t2) (t2.rv q1) q2 (k2 w2 f2 t2 R2)
theorem one {K : PySem.W.Frag} {C : EC} {w : Wd} {σ : L2.St} {g : ME} {H : Hp} {f : Val → MH → Res Val} {Q : VK} (at_ : At K C.base H w) (re : RelE K w σ g)
    (ok : OK K C.base w ((ev C ma g w.h).bind fun x h => f x h) Q) {r : V → Hp → Prop}
    (k : ∀ w' x u, At K C.base w'.H w' → RelE K w' σ g → Rv K w' x u → OK K C.base w' (f u w'.h) Q → r x w'.H) : tME K C ma σ H r := by
  obtain ⟨u, h1, e1, k1⟩ := OK_bind ok
  exact ⟨w, g, at_, re, u, h1, e1, fun w1 f1 t1 R1 x q1 => k w1 x u (at_.to t1 R1) (re.to t1) q1 (k1 w1 f1 t1 R1)⟩
/-- .. with the way there -/
theorem oneT {K : PySem.W.Frag} {C : EC} {w : Wd} {σ : L2.St} {g : ME} {H : Hp} {f : Val → MH → Res Val} {Q : VK} (at_ : At K C.base H w) (re : RelE K w σ g)
    (ok : OK K C.base w ((ev C ma g w.h).bind fun x h => f x h) Q) {r : V → Hp → Prop}
    (k : ∀ w' x u, To K C.base w w' → At K C.base w'.H w' → RelE K w' σ g → Rv K w' x u → OK K C.base w' (f u w'.h) Q → r x w'.H) : tME K C ma σ H r := by
  obtain ⟨u, h1, e1, k1⟩ := OK_bind ok
  exact ⟨w, g, at_, re, u, h1, e1, fun w1 f1 t1 R1 x q1 => k w1 x u t1 (at_.to t1 R1) (re.to t1) q1 (k1 w1 f1 t1 R1)⟩
theorem s_bin {o : Bop} {bx : Bool} (ha : SE X C a ma) (hb : SE X C b mb) : SE X C (.BinOp a (opOf o) b pos) (.bin o bx ma mb) := by
  refine PE_mono (pe_op (op_bin (b := C.base) (bx := bx) o) ha hb) fun σ H Q ⟨w, g, at_, re, ok⟩ => ?_
  simp only [ev] at ok
  exact two at_ re ok fun w' x y u v a' _ q1 q2 ok' => ⟨w', u, v, a', q1, q2, ok'⟩
theorem s_neg (ha : SE X C a ma) : SE X C (.UnaryOp .USub a pos) (.neg ma) := by
  refine PE_mono (pe_un un_neg ha) fun σ H Q ⟨w, g, at_, re, ok⟩ => ?_
  simp only [ev] at ok
  refine one at_ re ok fun w' x u a' _ q1 ok' => ?_
  obtain ⟨i, e, ok'⟩ := ok'.some
  cases u with
  | int j => cases e; cases q1; exact ⟨_, rfl, ok'.same a'.rel (.int _)⟩
  | _ => cases e
theorem s_not (ha : SE X C a ma) : SE X C (.UnaryOp .Not a pos) (.not ma) := by
  refine PE_mono (pe_not ha) fun σ H Q ⟨w, g, at_, re, ok⟩ => ?_
  simp only [ev] at ok
  refine one at_ re ok fun w' x u a' _ q1 ok' => ?_
  obtain ⟨i, e, ok'⟩ := ok'.some
  cases u with
  | bl j => cases e; cases q1; exact ⟨_, rfl, ok'.same a'.rel (.bl _)⟩
  | _ => cases e
theorem evT_not {g : ME} {h h' : MH} {r : Bool} (e : evT C (.not ma) g h = .ok r h') : evT C ma g h = .ok (!r) h' := by
  unfold evT at *
  simp only [ev] at e
  obtain ⟨x, h1, e1, e2⟩ := bind_eq_ok e
  obtain ⟨y, h2, e3, e4⟩ := bind_eq_ok e1
  obtain ⟨c, h3, e5, e6⟩ := bind_eq_ok e4
  obtain ⟨e7, rfl⟩ := ofO_eq_ok e5
  cases e6
  obtain ⟨e8, rfl⟩ := ofO_eq_ok e2
  cases e8
  rw [e3]
  show ofO (bopV y) _ = _
  rw [e7, Bool.not_not]
  rfl
theorem t_not (ha : ST X C a ma) : ST X C (.UnaryOp .Not a pos) (.not ma) := by
  refine PT_mono (pt_not ha) fun σ H Q ⟨w, g, at_, re, v, h', e, k⟩ => ?_
  exact ⟨w, g, at_, re, !v, h', evT_not e, fun w' f t R => by show Q (!!v) w'.H; rw [Bool.not_not]; exact k w' f t R⟩
theorem s_cmp {o : Cop} (hu : X.A.units + 65 < cLine) (ha : SE X C a ma) (hb : SE X C b mb) (hm : behindInMarks (copOf o) b = false) : SE X C (.Compare a [copOf o] [b] pos) (.cmp o ma mb) := by
  refine PE_mono (pe_cmpR (op_cmp hu o) ha hb hm) fun σ H Q ⟨w, g, at_, re, ok⟩ => ?_
  simp only [ev] at ok
  refine two at_ re ok fun w' x y u v a' _ q1 q2 ok' => ?_
  obtain ⟨r, e, ok'⟩ := ok'.some
  exact ⟨w', u, v, ⟨rfl, a'.rel, Nat.zero_le _⟩, q1, q2, r, e, ok'.same a'.rel (.bl _)⟩
theorem evT_val {g : ME} {h h' : MH} {r : Bool} (e : evT C ma g h = .ok r h') : ev C ma g h = .ok (.bl r) h' := by
  unfold evT at e
  obtain ⟨x, h1, e1, e2⟩ := bind_eq_ok e
  obtain ⟨e3, rfl⟩ := ofO_eq_ok e2
  cases x with
  | bl c => cases e3; exact e1
  | _ => cases e3
theorem t_cmp {o : Cop} (hu : X.A.units + 65 < cLine) (ha : SE X C a ma) (hb : SE X C b mb) (hm : behindInMarks (copOf o) b = false) : ST X C (.Compare a [copOf o] [b] pos) (.cmp o ma mb) := by
  refine PT_mono (pt_cmpR (op_cmp hu o) ha hb hm) fun σ H Q ⟨w, g, at_, re, v, h', e, k⟩ => ?_
  have ok : OK X.K C.base w (ev C (.cmp o ma mb) g w.h) fun x H1 => ∃ c, x = .bl c ∧ Q c H1 := ⟨.bl v, h', evT_val e, fun w' f t R x q => by cases q; exact ⟨v, rfl, k w' f t R⟩⟩
  simp only [ev] at ok
  refine two at_ re ok fun w' x y u v a' _ q1 q2 ok' => ?_
  obtain ⟨r, e, ok'⟩ := ok'.some
  exact ⟨w', u, v, ⟨rfl, a'.rel, Nat.zero_le _⟩, q1, q2, r, e, ok'.same a'.rel (.bl _)⟩
theorem cmp2_read {K : PySem.W.Frag} {o p : Cop} {w : Wd} {σ : L2.St} {g : ME} {H : Hp} {Q : VK} (at_ : At K C.base H w) (re : RelE K w σ g) (ok : OK K C.base w (ev C (.cmp2 o p ma mb mc) g w.h) Q) :
    tChain (rCmp K o) (rCmp K p) (tME K C ma) (tME K C mb) (tME K C mc) σ H Q := by
  simp only [ev] at ok
  refine two at_ re ok fun w' x y u v a' re' q1 q2 ok' => ?_
  obtain ⟨r, e, ok'⟩ := ok'.some
  refine ⟨w', u, v, ⟨rfl, a'.rel, Nat.zero_le _⟩, q1, q2, r, e, r, rfl, ?_⟩
  cases r with
  | true =>
    rw [if_pos rfl] at ok' ⊢
    refine oneT a' re' ok' fun w2 z t t2 a2 re2 q3 ok2 => ?_
    obtain ⟨r2, e2, ok2⟩ := ok2.some
    exact ⟨w2, v, t, ⟨rfl, a2.rel, Nat.zero_le _⟩, t2.rv q2, q3, r2, e2, ok2.same a2.rel (.bl _)⟩
  | false =>
    rw [if_neg (by decide)] at ok' ⊢
    exact ok'.same a'.rel (.bl _)
theorem OKT {K : PySem.W.Frag} {w : Wd} {g : ME} {Q : Bool → Hp → Prop} (h : OKB K C.base w (evT C m g w.h) Q) : OK K C.base w (ev C m g w.h) fun x H1 => ∃ c, x = .bl c ∧ Q c H1 := OKB_of h
theorem s_cmp2 {o p : Cop} (hu : X.A.units + 65 < cLine) (ha : SE X C a ma) (hb : SE X C b mb) (hc : SE X C c mc) (hm : lastMarks [copOf o, copOf p] [b, c] = false) : SE X C (.Compare a [copOf o, copOf p] [b, c] pos) (.cmp2 o p ma mb mc) := by
  refine PE_mono (pe_chain (op_cmp hu o) (op_cmp hu p) ha hb hc hm) fun σ H Q ⟨w, g, at_, re, ok⟩ => ?_
  exact cmp2_read at_ re ok
theorem t_cmp2 {o p : Cop} (hu : X.A.units + 65 < cLine) (ha : SE X C a ma) (hb : SE X C b mb) (hc : SE X C c mc) (hm : lastMarks [copOf o, copOf p] [b, c] = false) : ST X C (.Compare a [copOf o, copOf p] [b, c] pos) (.cmp2 o p ma mb mc) := by
  refine PT_mono (pt_chain (op_cmp hu o) (op_cmp hu p) ha hb hc hm) fun σ H Q ⟨w, g, at_, re, ok⟩ => ?_
  exact cmp2_read at_ re (OKT ok)
/-! is None, is True -/
theorem non_iff {K : PySem.W.Frag} {w : Wd} {x : V} {v : Val} (q : Rv K w x v) : decide (x = .non) = (match v with | .non => true | _ => false) := by
  cases q <;> simp
theorem s_isn {j : Nat} {p2 : Pos} (ha : SE X C a ma) : SE X C (.Compare a [.Is] [.Constant .none j p2] pos) (.isn false ma) := by
  refine PE_mono (pe_cmp (pc_isN ha)) fun σ H Q ⟨w, g, at_, re, ok⟩ => ?_
  simp only [ev] at ok
  refine one at_ re ok fun w' x u a' _ q1 ok' => ?_
  have := ok'.same a'.rel (.bl _)
  rw [non_iff q1]
  cases u <;> exact this
theorem s_isnn {j : Nat} {p2 : Pos} (ha : SE X C a ma) : SE X C (.Compare a [.IsNot] [.Constant .none j p2] pos) (.isn true ma) := by
  refine PE_mono (pe_cmp (pc_notN ha)) fun σ H Q ⟨w, g, at_, re, ok⟩ => ?_
  simp only [ev] at ok
  refine one at_ re ok fun w' x u a' _ q1 ok' => ?_
  have := ok'.same a'.rel (.bl _)
  rw [non_iff q1]
  cases u <;> exact this
theorem t_isn {j : Nat} {p2 : Pos} (ha : SE X C a ma) : ST X C (.Compare a [.Is] [.Constant .none j p2] pos) (.isn false ma) := by
  refine PT_mono (pt_cmp (pc_isN ha)) fun σ H Q ⟨w, g, at_, re, ok⟩ => ?_
  have ok := OKT ok
  simp only [ev] at ok
  refine one at_ re ok fun w' x u a' _ q1 ok' => ?_
  have := ok'.same a'.rel (.bl _)
  rw [non_iff q1]
  cases u <;> exact this
theorem t_isnn {j : Nat} {p2 : Pos} (ha : SE X C a ma) : ST X C (.Compare a [.IsNot] [.Constant .none j p2] pos) (.isn true ma) := by
  refine PT_mono (pt_cmp (pc_notN ha)) fun σ H Q ⟨w, g, at_, re, ok⟩ => ?_
  have ok := OKT ok
  simp only [ev] at ok
  refine one at_ re ok fun w' x u a' _ q1 ok' => ?_
  have := ok'.same a'.rel (.bl _)
  rw [non_iff q1]
  cases u <;> exact this
theorem bl_of {K : PySem.W.Frag} {w : Wd} {x : V} {v : Val} {c : Bool} (q : Rv K w x v) (e : bopV v = some c) : x = .bl c := by
  cases v <;> first | (cases e; cases q; rfl) | cases e
theorem s_isb0 {j : Nat} {p2 : Pos} {c : Bool} (ha : SE X C a ma) : SE X C (.Compare a [.Is] [.Constant (.bool c) j p2] pos) (.isb false c ma) := by
  refine PE_mono (pe_cmpR op_isBl ha pe_bl rfl) fun σ H Q ⟨w, g, at_, re, ok⟩ => ?_
  simp only [ev] at ok
  refine one at_ re ok fun w' x u a' _ q1 ok' => ?_
  obtain ⟨c', e, ok'⟩ := ok'.some
  have := ok'.same a'.rel (.bl _)
  refine ⟨c', c, bl_of q1 e, rfl, ?_⟩
  by_cases z : c' = c <;> simpa [z] using this
theorem s_isb1 {j : Nat} {p2 : Pos} {c : Bool} (ha : SE X C a ma) : SE X C (.Compare a [.IsNot] [.Constant (.bool c) j p2] pos) (.isb true c ma) := by
  refine PE_mono (pe_cmpR op_notBl ha pe_bl rfl) fun σ H Q ⟨w, g, at_, re, ok⟩ => ?_
  simp only [ev] at ok
  refine one at_ re ok fun w' x u a' _ q1 ok' => ?_
  obtain ⟨c', e, ok'⟩ := ok'.some
  have := ok'.same a'.rel (.bl _)
  refine ⟨c', c, bl_of q1 e, rfl, ?_⟩
  by_cases z : c' = c <;> simpa [z] using this
theorem t_isb0 {j : Nat} {p2 : Pos} {c : Bool} (ha : SE X C a ma) : ST X C (.Compare a [.Is] [.Constant (.bool c) j p2] pos) (.isb false c ma) := by
  refine PT_mono (pt_cmpR op_isBl ha pe_bl rfl) fun σ H Q ⟨w, g, at_, re, ok⟩ => ?_
  have ok := OKT ok
  simp only [ev] at ok
  refine one at_ re ok fun w' x u a' _ q1 ok' => ?_
  obtain ⟨c', e, ok'⟩ := ok'.some
  have := ok'.same a'.rel (.bl _)
  refine ⟨c', c, bl_of q1 e, rfl, ?_⟩
  by_cases z : c' = c <;> simpa [z] using this
theorem t_isb1 {j : Nat} {p2 : Pos} {c : Bool} (ha : SE X C a ma) : ST X C (.Compare a [.IsNot] [.Constant (.bool c) j p2] pos) (.isb true c ma) := by
  refine PT_mono (pt_cmpR op_notBl ha pe_bl rfl) fun σ H Q ⟨w, g, at_, re, ok⟩ => ?_
  have ok := OKT ok
  simp only [ev] at ok
  refine one at_ re ok fun w' x u a' _ q1 ok' => ?_
  obtain ⟨c', e, ok'⟩ := ok'.some
  have := ok'.same a'.rel (.bl _)
  refine ⟨c', c, bl_of q1 e, rfl, ?_⟩
  by_cases z : c' = c <;> simpa [z] using this
/-! turned round -/
theorem PE_or {e : Expr} {t t' : TE} (h : PE X e t) (h' : PE X e t') : PE X e (fun σ H Q => t σ H Q ∨ t' σ H Q) := ⟨fun pins s σ H Q I q => by
  rcases q with q | q
  · exact h.run pins s σ H Q I q
  · exact h'.run pins s σ H Q I q⟩
theorem s_rev {bx : Bool} {k : Nat} {p1 p2 p3 : Pos} (ha : SE X C a ma) : SE X C (.Subscript a (.Slice none none (some (.UnaryOp .USub (.Constant (.int 1) k p1) p2)) p3) pos) (.rev bx ma) := by
  refine PE_mono (PE_or (pe_revT ha) (pe_revL ha)) fun σ H Q ⟨w, g, at_, re, ok⟩ => ?_
  simp only [ev] at ok
  obtain ⟨v, h1, e, k⟩ := ok
  obtain ⟨u, h2, e1, e2⟩ := bind_eq_ok e
  have lists : (∃ l, lits u h2 = some l ∧ fin bx (.nl l.reverse) h2 = .ok v h1) → tRevL X.K (tME X.K C ma) σ H Q := by
    rintro ⟨l, e3, e4⟩
    refine ⟨w, g, at_, re, u, h2, e1, fun w' f t R x q => ?_⟩
    subst f
    obtain ⟨ad, xs, rfl, h3, h4⟩ := R.lits q e3
    refine ⟨ad, xs, rfl, SqL.of h3, ?_⟩
    exact (OK.lst (w := w') (Q := Q) ⟨v, h1, e4, fun w3 f3 t3 R3 y qy => k w3 f3 (t.trans t3) R3 y qy⟩ R (Nat.le_trans at_.hb t.len) h4.reverse)
  cases u with
  | tup l =>
    left
    cases e2
    refine ⟨w, g, at_, re, _, _, e1, fun w' f t R x q => ?_⟩
    cases q with
    | tup a1 a2 =>
      refine ⟨_, _, rfl, a1, ?_⟩
      subst f
      exact (OK.tup (w := w') (Q := Q) ⟨_, _, rfl, fun w3 f3 t3 R3 y qy => k w3 f3 (t.trans t3) R3 y qy⟩ R a2.reverse)
  | _ =>
    right
    refine lists ?_
    obtain ⟨l, h3, e3, e4⟩ := bind_eq_ok e2
    obtain ⟨e5, rfl⟩ := ofO_eq_ok e3
    exact ⟨l, e5, e4⟩
/-! and, or -/
def bOp (an : Bool) : BoolOp := if an then .And else .Or
theorem evB_one {an : Bool} {g : ME} {h : MH} : evB C an (.cons m .nil) g h = ev C m g h := by simp only [evB]
theorem evB_more {an : Bool} {m2 : E} {ms : Es} {g : ME} {h : MH} : evB C an (.cons m (.cons m2 ms)) g h = (ev C m g h).bind fun x h => (ofO (bopV x) h).bind fun b h => if b = an then evB C an (.cons m2 ms) g h else .ok (.bl b) h := by
  simp only [evB]
def tMB (K : PySem.W.Frag) (C : EC) (an : Bool) (m : Es) : TE := fun σ H Q => ∃ w g, At K C.base H w ∧ RelE K w σ g ∧ OK K C.base w (evB C an m g w.h) Q
abbrev SB (X : Cx) (C : EC) (an : Bool) (es : List Expr) (m : Es) : Prop := ∀ pos, PE X (.BoolOp (bOp an) es pos) (tMB X.K C an m)
theorem s_b1 {an : Bool} (ha : SE X C a m) : SB X C an [a] (.cons m .nil) := fun pos => by
  refine PE_mono (pe_one ha) fun σ H Q ⟨w, g, at_, re, ok⟩ => ?_
  rw [evB_one] at ok
  exact ⟨w, g, at_, re, ok⟩
theorem s_bn {an : Bool} {m2 : E} {ms : Es} (ha : SE X C a m) (hr : SB X C an (b :: es) (.cons m2 ms)) : SB X C an (a :: b :: es) (.cons m (.cons m2 ms)) := fun pos => by
  have key : ∀ σ H Q, tMB X.K C an (.cons m (.cons m2 ms)) σ H Q → tME X.K C m σ H fun x H1 => ∃ c, x = .bl c ∧ if c = an then tMB X.K C an (.cons m2 ms) σ H1 Q else Q (.bl c) H1 := fun σ H Q ⟨w, g, at_, re, ok⟩ => by
    rw [evB_more] at ok
    refine one at_ re ok fun w' x u a' re' q1 ok1 => ?_
    obtain ⟨i, e, ok2⟩ := ok1.some
    clear ok1
    cases u with
    | bl j =>
      cases e; cases q1
      refine ⟨_, rfl, ?_⟩
      by_cases h : i = an
      · rw [if_pos h] at ok2 ⊢
        exact ⟨w', g, a', re', ok2⟩
      · rw [if_neg h] at ok2 ⊢
        exact ok2.same a'.rel (.bl _)
    | _ => cases e
  cases an with
  | true =>
    refine PE_mono (pe_and ha (hr pos)) fun σ H Q h => ?_
    obtain ⟨w, g, at_, re, v, h', e, k⟩ := key σ H Q h
    refine ⟨w, g, at_, re, v, h', e, fun w' f t R x q => ?_⟩
    obtain ⟨c, rfl, z⟩ := k w' f t R x q
    cases c <;> exact ⟨_, rfl, by simpa using z⟩
  | false =>
    refine PE_mono (pe_or ha (hr pos)) fun σ H Q h => ?_
    obtain ⟨w, g, at_, re, v, h', e, k⟩ := key σ H Q h
    refine ⟨w, g, at_, re, v, h', e, fun w' f t R x q => ?_⟩
    obtain ⟨c, rfl, z⟩ := k w' f t R x q
    cases c <;> exact ⟨_, rfl, by simpa using z⟩
theorem s_bop {an : Bool} (h : SB X C an es mes) : SE X C (.BoolOp (bOp an) es pos) (.bop an mes) := by
  refine PE_mono (h pos) fun σ H Q ⟨w, g, at_, re, ok⟩ => ?_
  simp only [ev] at ok
  exact ⟨w, g, at_, re, ok⟩
def evBT (C : EC) (an : Bool) (m : Es) (g : ME) (h : MH) : Res Bool := (evB C an m g h).bind fun x h => ofO (bopV x) h
def tMBT (K : PySem.W.Frag) (C : EC) (an : Bool) (m : Es) : TT := fun σ H Q => ∃ w g, At K C.base H w ∧ RelE K w σ g ∧ OKB K C.base w (evBT C an m g w.h) Q
abbrev SW (X : Cx) (C : EC) (an : Bool) (es : List Expr) (m : Es) : Prop := ∀ pos, PW X (.BoolOp (bOp an) es pos) (tMBT X.K C an m)
theorem t_b1 {an : Bool} (ha : ST X C a m) : SW X C an [a] (.cons m .nil) := fun pos => by
  have key : ∀ σ H Q, tMBT X.K C an (.cons m .nil) σ H Q → tMT X.K C m σ H Q := fun σ H Q ⟨w, g, at_, re, ok⟩ => by
    unfold evBT at ok
    rw [evB_one] at ok
    exact ⟨w, g, at_, re, ok⟩
  cases an with
  | true => exact PW_mono (pw_and1 ha) key
  | false => exact PW_mono (pw_or1 ha) key
theorem t_bn {an : Bool} {m2 : E} {ms : Es} (ha : ST X C a m) (hr : SW X C an (b :: es) (.cons m2 ms)) : SW X C an (a :: b :: es) (.cons m (.cons m2 ms)) := fun pos => by
  have key : ∀ σ H Q, tMBT X.K C an (.cons m (.cons m2 ms)) σ H Q → tMT X.K C m σ H fun c H1 => if c = an then tMBT X.K C an (.cons m2 ms) σ H1 Q else Q c H1 := fun σ H Q ⟨w, g, at_, re, v, h', e, k⟩ => by
    unfold evBT at e
    rw [evB_more] at e
    obtain ⟨y, h1, e1, e2⟩ := bind_eq_ok e
    obtain ⟨x, h2, e3, e4⟩ := bind_eq_ok e1
    obtain ⟨c, h3, e5, e6⟩ := bind_eq_ok e4
    obtain ⟨e7, rfl⟩ := ofO_eq_ok e5
    refine ⟨w, g, at_, re, c, h3, by unfold evT; rw [e3]; show ofO _ _ = _; rw [e7]; rfl, fun w' f t R => ?_⟩
    by_cases h : c = an
    · rw [if_pos h] at e6 ⊢
      exact ⟨w', g, at_.to t R, re.to t, v, h', by unfold evBT; rw [f, e6]; exact e2, fun w2 f2 t2 R2 => k w2 f2 (t.trans t2) R2⟩
    · rw [if_neg h] at e6 ⊢
      cases e6
      obtain ⟨e8, rfl⟩ := ofO_eq_ok e2
      cases e8
      exact k w' f t R
  cases an with
  | true =>
    refine PW_mono (pw_and ha (hr pos)) fun σ H Q h => ?_
    obtain ⟨w, g, at_, re, v, h', e, k⟩ := key σ H Q h
    refine ⟨w, g, at_, re, v, h', e, fun w' f t R => ?_⟩
    have z := k w' f t R
    cases v <;> simpa using z
  | false =>
    refine PW_mono (pw_or ha (hr pos)) fun σ H Q h => ?_
    obtain ⟨w, g, at_, re, v, h', e, k⟩ := key σ H Q h
    refine ⟨w, g, at_, re, v, h', e, fun w' f t R => ?_⟩
    have z := k w' f t R
    cases v <;> simpa using z
theorem t_bop {an : Bool} (h : SW X C an es mes) : ST X C (.BoolOp (bOp an) es pos) (.bop an mes) := by
  refine PT_mono (h pos).pt fun σ H Q ⟨w, g, at_, re, ok⟩ => ?_
  unfold evT at ok
  simp only [ev] at ok
  exact ⟨w, g, at_, re, ok⟩
/-! a if t else b -/
theorem s_ite (hc : ST X C c mc) (ha : SE X C a ma) (hb : SE X C b mb) : SE X C (.IfExp c a b pos) (.ite mc ma mb) := by
  refine PE_mono (pe_ifExp hc ha hb) fun σ H Q ⟨w, g, at_, re, v, h', e, k⟩ => ?_
  simp only [ev] at e
  obtain ⟨x, h1, e1, e2⟩ := bind_eq_ok e
  obtain ⟨r, h2, e3, e4⟩ := bind_eq_ok e2
  obtain ⟨e5, rfl⟩ := ofO_eq_ok e3
  refine ⟨w, g, at_, re, r, h2, by unfold evT; rw [e1]; show ofO _ _ = _; rw [e5]; rfl, fun w' f t R => ?_⟩
  cases r with
  | true => rw [if_pos rfl] at e4 ⊢; exact ⟨w', g, at_.to t R, re.to t, v, h', by rw [f]; exact e4, fun w2 f2 t2 R2 => k w2 f2 (t.trans t2) R2⟩
  | false => rw [if_neg (by decide)] at e4 ⊢; exact ⟨w', g, at_.to t R, re.to t, v, h', by rw [f]; exact e4, fun w2 f2 t2 R2 => k w2 f2 (t.trans t2) R2⟩
/-! calls of what is built in -/
theorem args_of {K : PySem.W.Frag} {w : Wd} {σ : L2.St} {g : ME} {H : Hp} {f : List Val → MH → Res Val} {Q : VK} (at_ : At K C.base H w) (re : RelE K w σ g)
    (ok : OK K C.base w ((evs C mes g w.h).bind fun x h => f x h) Q) {r : List V → Hp → Prop}
    (k : ∀ w' xs vs, At K C.base w'.H w' → RelE K w' σ g → RvL K w' xs vs → OK K C.base w' (f vs w'.h) Q → r xs w'.H) : tMA K C mes σ H r := by
  obtain ⟨u, h1, e1, k1⟩ := OK_bind ok
  exact ⟨w, g, at_, re, u, h1, e1, fun w1 f1 t1 R1 x q1 => k w1 x u (at_.to t1 R1) (re.to t1) q1 (k1 w1 f1 t1 R1)⟩
/-- pairs made in a world -/
theorem putZ_w {K : PySem.W.Frag} {b : Nat} : ∀ (ts : List Addr) {w : Wd} {xs ys : List V} {l m : List Val}, Rel K w → RvL K w xs l → RvL K w ys m → ts.Nodup → (∀ t ∈ ts, w.H t = none) → ts.length = (xs.zip ys).length →
    ∃ w', w'.h = w.h ∧ w'.H = putZ w.H ts (xs.zip ys) ∧ To K b w w' ∧ Rel K w' ∧ RvL K w' (ts.map V.ref) (zipV l m)
  | [], w, xs, ys, l, m, R, q, p, hn, hf, hl => by
    have e : xs.zip ys = [] := List.eq_nil_of_length_eq_zero hl.symm
    have e2 : zipV l m = [] := by
      apply List.eq_nil_of_length_eq_zero
      have : (xs.zip ys).length = 0 := by rw [e]; rfl
      simp only [List.length_zip, zipV, List.length_map] at this ⊢
      rw [← q.length, ← p.length]
      exact this
    exact ⟨w, rfl, by rw [e]; rfl, To.refl R, R, by rw [e2]; exact .nil⟩
  | t :: ts, w, xs, ys, l, m, R, q, p, hn, hf, hl => by
    cases q with
    | nil => simp at hl
    | cons q1 q2 =>
      cases p with
      | nil => simp at hl
      | cons p1 p2 =>
        obtain ⟨w1, h1, h2, h3, h4, h5⟩ := new_tup (b := b) R (hf t List.mem_cons_self) (.cons q1 (.cons p1 .nil))
        obtain ⟨w2, g1, g2, g3, g4, g5⟩ := putZ_w ts h4 (h3.rvL q2) (h3.rvL p2) (List.nodup_cons.mp hn).2 (fun s hs => by
          rw [h2, upd_ne (fun z => (List.nodup_cons.mp hn).1 (by rw [← z]; exact hs))]
          exact hf s (List.mem_cons_of_mem _ hs)) (by simpa using hl)
        exact ⟨w2, g1.trans h1, by rw [g2, h2]; rfl, h3.trans g3, g4, .cons (g3.rv h5) g5⟩
theorem rg_rv {K : PySem.W.Frag} {w : Wd} {n : Int} : RvL K w (rgV 0 n) (rangeV 0 n) := by
  have go : ∀ l : List Nat, RvL K w (l.map fun i => V.int (0 + (i : Nat))) (l.map fun (k : Nat) => Val.int (0 + k)) := by
    intro l
    induction l with
    | nil => exact .nil
    | cons a l ih => exact .cons (.int _) ih
  exact go _
theorem prg_A {ta : TA} {p cpos : Pos} (hg : Gl X "range") (hm : X.mg "range" = none) (ha : PA X [e] ta) (hs : starEach [e] X.env = (false, eval e X.env) :: starEach [] X.env) : PRg X (.Call (.Name "range" p) [e] [] cpos) (fun σ H Q => ta σ H fun vs H1 => ∃ n, vs = [.int n] ∧ Q 0 n H1) := by
  intro pins s σ H Q I h
  refine Call_ (ld_blt I hg hm boot_range (PyProof.Rows.callWith_type1 (thn (ha.run cpos pins s σ H _ I h) fun us s1 ⟨vs, H1, I1, r, n, ev, q⟩ => ?_) hs rfl))
  subst ev
  cases r with
  | cons r1 r2 =>
    cases r2
    obtain ⟨t, rfl⟩ := r1
    exact call_range_1 ⟨_, 0, n, _, _, _, H1, rfl, IsRange.new _ _ _ _ _ _ _, I1.kept fun b u e => Heap.get?_push_of_some _ e, q⟩
theorem s_rg {bx : Bool} {mes : Es} {p p2 cpos : Pos} (hc : X.calm = true) (hg : Gl X "list") (hm : X.mg "list" = none) (hg2 : Gl X "range") (hm2 : X.mg "range" = none) (ha : SA X C [e] mes) (hs : notStar e = true) :
    SE X C (.Call (.Name "list" p) [.Call (.Name "range" p2) [e] [] cpos] [] pos) (.cb .rngl bx mes) := by
  refine PE_mono (pe_listRg hc hg hm (prg_A hg2 hm2 ha (star_cons hs)) rfl) fun σ H Q ⟨w, g, at_, re, ok⟩ => ?_
  simp only [ev] at ok
  refine args_of at_ re ok fun w' xs vs a' _ q ok' => ?_
  obtain ⟨r, e1, ok2⟩ := ok'.some
  cases q with
  | nil => cases e1
  | cons q1 t1 =>
    cases t1 with
    | cons q2 t2 => cases q1 <;> cases e1
    | nil =>
      cases q1 with
      | int n =>
        simp only [bi] at e1
        split at e1
        · rename_i hb
          cases e1
          refine ⟨n, rfl, ⟨by decide, by decide, hb.1, by omega, by omega⟩, fun pp hp => ok2.lst a'.rel a'.hb rg_rv pp hp⟩
        · cases e1
      | _ => cases e1
theorem s_sset {bx : Bool} {mes : Es} {p p2 cpos : Pos} (hc : X.calm = true) (hg : Gl X "sorted") (hm : X.mg "sorted" = none) (hg2 : Gl X "set") (hm2 : X.mg "set" = none) (ha : SA X C [e] mes) (hs : notStar e = true) :
    SE X C (.Call (.Name "sorted" p) [.Call (.Name "set" p2) [e] [] cpos] [] pos) (.cb .sset bx mes) := by
  refine PE_mono (pe_sset hc hg hm hg2 hm2 ha (star_cons hs)) fun σ H Q ⟨w, g, at_, re, ok⟩ => ?_
  simp only [ev] at ok
  refine args_of at_ re ok fun w' xs vs a' _ q ok' => ?_
  obtain ⟨r, e1, ok2⟩ := ok'.some
  cases q with
  | nil => cases e1
  | cons q1 t1 =>
    cases t1 with
    | cons q2 t2 => cases e1
    | nil =>
      simp only [bi] at e1
      obtain ⟨l, e2, e3⟩ := Option.bind_eq_some_iff.mp e1
      obtain ⟨ns, e4, e5⟩ := Option.bind_eq_some_iff.mp e3
      split at e5
      · rename_i hlen
        cases e5
        obtain ⟨a, ys, rfl, hs2, q3⟩ := a'.rel.lits q1 e2
        have := q3.ints e4
        subst this
        refine ⟨a, ns, rfl, SqL.of hs2, by show ns.length + 1 < scanBound; unfold scanBound; omega, fun z c hz hcn => ?_⟩
        refine ⟨z, _, c, rfl, upd_same, by omega, fun ms p h1 h2 _ hp => ?_⟩
        have em : ms = dedS ns := up_eq h1 (dedS_up ns) fun x => by rw [h2, dedS_mem]; exact decide_eq_true_iff
        subst em
        obtain ⟨t2, R2⟩ := to_new (b := C.base) (o := SetO X.w z (fun j => decide (j ∈ ns)) c) a'.rel hz
        obtain ⟨v, h', e5, k⟩ := ok2
        have ok3 : OK X.K C.base ⟨w'.r, upd w'.H z (SetO X.w z (fun j => decide (j ∈ ns)) c), w'.h, w'.res⟩ (fin bx (.nl ((dedS ns).map .int)) w'.h) Q := ⟨v, h', e5, fun w3 f t R => k w3 f (t2.trans t) R⟩
        exact ok3.lst R2 (Nat.le_trans a'.hb t2.len) (RpL.of_ints _) p hp
      · cases e5
theorem s_lz {bx : Bool} {e2 : Expr} {mes : Es} {p p2 cpos : Pos} (hc : X.calm = true) (hg : Gl X "list") (hm : X.mg "list" = none) (hg2 : Gl X "zip") (hm2 : X.mg "zip" = none) (ha : SA X C [e, e2] mes) (hs : notStar e = true) (hs2 : notStar e2 = true) :
    SE X C (.Call (.Name "list" p) [.Call (.Name "zip" p2) [e, e2] [] cpos] [] pos) (.cb .zipl bx mes) := by
  refine PE_mono (pe_lz hc hg hm hg2 hm2 ha (star_cons hs) (star_plain (by rw [List.all_cons, hs2]; rfl))) fun σ H Q ⟨w, g, at_, re, ok⟩ => ?_
  simp only [ev] at ok
  refine args_of at_ re ok fun w' xs vs a' _ q ok' => ?_
  obtain ⟨r, e1, ok2⟩ := ok'.some
  cases q with
  | nil => cases e1
  | cons q1 t1 =>
    cases t1 with
    | nil => cases e1
    | cons q2 t2 =>
      cases t2 with
      | cons q3 t3 => cases e1
      | nil =>
        simp only [bi] at e1
        obtain ⟨l, e2, e3⟩ := Option.bind_eq_some_iff.mp e1
        obtain ⟨m, e4, rfl⟩ := Option.map_eq_some_iff.mp e3
        obtain ⟨a, c, xs, ys, rfl, rfl, hx, hy, qx, qy⟩ := cat_lists trivial a'.rel q1 q2 e2 e4
        have hz := ok2.len
        refine ⟨a, c, xs, ys, rfl, SqL.of hx, SqL.of hy, ?_, fun pp ts hp ht hpt hn hl => ?_⟩
        · rw [qx.length, qy.length]
          simpa [zipV, List.length_zip] using hz
        · obtain ⟨w2, h1, h2, h3, h4, h5⟩ := putZ_w (b := C.base) ts a'.rel qx qy hn ht hl
          obtain ⟨v, h', e5, k⟩ := ok2
          have ok3 : OK X.K C.base w2 (fin bx (.nl (zipV l m)) w2.h) Q := ⟨v, h', by rw [h1]; exact e5, fun w3 f t R => k w3 f (h3.trans t) R⟩
          have z := ok3.lst h4 (Nat.le_trans a'.hb h3.len) h5 pp (by rw [h2, putZ_off _ _ _ hpt]; exact hp)
          rw [h2] at z
          exact z
theorem cb_read {K : PySem.W.Frag} {f : Bi} {bx : Bool} {σ : L2.St} {H : Hp} {Q : VK} (h : tME K C (.cb f bx mes) σ H Q) : tMA K C mes σ H fun vs H1 => rBi K C.base f bx vs H1 Q := by
  obtain ⟨w, g, at_, re, ok⟩ := h
  simp only [ev] at ok
  exact args_of at_ re ok fun w' xs vs a' _ q ok' => ⟨w', vs, a', q, ok'⟩
theorem s_cbB {f : Bi} {bx : Bool} {x : Str} {id : String} {p : Pos} (hc : CallR X (.builtin id) (rBi X.K C.base f bx)) (hg : Gl X x) (hm : X.mg x = none) (hv : bootBuiltins x = some (.builtin id)) (ha : SA X C (e :: es) mes) (hn : x ≠ "__name__") (hdb : (x == ("__debug__" : Str)) = false)
    (hs : notStar e = true) (hss : es.all notStar = true) : SE X C (.Call (.Name x p) (e :: es) [] pos) (.cb f bx mes) := by
  exact PE_mono (pe_callB hc hg hm hv ha hn hdb (star_cons hs) (star_plain hss)) fun σ H Q h => cb_read h
theorem s_cbT {f : Bi} {bx : Bool} {x : Str} {id : String} {p : Pos} (hc : CallR X (.type id) (rBi X.K C.base f bx)) (hg : Gl X x) (hm : X.mg x = none) (hv : bootBuiltins x = some (.type id)) (ha : SA X C (e :: es) mes) (hn : x ≠ "__name__") (hdb : (x == ("__debug__" : Str)) = false)
    (hs : notStar e = true) (hss : es.all notStar = true) : SE X C (.Call (.Name x p) (e :: es) [] pos) (.cb f bx mes) := by
  exact PE_mono (pe_callTy hc hg hm hv ha hn hdb (star_cons hs) (star_plain hss)) fun σ H Q h => cb_read h
/-! subscripts, slices, displays -/
theorem s_idx (ha : SE X C a ma) (hb : SE X C b mb) (hs : PlainIx b) : SE X C (.Subscript a b pos) (.idx ma mb) := by
  refine PE_mono (pe_ix ix_idx ha hb hs) fun σ H Q ⟨w, g, at_, re, ok⟩ => ?_
  simp only [ev] at ok
  refine two at_ re ok fun w' x y u v a' _ q1 q2 ok' => ?_
  obtain ⟨i, e1, ok'⟩ := ok'.some
  obtain ⟨l, e2, ok'⟩ := ok'.some
  obtain ⟨z, h', e3, k⟩ := ok'
  obtain ⟨e4, rfl⟩ := ofO_eq_ok e3
  cases v with
  | int j =>
    cases e1; cases q2
    exact ⟨w', u, i, l, z, ⟨rfl, a'.rel, Nat.zero_le _⟩, q1, rfl, e2, e4, fun x q => k w' rfl (To.refl a'.rel) a'.rel x q⟩
  | _ => cases e1
def esLen : Es → Nat
  | .nil => 0
  | .cons _ es => esLen es + 1
theorem evs_len : ∀ {m : Es} {g : ME} {h h' : MH} {vs : List Val}, evs C m g h = .ok vs h' → vs.length = esLen m
  | .nil, _, _, _, _, e => by simp only [evs, Res.ok.injEq] at e; rw [← e.1]; rfl
  | .cons m ms, _, _, _, _, e => by
    simp only [evs] at e
    obtain ⟨v, h1, e1, e2⟩ := bind_eq_ok e
    obtain ⟨vs, h2, e3, e4⟩ := bind_eq_ok e2
    cases e4
    rw [List.length_cons, evs_len e3]; rfl
theorem s_tup {k : Nat} (ha : SA X C es mes) (hl : esLen mes ≤ 1000) : SE X C (.Tuple es k pos) (.tup mes) := by
  refine PE_mono (pe_tup ha) fun σ H Q ⟨w, g, at_, re, ok⟩ => ?_
  simp only [ev] at ok
  obtain ⟨u, h1, e1, k1⟩ := OK_bind ok
  refine ⟨w, g, at_, re, u, h1, e1, fun w1 f1 t1 R1 x q1 => ⟨?_, (k1 w1 f1 t1 R1).tup R1 q1⟩⟩
  have := evs_len e1
  rw [q1.length, this, ← sz_line]
  exact Nat.le_trans hl (by decide)
theorem s_lst {bx : Bool} (ha : SA X C es mes) : SE X C (.List es pos) (.lst bx mes) := by
  refine PE_mono (pe_lst ha) fun σ H Q ⟨w, g, at_, re, ok⟩ => ?_
  simp only [ev] at ok
  refine args_of at_ re ok fun w' xs vs a' _ q ok' => ?_
  exact ⟨by rw [q.length]; exact ok'.len, ok'.lst a'.rel a'.hb q⟩
theorem s_dct0 : SE X C (.Dict [] [] pos) .dct0 := by
  refine PE_mono pe_dnewK fun σ H Q ⟨w, g, at_, re, v, h', e, k⟩ p hp => ?_
  simp only [ev, Res.ok.injEq] at e
  obtain ⟨rfl, rfl⟩ := e
  rw [← at_.hH] at hp
  obtain ⟨t, r⟩ := to_new (b := C.base) (o := .dK []) at_.rel hp
  have := k ⟨w.r, upd w.H p (.dK []), w.h, w.res⟩ rfl t r (.ref p) (.dct0 upd_same fun z => by
    obtain ⟨ys, e⟩ := at_.rel.lst p z
    rw [hp] at e; cases e)
  rw [← at_.hH]
  exact this
end
end MP

set_option maxHeartbeats 1000000
/-! MiniF: targets, what a for walks, comprehensions, statements. -/
namespace MP
open PySem PySem.Spec PyProof.Rows L2
/-! ### targets -/
mutual
def tIdx : Tg → List Nat
  | .nm i => [i]
  | .tp ts => tIdxL ts
def tIdxL : List Tg → List Nat
  | [] => []
  | t :: ts => tIdx t ++ tIdxL ts
end
def Kept (is : List Nat) (σ σ' : L2.St) : Prop := ∀ own : List Nat, (∀ i ∈ is, i ∈ own) → wipe σ' own = wipe σ own
theorem set_none {σ : L2.St} (i : Nat) (x : Option V) : ∀ own : List Nat, (wipe (σ.set i x) own).set i none = (wipe σ own).set i none
  | [] => by show (σ.set i x).set i none = σ.set i none; rw [List.set_set]
  | j :: own => by
    show ((wipe (σ.set i x) own).set j none).set i none = ((wipe σ own).set j none).set i none
    by_cases h : i = j
    · subst h; rw [List.set_set, List.set_set]; exact set_none i x own
    · rw [List.set_comm _ _ (Ne.symm h), set_none i x own, List.set_comm _ _ h]
theorem wipe_set {σ : L2.St} {i : Nat} {x : Option V} : ∀ {own : List Nat}, i ∈ own → wipe (σ.set i x) own = wipe σ own
  | j :: own, h => by
    show (wipe (σ.set i x) own).set j none = (wipe σ own).set j none
    by_cases hj : i = j
    · subst hj; exact set_none i x own
    · rcases List.mem_cons.mp h with z | z
      · exact absurd z hj
      · rw [wipe_set z]
def gM (K : PySem.W.Frag) (t : Tg) : TG := fun v σ H Q => ∃ w g u g', w.H = H ∧ Rel K w ∧ RelE K w σ g ∧ Rv K w v u ∧ tgs t u g = some g' ∧ ∀ σ', RelE K w σ' g' → Kept (tIdx t) σ σ' → Q σ' H
def gMs (K : PySem.W.Frag) (ts : List Tg) : TGs := fun vs σ H Q => ∃ w g us g', w.H = H ∧ Rel K w ∧ RelE K w σ g ∧ RvL K w vs us ∧ tgsL ts us g = some g' ∧ ∀ σ', RelE K w σ' g' → Kept (tIdxL ts) σ σ' → Q σ' H
theorem PG_mono {X : Cx} {e : Expr} {t t' : TG} (h : PG X e t) (k : ∀ v σ H Q, t' v σ H Q → t v σ H Q) : PG X e t' := ⟨fun pins s σ H v u Q I r q => h.run pins s σ H v u Q I r (k v σ H Q q)⟩
theorem PGs_mono {X : Cx} {e : List Expr} {t t' : TGs} (h : PGs X e t) (k : ∀ v σ H Q, t' v σ H Q → t v σ H Q) : PGs X e t' := ⟨fun pins s σ H v u Q I r q => h.run pins s σ H v u Q I r (k v σ H Q q)⟩
section
variable {X : Cx} {C : EC} {pos : Pos}
theorem g_nm {i : Nat} {x : Str} (hN : X.N.Nodup) (hi : X.N[i]? = some x) (hx : Loc X.env.scope x) (hf : X.fn x = true ∨ X.env.scope.names.lookup x = some .local) : PG X (.Name x pos) (gM X.K (.nm i)) := by
  refine PG_mono (pg_name hN hi hx hf) fun v σ H Q ⟨w, g, u, g', e, R, re, q, et, k⟩ => ?_
  simp only [tgs, Option.some.injEq] at et
  subst et
  exact k _ (re.set i q) fun own h => wipe_set (h i (by simp [tIdx]))
theorem ass_cons {env : Env} {e : Expr} {es : List Expr} (h : notStar e = true) : assignEach (e :: es) env = (false, assign e env) :: assignEach es env := by
  cases e <;> first | rfl | cases h
theorem ass_all {env : Env} : ∀ {es : List Expr}, es.all notStar = true → (assignEach es env).findIdx? (·.1) = none ∧ (assignEach es env).length = es.length
  | [], _ => ⟨rfl, rfl⟩
  | e :: es, h => by
    rw [List.all_cons, Bool.and_eq_true] at h
    rw [ass_cons h.1]
    obtain ⟨a, b⟩ := ass_all (env := env) h.2
    refine ⟨?_, by simp [b]⟩
    rw [List.findIdx?_cons, a]
    rfl
theorem g_nil : PGs X [] (gMs X.K []) := by
  refine PGs_mono pgs_nil fun v σ H Q ⟨w, g, u, g', e, R, re, q, et, k⟩ => ?_
  cases q with
  | nil => simp only [tgsL, Option.some.injEq] at et; subst et; exact ⟨rfl, k _ re fun _ _ => rfl⟩
  | cons a b => simp [tgsL] at et
theorem g_cons {e : Expr} {es : List Expr} {t : Tg} {ts : List Tg} (h1 : PG X e (gM X.K t)) (h2 : PGs X es (gMs X.K ts)) (hs : notStar e = true) : PGs X (e :: es) (gMs X.K (t :: ts)) := by
  refine PGs_mono (pgs_cons h1 h2 (by rw [ass_cons hs]; rfl)) fun v σ H Q ⟨w, g, u, g', e, R, re, q, et, k⟩ => ?_
  cases q with
  | nil => simp [tgsL] at et
  | cons a b =>
    simp only [tgsL] at et
    obtain ⟨g1, e1, e2⟩ := Option.bind_eq_some_iff.mp et
    refine ⟨_, _, rfl, w, g, _, g1, e, R, re, a, e1, fun σ1 re1 k1 => ⟨w, g1, _, g', e, R, re1, b, e2, fun σ2 re2 k2 => k σ2 re2 fun own h => ?_⟩⟩
    rw [k2 own fun i hi => h i (by simp [tIdxL, hi]), k1 own fun i hi => h i (by simp [tIdxL, hi])]
theorem tgsL_len : ∀ {ts : List Tg} {us : List Val} {g g' : ME}, tgsL ts us g = some g' → us.length = ts.length
  | [], [], _, _, _ => rfl
  | [], _ :: _, _, _, e => by simp [tgsL] at e
  | _ :: _, [], _, _, e => by simp [tgsL] at e
  | t :: ts, u :: us, g, g', e => by
    simp only [tgsL] at e
    obtain ⟨g1, e1, e2⟩ := Option.bind_eq_some_iff.mp e
    rw [List.length_cons, List.length_cons, tgsL_len e2]
theorem PG_or {e : Expr} {t t' : TG} (h : PG X e t) (h' : PG X e t') : PG X e (fun v σ H Q => t v σ H Q ∨ t' v σ H Q) := ⟨fun pins s σ H v u Q I r q => by
  rcases q with q | q
  · exact h.run pins s σ H v u Q I r q
  · exact h'.run pins s σ H v u Q I r q⟩
theorem g_tp {es : List Expr} {k : Nat} {ts : List Tg} (hc : X.calm = true) (h : PGs X es (gMs X.K ts)) (hl : es.length = ts.length) (hs : es.all notStar = true) : PG X (.Tuple es k pos) (gM X.K (.tp ts)) := by
  refine PG_mono (PG_or (pg_tup (n := es.length) hc h (ass_all hs).2 (ass_all hs).1) (pg_unl (n := es.length) hc h (ass_all hs).2 (ass_all hs).1)) fun v σ H Q ⟨w, g, u, g', e, R, re, q, et, kk⟩ => ?_
  cases q with
  | tup a b =>
    simp only [tgs] at et
    subst e
    exact .inl ⟨_, _, rfl, a, by rw [b.length, tgsL_len et, hl], w, g, _, g', rfl, R, re, b, et, fun σ' re' k' => kk σ' re' k'⟩
  | lst a c b =>
    simp only [tgs] at et
    subst e
    exact .inr ⟨_, _, rfl, SqL.of a, by rw [b.length, tgsL_len et, hl], w, g, _, g', rfl, R, re, b, et, fun σ' re' k' => kk σ' re' k'⟩
  | _ => simp [tgs] at et

/-! ### what a for walks -/
def Src (K : PySem.W.Frag) (b : Nat) (w0 : Wd) (l : List Val) (J : L2.It) : Prop := ∃ (n : Nat) (G : Hp → Prop) (Y : Nat → Hp → V → Hp → Prop), Walk J n G Y ∧ n = l.length ∧ (∀ w, Tw K w0 w → Rel K w → G w.H) ∧
  ∀ (i : Nat) (v : Val) w H' x, Tw K w0 w → Rel K w → l[i]? = some v → Y i w.H x H' → ∃ w', w'.H = H' ∧ w'.h = w.h ∧ To K b w w' ∧ Rel K w' ∧ Rv K w' x v
def tMI (K : PySem.W.Frag) (C : EC) (it : MP.It) : TI := fun σ H R => ∃ w g, At K C.base H w ∧ RelE K w σ g ∧ ∃ l h', evI C it g w.h = .ok l h' ∧ ∀ w', w'.h = h' → To K C.base w w' → Rel K w' → ∀ J, Src K C.base w' l J → R J w'.H
theorem PI_mono {tg iter : Expr} {t t' : TI} (h : PI X tg iter t) (k : ∀ σ H Q, t' σ H Q → t σ H Q) : PI X tg iter t' := ⟨fun pins s σ H R I q => h.run pins s σ H R I (k σ H R q)⟩
theorem PI_or {tg iter : Expr} {t t' : TI} (h : PI X tg iter t) (h' : PI X tg iter t') : PI X tg iter (fun σ H R => t σ H R ∨ t' σ H R) := ⟨fun pins s σ H R I q => by
  rcases q with q | q
  · exact h.run pins s σ H R I q
  · exact h'.run pins s σ H R I q⟩
theorem src_list {K : PySem.W.Frag} {b : Nat} {w : Wd} {a : Addr} {xs : List V} {l : List Val} (hq : ∀ w', Tw K w w' → Rel K w' → SqL K w'.H a xs) (q : RvL K w xs l) : Src K b w l (Itl K a) := by
  refine ⟨_, _, _, walk_list (xs := xs), q.length, hq, fun i v w' H' x t R e y => ?_⟩
  obtain ⟨e1, e2⟩ := y
  obtain ⟨x', e3, r⟩ := (t.rvL q).get e
  rw [e2] at e3
  cases e3
  exact ⟨w', e1.symm, rfl, To.refl R, R, r⟩
theorem src_tup {K : PySem.W.Frag} {b : Nat} {w : Wd} {a : Addr} {xs : List V} {l : List Val} (hq : ∀ w', Tw K w w' → Rel K w' → SqT K w'.H a xs) (q : RvL K w xs l) : Src K b w l (Itt K a) := by
  refine ⟨_, _, _, walk_tup (xs := xs), q.length, hq, fun i v w' H' x t R e y => ?_⟩
  obtain ⟨e1, e2⟩ := y
  obtain ⟨x', e3, r⟩ := (t.rvL q).get e
  rw [e2] at e3
  cases e3
  exact ⟨w', e1.symm, rfl, To.refl R, R, r⟩
theorem lst_stay {K : PySem.W.Frag} {w w' : Wd} {a : Addr} {xs : List V} (h : w.H a = some (.lst xs)) (n : ¬ Live w a) (t : Tw K w w') : SqL K w'.H a xs := SqL.of (t.keep a _ h n)
theorem tup_stay {K : PySem.W.Frag} {w w' : Wd} {a : Addr} {xs : List V} (h : SqT K w.H a xs) (t : Tw K w w') : SqT K w'.H a xs := by
  have hn : ∀ o, w.H a = some o → (∀ ys, o ≠ .lst ys) → ¬ Live w a := fun o e ne z => by
    obtain ⟨ys, e2⟩ := t.tp a z
    rw [e] at e2; cases e2; exact ne ys rfl
  rcases h with (h | ⟨o, h⟩) | h
  · exact .inl (.inl (t.keep a _ h (hn _ h fun _ z => nomatch z)))
  · exact .inl (.inr ⟨o, t.keep a _ h (hn _ h fun _ z => nomatch z)⟩)
  · exact .inr h
theorem src_scr {K : PySem.W.Frag} {b : Nat} {w : Wd} {a : Addr} {ns : List Int} (h : (Rd w.H a (.lst (ns.map V.int)) ∧ ¬ Live w a) ∨ ∀ G : Hp, SqL K G a (ns.map V.int)) : Src K b w (ns.map .int) (Itl K a) := by
  refine src_list (xs := ns.map V.int) (fun w' t _ => ?_) (RpL.of_ints ns)
  rcases h with ⟨h, n⟩ | h
  · rcases h with h | ⟨o, h⟩
    · exact .inl (.inl (t.keep a _ h n))
    · exact .inl (.inr ⟨o, t.keep a _ h n⟩)
  · exact h _
/-- an expression's value is walked -/
theorem i_val {e : Expr} {m : E} {tg : Expr} (he : SE X C e m) : PI X tg e (tMI X.K C (.val m)) := by
  refine PI_mono (PI_or (pi_list he) (pi_tup he)) fun σ H R ⟨w, g, at_, re, l, h', e, k⟩ => ?_
  simp only [evI] at e
  obtain ⟨v, h1, e1, e2⟩ := bind_eq_ok e
  obtain ⟨e3, rfl⟩ := ofO_eq_ok e2
  cases v with
  | tup vs =>
    cases e3
    refine .inr ⟨w, g, at_, re, _, _, e1, fun w' f t R' x q => ?_⟩
    cases q with
    | tup a b => exact ⟨_, rfl, ⟨_, a⟩, k w' f t R' _ (src_tup (fun w2 t2 _ => tup_stay a t2) b)⟩
  | lst vs =>
    cases e3
    refine .inl ⟨w, g, at_, re, _, _, e1, fun w' f t R' x q => ?_⟩
    cases q with
    | lst a n b => exact ⟨_, rfl, ⟨_, SqL.of a⟩, k w' f t R' _ (src_list (fun w2 t2 _ => lst_stay a n t2) b)⟩
  | scr ns =>
    cases e3
    refine .inl ⟨w, g, at_, re, _, _, e1, fun w' f t R' x q => ?_⟩
    cases q with
    | scr a => exact ⟨_, rfl, ⟨ns.map V.int, a.elim (fun z => .inl z.1) fun z => z _⟩, k w' f t R' _ (src_scr a)⟩
  | _ => cases e3
theorem range_get {lo : Int} {n i : Nat} {v : Val} (e : ((List.range n).map fun (k : Nat) => Val.int (lo + k))[i]? = some v) : v = .int (lo + i) := by
  rw [List.getElem?_map] at e
  by_cases h : i < n
  · rw [List.getElem?_range h] at e
    exact (Option.some.inj e).symm
  · rw [List.getElem?_eq_none (by simpa using h)] at e
    cases e
theorem src_range {K : PySem.W.Frag} {b : Nat} {w : Wd} {i j : Int} {n : Nat} (hn : n = (j - i).toNat) : Src K b w (rangeV i j) (Itr i n) := by
  refine ⟨_, _, _, walk_range, by simp [rangeV, hn], fun _ _ _ => trivial, fun k v w' H' x t R e y => ?_⟩
  obtain ⟨e1, e2⟩ := y
  subst e1
  have := range_get e
  subst this
  exact ⟨w', rfl, rfl, To.refl R, R, by rw [e2]; exact .int _⟩
theorem i_rng {e : Expr} {m : E} {tg : Expr} {p : Pos} (hg : Gl X "range") (hm : X.mg "range" = none) (he : SE X C e m) (hs : notStar e = true) : PI X tg (.Call (.Name "range" p) [e] [] pos) (tMI X.K C (.rng m)) := by
  refine PI_mono (pi_range1 hg hm (pa_cons he pa_nil (star_cons hs)) (star_cons hs)) fun σ H R ⟨w, g, at_, re, l, h', e, k⟩ => ?_
  simp only [evI] at e
  obtain ⟨v, h1, e1, e2⟩ := bind_eq_ok e
  obtain ⟨n, h2, e3, e4⟩ := bind_eq_ok e2
  obtain ⟨e5, rfl⟩ := ofO_eq_ok e3
  cases v with
  | int j =>
    cases e5
    split at e4
    · rename_i hb
      cases e4
      refine ⟨w, g, at_, re, _, _, e1, fun w' f t R' x q => ?_⟩
      cases q
      exact ⟨n, rfl, hb.1, hb.2, k w' f t R' _ (src_range (by rw [Int.sub_zero]))⟩
    · cases e4
  | _ => cases e5
theorem i_rng2 {a b : Expr} {ma mb : E} {tg : Expr} {p : Pos} (hg : Gl X "range") (hm : X.mg "range" = none) (ha : SE X C a ma) (hb : SE X C b mb) (hs : notStar a = true) (hs2 : notStar b = true) : PI X tg (.Call (.Name "range" p) [a, b] [] pos) (tMI X.K C (.rng2 ma mb)) := by
  refine PI_mono (pi_range2 hg hm (pa_cons ha (pa_cons hb pa_nil (star_cons hs2)) (star_cons hs)) (by rw [star_cons hs, star_cons hs2]; rfl) (star_cons hs2)) fun σ H R ⟨w, g, at_, re, l, h', e, k⟩ => ?_
  simp only [evI] at e
  obtain ⟨v, h1, e1, e2⟩ := bind_eq_ok e
  obtain ⟨n, h2, e3, e4⟩ := bind_eq_ok e2
  obtain ⟨e5, rfl⟩ := ofO_eq_ok e3
  obtain ⟨v', h3, e6, e7⟩ := bind_eq_ok e4
  obtain ⟨n', h4, e8, e9⟩ := bind_eq_ok e7
  obtain ⟨e10, rfl⟩ := ofO_eq_ok e8
  cases v with
  | int j =>
    cases v' with
    | int j' =>
      cases e5
      cases e10
      split at e9
      · rename_i hb
        cases e9
        refine ⟨w, g, at_, re, _, _, e1, fun w' f t R' x q => ?_⟩
        cases q
        refine ⟨w', g, at_.to t R', re.to t, _, _, by rw [f]; exact e6, fun w2 f2 t2 R2 x q => ?_⟩
        cases q
        exact ⟨n, n', rfl, hb, k w2 f2 (t.trans t2) R2 _ (src_range rfl)⟩
      · cases e9
    | _ => cases e10
  | _ => cases e5
/-- two sequences in one -/
theorem zip_get {l m : List Val} {i : Nat} {v : Val} (e : (zipV l m)[i]? = some v) : ∃ a b, l[i]? = some a ∧ m[i]? = some b ∧ v = .tup [a, b] := by
  unfold zipV at e
  rw [List.getElem?_map, Option.map_eq_some_iff] at e
  obtain ⟨⟨a, b⟩, e1, e2⟩ := e
  rw [List.getElem?_zip_eq_some] at e1
  exact ⟨a, b, e1.1, e1.2, e2.symm⟩
theorem src_pair {K : PySem.W.Frag} {b : Nat} {w : Wd} {xs ys : List V} {l m : List Val} {J : L2.It} {n : Nat} {G : Hp → Prop} (wk : Walk J n G (YPair (fun i => xs[i]?) (fun i => ys[i]?))) (hn : n = min xs.length ys.length)
    (hG : ∀ w', Tw K w w' → Rel K w' → G w'.H) (q : RvL K w xs l) (p : RvL K w ys m) : Src K b w (zipV l m) J := by
  refine ⟨n, G, _, wk, by simp [zipV, hn, q.length, p.length], hG, fun i v w' H' x t R e y => ?_⟩
  obtain ⟨a, c, e1, e2, rfl⟩ := zip_get e
  obtain ⟨T, x1, y1, rfl, hT, rfl, f1, f2⟩ := y
  obtain ⟨x2, g1, r1⟩ := (t.rvL q).get e1
  obtain ⟨y2, g2, r2⟩ := (t.rvL p).get e2
  simp only at f1 f2
  rw [f1] at g1; cases g1
  rw [f2] at g2; cases g2
  obtain ⟨w3, h1, h2, h3, h4, h5⟩ := new_tup (b := b) R hT (.cons r1 (.cons r2 .nil))
  exact ⟨w3, h2, h1, h3, h4, h5⟩
theorem walk_zipT {K : PySem.W.Frag} {a b : Addr} {xs ys : List V} {n : Nat} (hn : n = min xs.length ys.length) : Walk (RZ.ItzT K a b) n (fun H => SqT K H a xs ∧ SqT K H b ys) (YPair (fun i => xs[i]?) (fun i => ys[i]?)) := by
  subst hn
  refine ⟨fun i _ hi q => ?_, fun _ q => ⟨xs, ys, q.1, q.2, by omega⟩, fun i H v H' _ q y => ?_⟩
  · have h1 : i < xs.length := by omega
    have h2 : i < ys.length := by omega
    exact ⟨xs, ys, xs[i], ys[i], q.1, q.2, by simp [h1], by simp [h2]⟩
  · obtain ⟨T, x, z, h1, h2, h3, h4, h5⟩ := y
    exact ⟨T, x, z, h1, h2, h3, h4 xs q.1, h5 ys q.2⟩
end
end MP

set_option maxHeartbeats 1000000
/-! MiniF2: enumerate and zip over lists and tuples alike. -/
namespace MP
open PySem PySem.Spec PyProof.Rows L2
/-! ### a list or a tuple -/
def SqX (t : Bool) (K : PySem.W.Frag) (H : Hp) (a : Addr) (xs : List V) : Prop := if t = true then SqT K H a xs else SqL K H a xs
def ItX (t : Bool) (h : Heap) (i a : Addr) (n : Nat) : Prop := if t = true then h.IsTupleIter i a n else h.IsListIter i a n
def IsX (t : Bool) (h : Heap) (a : Addr) (its : Array Value) : Prop := if t = true then h.IsTuple a its else h.IsList a its
def oX (t : Bool) (a : Addr) : Obj := { cls := .type (if t = true then "tuple_iterator" else "list_iterator"), data := .fields #[.ref a, .int 0 0] }
section
variable {X : Cx} {pins : List (Addr × Obj)} {σ : L2.St} {H : Hp} {s : Shared}
theorem SqX.get {t : Bool} {a : Addr} {xs : List V} (I : Inv X pins σ H s) (h : SqX t X.K H a xs) : ∃ its, Vals xs its ∧ IsX t s.heap a its.toArray ∧ a < s.heap.objs.size := by
  cases t with
  | true =>
    obtain ⟨its, rv, p, _⟩ := I.tuple h
    obtain ⟨o, ho, _⟩ := id p
    exact ⟨its, rv, p, Heap.lt_size ho⟩
  | false =>
    obtain ⟨its, rv, p, _⟩ := I.list h
    exact ⟨its, rv, p.isList, p.lt⟩
theorem SqX.inj {t : Bool} {a : Addr} {xs ys : List V} (I : Inv X pins σ H s) (h : SqX t X.K H a xs) (h' : SqX t X.K H a ys) : xs = ys := by
  cases t with
  | true => exact I.tuple_inj h h'
  | false => exact I.list_inj h h'
theorem ItX.hold {t : Bool} {h h' : Heap} {i a : Addr} {n : Nat} (x : ItX t h i a n) (e : ∀ o, h.get? i = some o → h'.get? i = some o) : ItX t h' i a n := by
  cases t with
  | true => exact Heap.IsTupleIter.at x e
  | false => exact Heap.IsListIter.at x e
theorem ItX.ob {t : Bool} {h : Heap} {i a : Addr} {n : Nat} (x : ItX t h i a n) : ∃ o, h.get? i = some o ∧ ∀ v, o.data ≠ .cell v := by
  cases t with
  | true =>
    obtain ⟨o, ho, _, hd⟩ := (x : h.IsTupleIter i a n)
    exact ⟨o, ho, fun v q => by rw [hd] at q; cases q⟩
  | false =>
    obtain ⟨o, ho, _, hd⟩ := (x : h.IsListIter i a n)
    exact ⟨o, ho, fun v q => by rw [hd] at q; cases q⟩
theorem drawsX {prog : Program} {w : World} {A : Around} (hh : A.handled = none) (t : Bool) (it a : Addr) (hne : a ≠ it) (items : Array Value) :
    Draws prog w A it [it, a] items.size (fun i v => items[i]? = some v) (fun i h => ItX t h it a i ∧ IsX t h a items) := by
  cases t with
  | true => exact Draws.tuple hh it a hne items
  | false => exact Draws.list hh it a hne items
theorem beginsX (t : Bool) (a : Addr) (items : Array Value) : Begins (.ref a) (oX t a) fun h => IsX t h a items := by
  cases t with
  | true => exact begins_tuple a items
  | false => exact begins_list a items
theorem ItX.new {t : Bool} {h : Heap} {i a : Addr} (e : h.get? i = some (oX t a)) : ItX t h i a 0 := by
  cases t with
  | true => exact ⟨_, e, rfl, rfl⟩
  | false => exact ⟨_, e, rfl, rfl⟩
end
/-! ### enumerate -/
def IteX (t : Bool) (K : PySem.W.Frag) (a : Addr) : L2.It :=
  ⟨fun i H => ∃ (xs : List V) (x : V), SqX t K H a xs ∧ xs[i]? = some x, fun i H v H' => ∃ T x, v = .ref T ∧ H T = none ∧ H' = upd H T (.tup [.int (i : Nat), x]) ∧ ∀ xs, SqX t K H a xs → xs[i]? = some x, fun i H => ∃ xs : List V, SqX t K H a xs ∧ xs.length = i⟩
theorem turn_enumX {P : Program} {w : World} {K : PySem.W.Frag} {elts : List Expr} {kk : Nat} {tpos : Pos} (t : Bool) (a e it : Addr) (n1 : e ≠ it) (n2 : e ≠ a) (n3 : a ≠ it) :
    Turn P w K (.Tuple elts kk tpos) (IteX t K a) [e, it] e (fun i h => (∃ old, IsEnum h e it ((i : Nat) : Int) old) ∧ ItX t h it a i) where
  mem := List.mem_cons_self
  obj := fun i h ⟨⟨old, he⟩, hi⟩ b hb => by
    rcases List.mem_cons.mp hb with rfl | hb
    · exact ⟨_, he, fun v q => nomatch q⟩
    · rw [List.mem_singleton.mp hb]; exact hi.ob
  keep := fun i h h' ⟨⟨old, he⟩, hi⟩ k => ⟨⟨old, k e List.mem_cons_self _ he⟩, hi.hold fun o q => k it (by simp) o q⟩
  item := by
    intro X hP hw hK hc i pins s σ H E I hf st hg
    subst hP hw hK
    obtain ⟨⟨old, he⟩, hit⟩ := st
    obtain ⟨xs, x, hq, hx⟩ := hg
    obtain ⟨its, rv, p, _⟩ := SqX.get I hq
    obtain ⟨u, hu, ru⟩ := rv.get hx
    have lt1 : e < s.heap.objs.size := Heap.lt_size he
    have lt2 : it < s.heap.objs.size := by obtain ⟨_, q, _⟩ := hit.ob; exact Heap.lt_size q
    have hsz : i < its.toArray.size := by have := (List.getElem?_eq_some_iff.mp hu).1; simpa using this
    refine wpAny_pyNext_enum_itemD (drawsX (show X.A.in1.handled = none from I.ok.hd hc) t it a n3 its.toArray) he ⟨hit, p⟩ hsz n1 (by simp [n1, n2]) fun v g tk hv ho hst hT _ hk => ?_
    have hv : v = u := by
      have e2 : its.toArray[i]? = some u := by simpa using hu
      rw [e2] at hv; cases hv; rfl
    subst hv
    refine ⟨_, rfl, wpAny_letOwnedTupleGo_enum (s := { s with heap := g, toks := tk + 1 }) ho fun g2 he2 sb => ?_⟩
    have hT2 : g2.get? s.heap.objs.size = some { cls := .type "tuple", data := .seq #[.int i tk, v] } := (sb.2 _ (Nat.ne_of_gt lt1)).trans hT
    have nu : ObjOk X.prog X.w (upd H s.heap.objs.size (.tup [.int (i : Nat), x])) g2 s.heap.objs.size (.tup [.int (i : Nat), x]) :=
      ⟨(by decide : 2 ≤ sizeLine), [.int i tk, v], .cons ⟨_, rfl⟩ (.cons ru .nil), ⟨_, hT2, rfl, _, rfl⟩⟩
    have J : Inv X pins σ (upd H s.heap.objs.size (.tup [.int (i : Nat), x])) { s with heap := g2, toks := tk + 1 } :=
      I.turnedNew (ch := [e, it]) (fun b o hb q => (sb.2 b fun z => hb (by simp [z])).trans (hk b o (fun z => hb (by simp [z])) (fun z => hb (by simp [z])) q)) hf (Nat.le_refl _) nu
    refine ⟨.ref s.heap.objs.size, _, J, rfl, ⟨_, x, rfl, I.hok.fresh (Nat.le_refl _), rfl, fun ys hy => by rw [SqX.inj I hy hq]; exact hx⟩, ⟨⟨v, ?_⟩, hst.1.hold fun o q => (sb.2 it (Ne.symm n1)).trans q⟩, fun b hb => ?_⟩
    · rw [show ((i + 1 : Nat) : Int) = (i : Int) + 1 by omega]
      exact he2
    · have hb2 : b < s.heap.objs.size := by
        rcases List.mem_cons.mp hb with rfl | hb
        · exact lt1
        · rw [List.mem_singleton.mp hb]; exact lt2
      rw [upd_ne (Nat.ne_of_lt hb2)]
      exact (hf b hb).1
  done := by
    intro X hP hw hK hc i pins s σ H E I hf st hg
    subst hP hw hK
    obtain ⟨⟨old, he⟩, hit⟩ := st
    obtain ⟨xs, hq, hx⟩ := hg
    obtain ⟨its, rv, p, _⟩ := SqX.get I hq
    have hl := rv.length
    obtain ⟨f0, f1, f2, f3, f4, f5⟩ := hf it (by simp)
    have hi : ItX t s.heap it a its.toArray.size := by rw [List.size_toArray, ← hl, hx]; exact hit
    exact wpAny_pyNext_enum_endD (drawsX (show X.A.in1.handled = none from I.ok.hd hc) t it a n3 its.toArray) he ⟨hi, p⟩ fun g eb => ⟨rfl, I.turned (t' := s.toks) (fun b o hb q => eb b o hb q) f0 f1 f3 f4 f5⟩
  self := fun A i s Q E ⟨⟨_, he⟩, _⟩ h => wpAny_pyIter_enum he h
/-- enumerate.__new__, its argument's iterator told by f -/
theorem meets_enumN (v : Value) (it : Addr) (f : Heap → Heap) (Hp : Heap → Prop) (B : ∀ (prog : Program) (w : World) (A : Around) (E : Value → Shared → Prop) (s : Shared) (Q : Value → Shared → Prop), Hp s.heap → Q (.ref it) { s with heap := f s.heap } → wpAny (model prog w) A (pyIter v) Q E s) :
    Meets (Builtin.«enumerate.__new__» ⟨[.type "enumerate", v], []⟩) (fun _ R s => Hp s.heap ∧
      R (.ok (.ret (.ref (f s.heap).objs.size))) { s with heap := (f s.heap).push { cls := .type "enumerate", data := .fields #[.none, .bool false, .ref it, rawInt 0, .none, .none] } }) :=
  .of_wp fun prog w A R s h => by
    obtain ⟨hp, g, d, tk, os⟩ := s
    obtain ⟨h1, h2⟩ := h
    have hs := sub_enumerate
    have go : ∀ {A' : Around} {E : Value → Shared → Prop} {Q : Value → Shared → Prop}, Q (.ref it) ⟨f hp, g, d, tk, os⟩ → wpAny (model prog w) A' (pyIter v) Q E ⟨hp, g, d, tk, os⟩ := fun q => B prog w _ _ ⟨hp, g, d, tk, os⟩ _ h1 q
    wp_walk using go
    refine wpAny_stack_any fun st => wpAny_pure ?_
    split
    · rename_i c _ _ _ _ _
      cases (c == Value.type "enumerate") <;> (wp_walk using go; exact ⟨_, rfl, h2⟩)
    · wp_walk using go
      exact ⟨_, rfl, h2⟩
section
variable {prog : Program} {w : World} {A : Around} {E : Value → Shared → Prop} {s : Shared}
theorem call_enumX {t : Bool} {l : Addr} {items : Array Value} {Q : Value → Shared → Prop} (hL : IsX t s.heap l items)
    (h : ∀ g, IsEnum g (s.heap.objs.size + 1) s.heap.objs.size 0 .none → ItX t g s.heap.objs.size l 0 → (∀ b o, s.heap.get? b = some o → g.get? b = some o) → Q (.ref (s.heap.objs.size + 1)) { s with heap := g }) :
    wpAny (model prog w) A (call (.type "enumerate") [.ref l]) Q E s := by
  have B := beginsX t l items
  refine callType_new F.called_enumerate (by decide) (F.typeCall_enumerate_1 _) (F.newCall_enumerate_1 _) (fun obj => F.args_object_init_2 obj _) F.entry_enumerate_new
    (meets_enumN (.ref l) s.heap.objs.size (fun hp => hp.push (oX t l)) (fun hp => IsX t hp l items ∧ hp.objs.size = s.heap.objs.size) fun prog w A E s' Q ⟨hh, hz⟩ q => B.iter prog w A E s' Q hh (by rw [hz]; exact q)) ⟨⟨hL, rfl⟩, ?_⟩
  have hz : (s.heap.push (oX t l)).objs.size = s.heap.objs.size + 1 := Heap.size_push ..
  show _ ∧ _
  rw [hz]
  have he : IsEnum ((s.heap.push (oX t l)).push { cls := .type "enumerate", data := .fields #[.none, .bool false, .ref s.heap.objs.size, rawInt 0, .none, .none] }) (s.heap.objs.size + 1) s.heap.objs.size 0 .none := by
    have z := Heap.get?_push_size (s.heap.push (oX t l)) (o := { cls := .type "enumerate", data := .fields #[.none, .bool false, .ref s.heap.objs.size, rawInt 0, .none, .none] }) rfl
    rw [hz] at z
    exact z
  have ho := Heap.get?_push_of_some { cls := .type "enumerate", data := .fields #[.none, .bool false, .ref s.heap.objs.size, rawInt 0, .none, .none] } (Heap.get?_push_size s.heap B.free)
  exact ⟨⟨_, he, rfl⟩, h _ he (ItX.new ho) fun b o x => Heap.get?_push_of_some _ (Heap.get?_push_of_some _ x)⟩
end
def iEnumX (K : PySem.W.Frag) (ta : TA) : TI := fun σ H R => ta σ H fun vs H1 => ∃ t a xs, vs = [.ref a] ∧ SqX t K H1 a xs ∧ R (IteX t K a) H1
theorem pi_enumX {X : Cx} {e : Expr} {ta : TA} {p pos tpos : Pos} {elts : List Expr} {kk : Nat} (hg : Gl X "enumerate") (hm : X.mg "enumerate" = none) (ha : PA X [e] ta) (hs : starEach [e] X.env = [(false, eval e X.env)] := by rfl) :
    PI X (.Tuple elts kk tpos) (.Call (.Name "enumerate" p) [e] [] pos) (iEnumX X.K ta) := by
  constructor
  intro pins s σ H R I h
  refine Call_ (ld_blt I hg hm boot_enumerate (PyProof.Rows.callWith_type1 (thn (ha.run pos pins s σ H _ I h) fun us s1 ⟨vs, H1, I1, r1, q1⟩ => ?_) hs rfl))
  obtain ⟨t, a, xs, ex, hq, q⟩ := q1
  subst ex
  cases r1 with
  | cons r rr =>
    cases rr
    cases r
    obtain ⟨its, rv, p', lt⟩ := SqX.get I1 hq
    refine call_enumX p' fun g he hit hk => wpAny_pyIter_enum he ?_
    have J : Inv X pins σ H1 { s1 with heap := g } := I1.kept (t' := s1.toks) hk
    refine ⟨s1.heap.objs.size + 1, [s1.heap.objs.size + 1, s1.heap.objs.size], _, _, H1, rfl, J, turn_enumX t a (s1.heap.objs.size + 1) s1.heap.objs.size (Nat.succ_ne_self _) (Ne.symm (Nat.ne_of_lt (Nat.lt_succ_of_lt lt))) (Nat.ne_of_lt lt), ⟨⟨.none, he⟩, hit⟩, fun b hb => ?_, q⟩
    have hle : s1.heap.objs.size ≤ b := by
      rcases List.mem_cons.mp hb with rfl | hb
      · exact Nat.le_add_right _ _
      · rw [List.mem_singleton.mp hb]; exact Nat.le_refl _
    exact I1.fpOk hle (I1.hok.fresh hle)
/-! ### zip of any two -/
def ItzX (t u : Bool) (K : PySem.W.Frag) (a b : Addr) : L2.It :=
  ⟨fun i H => ∃ (xs ys : List V) (x y : V), SqX t K H a xs ∧ SqX u K H b ys ∧ xs[i]? = some x ∧ ys[i]? = some y,
    fun i H v H' => ∃ T x y, v = .ref T ∧ H T = none ∧ H' = upd H T (.tup [x, y]) ∧ (∀ xs, SqX t K H a xs → xs[i]? = some x) ∧ ∀ ys, SqX u K H b ys → ys[i]? = some y,
    fun i H => ∃ xs ys : List V, SqX t K H a xs ∧ SqX u K H b ys ∧ i ≤ xs.length ∧ i ≤ ys.length ∧ (i = xs.length ∨ i = ys.length)⟩
theorem turn_zipX {P : Program} {w : World} {K : PySem.W.Frag} {elts : List Expr} {kk : Nat} {tpos : Pos} (t u : Bool) {a b z TI TO i1 i2 : Addr} (D : ZipSep2 z TI TO i1 i2 [i1, a] [i2, b]) (n1 : a ≠ i1) (n2 : b ≠ i2) :
    Turn P w K (.Tuple elts kk tpos) (ItzX t u K a b) [z, TI, TO, i1, i2] z (fun i h => IsZip h z TI TO .none ∧ IsTupOf2 h TI (.ref i1) (.ref i2) ∧ (∃ x y, IsTupOf2 h TO x y) ∧ ItX t h i1 a i ∧ ItX u h i2 b i) where
  mem := List.mem_cons_self
  obj := fun i h ⟨hz, hI, ⟨x, y, hO⟩, h1, h2⟩ c hc => by
    simp only [List.mem_cons, List.not_mem_nil, or_false] at hc
    rcases hc with rfl | rfl | rfl | rfl | rfl
    · exact ⟨_, hz, fun v q => nomatch q⟩
    · exact ⟨_, hI, fun v q => nomatch q⟩
    · exact ⟨_, hO, fun v q => nomatch q⟩
    · exact h1.ob
    · exact h2.ob
  keep := fun i h h' ⟨hz, hI, ⟨x, y, hO⟩, h1, h2⟩ k => ⟨k z (by simp) _ hz, k TI (by simp) _ hI, ⟨x, y, k TO (by simp) _ hO⟩, h1.hold fun o q => k i1 (by simp) o q, h2.hold fun o q => k i2 (by simp) o q⟩
  item := by
    intro X hP hw hK hc i pins s σ H E I hf st hg
    subst hP hw hK
    obtain ⟨hz, hI, ⟨x0, y0, hO⟩, h1, h2⟩ := st
    obtain ⟨xs, ys, x, y, qx, qy, hx, hy⟩ := hg
    obtain ⟨its, rv, p, _⟩ := SqX.get I qx
    obtain ⟨its2, rv2, p2, _⟩ := SqX.get I qy
    obtain ⟨v, hv, ru⟩ := rv.get hx
    obtain ⟨v2, hv2, ru2⟩ := rv2.get hy
    have ltz : z < s.heap.objs.size := Heap.lt_size hz
    have hh : X.A.in1.handled = none := I.ok.hd hc
    have hs1 : i < its.toArray.size := by have := (List.getElem?_eq_some_iff.mp hv).1; simpa using this
    have hs2 : i < its2.toArray.size := by have := (List.getElem?_eq_some_iff.mp hv2).1; simpa using this
    refine wpAny_pyNext_zipD2_item D (drawsX hh t i1 a n1 its.toArray) (drawsX hh u i2 b n2 its2.toArray) hz hI hO ⟨h1, p⟩ ⟨h2, p2⟩ hs1 hs2 fun w1 w2 g tk e1 e2 z1 O1 S1 S2 hT _ hk => ?_
    have e1 : w1 = v := by
      have q : its.toArray[i]? = some v := by simpa using hv
      rw [q] at e1; cases e1; rfl
    have e2 : w2 = v2 := by
      have q : its2.toArray[i]? = some v2 := by simpa using hv2
      rw [q] at e2; cases e2; rfl
    subst e1 e2
    refine ⟨_, rfl, wpAny_letOwnedTupleGo_zip (s := { s with heap := g, toks := tk }) z1 fun g2 z2 sb => ?_⟩
    have hT2 : g2.get? s.heap.objs.size = some { cls := .type "tuple", data := .seq #[w1, w2] } := (sb.2 _ (Nat.ne_of_gt ltz)).trans hT
    have nu : ObjOk X.prog X.w (upd H s.heap.objs.size (.tup [x, y])) g2 s.heap.objs.size (.tup [x, y]) :=
      ⟨(by decide : 2 ≤ sizeLine), [w1, w2], .cons ru (.cons ru2 .nil), ⟨_, hT2, rfl, _, rfl⟩⟩
    have J : Inv X pins σ (upd H s.heap.objs.size (.tup [x, y])) { s with heap := g2, toks := tk } :=
      I.turnedNew (t' := tk) (ch := [z, TI, TO, i1, i2]) (fun c o hb q => (sb.2 c fun z => hb (by simp [z])).trans (hk c o (fun z => hb (by simp [z])) (fun z => hb (by simp [z])) (fun z => hb (by simp [z])) (fun z => hb (by simp [z])) q)) hf (Nat.le_refl _) nu
    have lt1 : i1 < s.heap.objs.size := by obtain ⟨_, q, _⟩ := h1.ob; exact Heap.lt_size q
    have lt2 : i2 < s.heap.objs.size := by obtain ⟨_, q, _⟩ := h2.ob; exact Heap.lt_size q
    refine ⟨.ref s.heap.objs.size, _, J, rfl, ⟨_, x, y, rfl, I.hok.fresh (Nat.le_refl _), rfl, fun l hl => by rw [SqX.inj I hl qx]; exact hx, fun l hl => by rw [SqX.inj I hl qy]; exact hy⟩, ⟨z2, ?_, ⟨w1, w2, ?_⟩, ?_, ?_⟩, fun c hc2 => ?_⟩
    · exact (sb.2 _ D.TIz).trans (hk _ _ D.TIz D.TITO D.TIi1 D.TIi2 hI)
    · exact (sb.2 _ D.TOz).trans O1
    · exact S1.1.hold fun o q => (sb.2 _ (Ne.symm D.zi1)).trans q
    · exact S2.1.hold fun o q => (sb.2 _ (Ne.symm D.zi2)).trans q
    · have hb2 : c < s.heap.objs.size := by
        have hc3 := hc2
        simp only [List.mem_cons, List.not_mem_nil, or_false] at hc3
        rcases hc3 with rfl | rfl | rfl | rfl | rfl
        · exact ltz
        · exact Heap.lt_size hI
        · exact Heap.lt_size hO
        · exact lt1
        · exact lt2
      rw [upd_ne (Nat.ne_of_lt hb2)]
      exact (hf c hc2).1
  done := by
    intro X hP hw hK hc i pins s σ H E I hf st hg
    subst hP hw hK
    obtain ⟨hz, hI, ⟨x0, y0, hO⟩, h1, h2⟩ := st
    obtain ⟨xs, ys, qx, qy, l1, l2, hend⟩ := hg
    obtain ⟨its, rv, p, _⟩ := SqX.get I qx
    obtain ⟨its2, rv2, p2, _⟩ := SqX.get I qy
    have e1 := rv.length
    have e2 := rv2.length
    have hh : X.A.in1.handled = none := I.ok.hd hc
    have s1 : its.toArray.size = xs.length := by rw [List.size_toArray, e1]
    have s2 : its2.toArray.size = ys.length := by rw [List.size_toArray, e2]
    exact wpAny_pyNext_zipD2_end D (drawsX hh t i1 a n1 its.toArray) (drawsX hh u i2 b n2 its2.toArray) hz hI hO ⟨h1, p⟩ ⟨h2, p2⟩ (by rw [s1]; exact l1) (by rw [s2]; exact l2) (by rw [s1, s2]; exact hend) fun g tk hk =>
      ⟨rfl, I.turnedL (t' := tk) (ch := [z, TI, TO, i1, i2]) (fun c o hb q => hk c o (fun z => hb (by simp [z])) (fun z => hb (by simp [z])) (fun z => hb (by simp [z])) (fun z => hb (by simp [z])) q) hf⟩
  self := fun A i s Q E st h => wpAny_pyIter_zip st.1 h
def iZipX (K : PySem.W.Frag) (ta : TA) : TI := fun σ H R => ta σ H fun vs H1 => ∃ t u a b xs ys, vs = [.ref a, .ref b] ∧ SqX t K H1 a xs ∧ SqX u K H1 b ys ∧ R (ItzX t u K a b) H1
theorem pi_zipX {X : Cx} {e e2 : Expr} {ta : TA} {p pos tpos : Pos} {elts : List Expr} {kk : Nat} (hg : Gl X "zip") (hm : X.mg "zip" = none) (ha : PA X [e, e2] ta)
    (hs : starEach [e, e2] X.env = (false, eval e X.env) :: starEach [e2] X.env := by rfl) (hpl : (backTo pos (starEach [e2] X.env)).any (·.1) = false := by rfl) :
    PI X (.Tuple elts kk tpos) (.Call (.Name "zip" p) [e, e2] [] pos) (iZipX X.K ta) := by
  constructor
  intro pins s σ H R I h
  refine Call_ (ld_blt I hg hm PyProof.Rows.boot_zip (PyProof.Rows.callWith_type1 (thn (ha.run pos pins s σ H _ I h) fun us s1 ⟨vs, H1, I1, r1, q1⟩ => ?_) hs hpl))
  obtain ⟨t, u, a, b, xs, ys, ex, qx, qy, q⟩ := q1
  subst ex
  cases r1 with
  | cons r rr =>
    cases rr with
    | cons r2 rr =>
      cases rr
      cases r
      cases r2
      obtain ⟨its, rv, p1, lt1⟩ := SqX.get I1 qx
      obtain ⟨its2, rv2, p2, lt2⟩ := SqX.get I1 qy
      refine zip_begins2 (beginsX t a its.toArray) (beginsX u b its2.toArray) p1 p2 fun g hz hI hO g1 g2 _ hk => wpAny_pyIter_zip hz ?_
      have J : Inv X pins σ H1 { s1 with heap := g } := I1.kept (t' := s1.toks) hk
      refine ⟨s1.heap.objs.size + 4, [s1.heap.objs.size + 4, s1.heap.objs.size + 2, s1.heap.objs.size + 3, s1.heap.objs.size, s1.heap.objs.size + 1], _, _, H1, rfl, J,
        turn_zipX t u (zip_sep2 (fp1 := [a]) (fp2 := [b]) (fun c hc => by rw [List.mem_singleton.mp hc]; exact lt1) (fun c hc => by rw [List.mem_singleton.mp hc]; exact lt2)) (Nat.ne_of_lt lt1) (Nat.ne_of_lt (Nat.lt_succ_of_lt lt2)), ⟨hz, hI, ⟨_, _, hO⟩, ItX.new g1, ItX.new g2⟩, fun c hc => ?_, q⟩
      have hle : s1.heap.objs.size ≤ c := by
        simp only [List.mem_cons, List.not_mem_nil, or_false] at hc
        rcases hc with rfl | rfl | rfl | rfl | rfl
        · exact Nat.le_add_right _ _
        · exact Nat.le_add_right _ _
        · exact Nat.le_add_right _ _
        · exact Nat.le_refl _
        · exact Nat.le_add_right _ _
      exact I1.fpOk hle (I1.hok.fresh hle)
/-! ### in mini -/
theorem seqX {K : PySem.W.Frag} {w : Wd} {x : V} {v : Val} {l : List Val} (q : Rv K w x v) (e : sits v [] = some l) : ∃ (t : Bool) (a : Addr) (xs : List V), x = .ref a ∧ (∀ w', Tw K w w' → SqX t K w'.H a xs) ∧ RvL K w xs l := by
  cases v with
  | tup vs =>
    cases e
    cases q with
    | tup a1 a2 => exact ⟨true, _, _, rfl, fun w' t => tup_stay a1 t, a2⟩
  | lst vs =>
    cases e
    cases q with
    | lst a1 an a2 => exact ⟨false, _, _, rfl, fun w' t => lst_stay a1 an t, a2⟩
  | _ => cases e
theorem walk_zipX {K : PySem.W.Frag} {t u : Bool} {a b : Addr} {xs ys : List V} {n : Nat} (hn : n = min xs.length ys.length) : Walk (ItzX t u K a b) n (fun H => SqX t K H a xs ∧ SqX u K H b ys) (YPair (fun i => xs[i]?) (fun i => ys[i]?)) := by
  subst hn
  refine ⟨fun i _ hi q => ?_, fun _ q => ⟨xs, ys, q.1, q.2, by omega, by omega, by omega⟩, fun i H v H' _ q y => ?_⟩
  · have h1 : i < xs.length := by omega
    have h2 : i < ys.length := by omega
    exact ⟨xs, ys, xs[i], ys[i], q.1, q.2, by simp [h1], by simp [h2]⟩
  · obtain ⟨T, x, z, h1, h2, h3, h4, h5⟩ := y
    exact ⟨T, x, z, h1, h2, h3, h4 xs q.1, h5 ys q.2⟩
theorem walk_enumX {K : PySem.W.Frag} {t : Bool} {a : Addr} {xs : List V} : Walk (IteX t K a) xs.length (fun H => SqX t K H a xs) (YPair (fun i => some (.int (i : Nat))) (fun i => xs[i]?)) := by
  refine ⟨fun i _ hi q => ⟨xs, xs[i], q, by simp [hi]⟩, fun _ q => ⟨xs, q, rfl⟩, fun i H v H' _ q y => ?_⟩
  obtain ⟨T, x, h1, h2, h3, h4⟩ := y
  exact ⟨T, .int (i : Nat), x, h1, h2, h3, rfl, h4 xs q⟩
theorem enum_get {l : List Val} {i : Nat} {v : Val} (e : (enumV l)[i]? = some v) : ∃ a, l[i]? = some a ∧ v = .tup [.int (i : Nat), a] := by
  unfold enumV at e
  rw [List.getElem?_map, Option.map_eq_some_iff] at e
  obtain ⟨⟨a, j⟩, e1, e2⟩ := e
  rw [List.getElem?_zipIdx, Option.map_eq_some_iff] at e1
  obtain ⟨c, e3, e4⟩ := e1
  simp only [Nat.zero_add, Prod.mk.injEq] at e4
  obtain ⟨rfl, rfl⟩ := e4
  exact ⟨_, e3, e2.symm⟩
theorem src_enum {K : PySem.W.Frag} {b : Nat} {w : Wd} {t : Bool} {a : Addr} {xs : List V} {l : List Val} (hG : ∀ w', Tw K w w' → SqX t K w'.H a xs) (q : RvL K w xs l) : Src K b w (enumV l) (IteX t K a) := by
  refine ⟨_, _, _, walk_enumX (xs := xs), by simp [enumV, q.length], fun w' t _ => hG w' t, fun i v w' H' x t R e y => ?_⟩
  obtain ⟨c, e1, rfl⟩ := enum_get e
  obtain ⟨T, x1, y1, rfl, hT, rfl, f1, f2⟩ := y
  obtain ⟨x2, g1, r1⟩ := (t.rvL q).get e1
  simp only [Option.some.injEq] at f1 f2
  subst f1
  rw [f2] at g1; cases g1
  obtain ⟨w3, h1, h2, h3, h4, h5⟩ := new_tup (b := b) R hT (.cons (.int _) (.cons r1 .nil))
  exact ⟨w3, h2, h1, h3, h4, h5⟩
section
variable {X : Cx} {C : EC} {pos : Pos}
theorem i_zip {a b : Expr} {ma mb : E} {elts : List Expr} {kk : Nat} {tpos p : Pos} (hg : Gl X "zip") (hm : X.mg "zip" = none) (ha : SE X C a ma) (hb : SE X C b mb) (hs : notStar a = true) (hs2 : notStar b = true) :
    PI X (.Tuple elts kk tpos) (.Call (.Name "zip" p) [a, b] [] pos) (tMI X.K C (.zip ma mb)) := by
  refine PI_mono (pi_zipX hg hm (pa_cons ha (pa_cons hb pa_nil (star_cons hs2)) (star_cons hs)) (star_cons hs) (star_plain (by simp [hs2]))) fun σ H R ⟨w, g, at_, re, l, h', e, k⟩ => ?_
  simp only [evI] at e
  obtain ⟨u, h1, e1, e2⟩ := bind_eq_ok e
  obtain ⟨v, h2, e3, e4⟩ := bind_eq_ok e2
  obtain ⟨l1, h3, e5, e6⟩ := bind_eq_ok e4
  obtain ⟨e7, rfl⟩ := ofO_eq_ok e5
  obtain ⟨l2, h4, e8, e9⟩ := bind_eq_ok e6
  obtain ⟨e10, rfl⟩ := ofO_eq_ok e8
  refine ⟨w, g, at_, re, u, h1, e1, fun w1 f1 t1 R1 x qx => ⟨w1, g, at_.to t1 R1, re.to t1, v, _, by rw [f1]; exact e3, fun w2 f2 t2 R2 y qy => ?_⟩⟩
  split at e9
  · cases e9
    obtain ⟨t, a1, xs, rfl, g1, q1⟩ := seqX qx e7
    obtain ⟨t', a2, ys, rfl, g2, q2⟩ := seqX qy e10
    exact ⟨t, t', a1, a2, xs, ys, rfl, g1 w2 t2.tw, g2 w2 (To.refl (b := 0) R2).tw, k w2 f2 (t1.trans t2) R2 _ (src_pair (walk_zipX rfl) rfl (fun w3 t3 _ => ⟨g1 w3 (Tw.cat t2.tw t3), g2 w3 t3⟩) (t2.rvL q1) q2)⟩
  · cases e9
theorem i_enu {a : Expr} {ma : E} {elts : List Expr} {kk : Nat} {tpos p : Pos} (hg : Gl X "enumerate") (hm : X.mg "enumerate" = none) (ha : SE X C a ma) (hs : notStar a = true) :
    PI X (.Tuple elts kk tpos) (.Call (.Name "enumerate" p) [a] [] pos) (tMI X.K C (.enu ma)) := by
  refine PI_mono (pi_enumX hg hm (pa_cons ha pa_nil (star_cons hs)) (star_cons hs)) fun σ H R ⟨w, g, at_, re, l, h', e, k⟩ => ?_
  simp only [evI] at e
  obtain ⟨u, h1, e1, e2⟩ := bind_eq_ok e
  obtain ⟨l1, h3, e5, e6⟩ := bind_eq_ok e2
  obtain ⟨e7, rfl⟩ := ofO_eq_ok e5
  cases e6
  refine ⟨w, g, at_, re, u, _, e1, fun w1 f1 t1 R1 x qx => ?_⟩
  obtain ⟨t, a1, xs, rfl, g1, q1⟩ := seqX qx e7
  exact ⟨t, a1, xs, rfl, g1 w1 (To.refl (b := 0) R1).tw, k w1 f1 t1 R1 _ (src_enum g1 q1)⟩
end
end MP

set_option maxHeartbeats 2000000
/-! MiniF3: enumerate over zip of two. -/
namespace MP
open PySem PySem.Spec PyProof.Rows L2
/-- the iterators over two that zip holds -/
structure Ap2 (z TI TO i1 i2 a b : Addr) : Prop where
  sep : ZipSep2 z TI TO i1 i2 [i1, a] [i2, b]
  n1 : a ≠ i1
  n2 : b ≠ i2
section
variable {prog : Program} {w : World} {A : Around} {E : Value → Shared → Prop} {s : Shared} {z TI TO T i1 i2 a b : Addr} {f : Bool} {oT : Obj}
/-- the zip's tuple is still out -/
theorem held_next {t u : Bool} {i : Nat} {xs ys : Array Value} {x y : Value} {Q : Value → Shared → Prop} (hh : A.handled = none) (D : Ap2 z TI TO i1 i2 a b)
    (hz : IsZipHeld s.heap z TI TO T f) (hT : s.heap.get? T = some oT) (hTI : IsTupOf2 s.heap TI (.ref i1) (.ref i2)) (h1 : ItX t s.heap i1 a i) (h2 : ItX u s.heap i2 b i) (ha : IsX t s.heap a xs) (hb : IsX u s.heap b ys) (ex : xs[i]? = some x) (ey : ys[i]? = some y)
    (hQ : ∀ g tk, IsZipHeld g z TI TO T true → ItX t g i1 a (i + 1) → ItX u g i2 b (i + 1) → IsTupOf2 g s.heap.objs.size x y → g.objs.size = s.heap.objs.size + 1 → (∀ c o, c ≠ z → c ≠ i1 → c ≠ i2 → s.heap.get? c = some o → g.get? c = some o) → Q (.ref s.heap.objs.size) { s with heap := g, toks := tk }) :
    wpAny (model prog w) A (Builtin.«zip.__next__» ⟨[.ref z], []⟩) (fun r t => ∃ v, r = .done (.ret v) ∧ Q v t) E s := by
  obtain ⟨hp, g0, d, tk0, os⟩ := s
  have D1 := drawsX (prog := prog) (w := w) (A := A) hh t i1 a D.n1 xs
  have D2 := drawsX (prog := prog) (w := w) (A := A) hh u i2 b D.n2 ys
  have l1 : i < xs.size := (Array.getElem?_eq_some_iff.mp ex).1
  have l2 : i < ys.size := (Array.getElem?_eq_some_iff.mp ey).1
  show wpAny _ _ (field (.ref z) 2 >>= _) _ _ _
  refine wpAny_bind (wpAny_field hz rfl (x := .bool false) rfl ?_); show wpAny _ _ (field (.ref z) 3 >>= _) _ _ _
  refine wpAny_bind (wpAny_field hz rfl (x := .ref TI) rfl (wpAny_bind (wpAny_seqItems hTI rfl ?_)))
  show wpAny _ _ (Builtin.SmallTypes.ownedTupleIsFree (.ref z) >>= _) _ _ _
  refine wpAny_bind (wpAny_tupleHeld_zip hz hT fun p1 z1 b1 => ?_)
  replace b1 : Heap.SameBut z hp p1 := b1
  simp only [Bool.false_eq_true, if_false]
  refine wpAny_bind ?_; rw [← Array.forIn_toList]
  simp only [List.forIn_cons, List.forIn_nil]
  refine wpAny_bind (wpAny_bind (wpAny_holding ?_)); show wpAny _ _ (Builtin.SmallTypes.nextOf (.ref i1) >>= _) _ _ ⟨p1, g0, d, tk0, os⟩
  refine wpAny_bind (D1.item i _ _ _ l1 (D1.over ⟨h1, ha⟩ b1 D.sep.zf1) fun v1 p2 tk1 e1 s1 b2 => wpAny_pure (wpAny_pure ?_))
  replace b2 : Heap.SameBut i1 p1 p2 := b2
  refine wpAny_bind (wpAny_bind (wpAny_holding ?_)); show wpAny _ _ (Builtin.SmallTypes.nextOf (.ref i2) >>= _) _ _ ⟨p2, g0, d, tk1, os⟩
  refine wpAny_bind (D2.item i _ _ _ l2 (D2.over (D2.over ⟨h2, hb⟩ b1 D.sep.zf2) b2 D.sep.sep1_2) fun v2 p3 tk2 e2 s2 b3 => wpAny_pure (wpAny_pure (wpAny_pure ?_)))
  replace b3 : Heap.SameBut i2 p2 p3 := b3
  rw [ex] at e1; cases e1
  rw [ey] at e2; cases e2
  show wpAny _ _ (newTuple [x, y] >>= _) _ _ _
  refine wpAny_bind (wpAny_newTuple ?_)
  have sz : p3.objs.size = hp.objs.size := by rw [b3.1, b2.1, b1.1]
  have z3 : IsZipHeld p3 z TI TO T true := b3.extBut _ _ D.sep.zi2 (b2.extBut _ _ D.sep.zi1 z1)
  have kk : ∀ c o, c ≠ z → c ≠ i1 → c ≠ i2 → hp.get? c = some o → p3.get? c = some o := fun c o q1 q2 q3 e => b3.extBut _ _ q3 (b2.extBut _ _ q2 (b1.extBut _ _ q1 e))
  have st1 := D1.over s1 b3 D.sep.sep2_1
  refine wpAny_pure ⟨_, rfl, ?_⟩
  show Q (.ref p3.objs.size) _
  have pt : IsTupOf2 (p3.push { cls := .type "tuple", data := .seq #[x, y] }) p3.objs.size x y := Heap.get?_push_size _ rfl
  have ps : (p3.push { cls := .type "tuple", data := .seq #[x, y] }).objs.size = p3.objs.size + 1 := Heap.size_push ..
  rw [sz] at pt ps ⊢
  exact hQ _ tk2 (Heap.get?_push_of_some _ z3) (st1.1.hold fun o e => Heap.get?_push_of_some _ e) (s2.1.hold fun o e => Heap.get?_push_of_some _ e) pt ps fun c o q1 q2 q3 e => Heap.get?_push_of_some _ (kk c o q1 q2 q3 e)
theorem held_end {t u : Bool} {i : Nat} {xs ys : Array Value} {Q : Fin → Shared → Prop} (hh : A.handled = none) (D : Ap2 z TI TO i1 i2 a b)
    (hz : IsZipHeld s.heap z TI TO T f) (hT : s.heap.get? T = some oT) (hTI : IsTupOf2 s.heap TI (.ref i1) (.ref i2)) (h1 : ItX t s.heap i1 a i) (h2 : ItX u s.heap i2 b i) (ha : IsX t s.heap a xs) (hb : IsX u s.heap b ys) (le1 : i ≤ xs.size) (le2 : i ≤ ys.size) (he : i = xs.size ∨ i = ys.size)
    (hE : ∀ g tk e, (∀ c o, c ≠ z → c ≠ i1 → c ≠ i2 → s.heap.get? c = some o → g.get? c = some o) → (∃ o, g.get? e = some o ∧ o.cls = .type "StopIteration") → E (.ref e) { s with heap := g, toks := tk }) :
    wpAny (model prog w) A (Builtin.«zip.__next__» ⟨[.ref z], []⟩) Q E s := by
  obtain ⟨hp, g0, d, tk0, os⟩ := s
  have D1 := drawsX (prog := prog) (w := w) (A := A) hh t i1 a D.n1 xs
  have D2 := drawsX (prog := prog) (w := w) (A := A) hh u i2 b D.n2 ys
  show wpAny _ _ (field (.ref z) 2 >>= _) _ _ _
  refine wpAny_bind (wpAny_field hz rfl (x := .bool false) rfl ?_); show wpAny _ _ (field (.ref z) 3 >>= _) _ _ _
  refine wpAny_bind (wpAny_field hz rfl (x := .ref TI) rfl (wpAny_bind (wpAny_seqItems hTI rfl ?_)))
  show wpAny _ _ (Builtin.SmallTypes.ownedTupleIsFree (.ref z) >>= _) _ _ _
  refine wpAny_bind (wpAny_tupleHeld_zip hz hT fun p1 z1 b1 => ?_)
  replace b1 : Heap.SameBut z hp p1 := b1
  simp only [Bool.false_eq_true, if_false]
  refine wpAny_bind ?_; rw [← Array.forIn_toList]
  simp only [List.forIn_cons, List.forIn_nil]
  refine wpAny_bind (wpAny_bind (wpAny_holding ?_)); show wpAny _ _ (Builtin.SmallTypes.nextOf (.ref i1) >>= _) _ _ ⟨p1, g0, d, tk0, os⟩
  by_cases l1 : i < xs.size
  · refine wpAny_bind (D1.item i _ _ _ l1 (D1.over ⟨h1, ha⟩ b1 D.sep.zf1) fun v1 p2 tk1 e1 s1 b2 => wpAny_pure (wpAny_pure ?_))
    replace b2 : Heap.SameBut i1 p1 p2 := b2
    have i2n : i = ys.size := by omega
    refine wpAny_bind (wpAny_bind (wpAny_holding ?_)); show wpAny _ _ (Builtin.SmallTypes.nextOf (.ref i2) >>= _) _ _ ⟨p2, g0, d, tk1, os⟩
    refine wpAny_bind (D2.done ⟨p2, g0, d, tk1, os⟩ _ _ (by rw [← i2n]; exact D2.over (D2.over ⟨h2, hb⟩ b1 D.sep.zf2) b2 D.sep.sep1_2) fun q e hq ho => ?_)
    exact hE q tk1 e (fun c o q1 q2 q3 x => hq _ _ q3 (b2.extBut _ _ q2 (b1.extBut _ _ q1 x))) ho
  · have i1n : i = xs.size := by omega
    refine wpAny_bind (D1.done ⟨p1, g0, d, tk0, os⟩ _ _ (by rw [← i1n]; exact D1.over ⟨h1, ha⟩ b1 D.sep.zf1) fun q e hq ho => ?_)
    exact hE q tk0 e (fun c o q1 q2 _ x => hq _ _ q2 (b1.extBut _ _ q1 x)) ho
end
/-- a zip with any sign of its tuple -/
abbrev ZipF (h : Heap) (z TI TO : Addr) (v : Value) (f : Bool) : Prop := h.get? z = some { cls := .type "zip", dict := none, data := .fields #[v, .bool f, .bool false, .ref TI, .ref TO], slots := #[] }
section
variable {prog : Program} {w : World} {A : Around} {E : Value → Shared → Prop} {s : Shared} {z TI TO T i1 i2 a b : Addr} {f : Bool}
theorem dead_free {Q : Bool → Shared → Prop} (hz : ZipF s.heap z TI TO (rawInt T) f) (hT : s.heap.get? T = none) (h : Q true s) : wpAny (model prog w) A (Builtin.SmallTypes.ownedTupleIsFree (.ref z)) Q E s := by
  unfold Builtin.SmallTypes.ownedTupleIsFree
  refine wpAny_bind (wpAny_field hz rfl (x := rawInt T) rfl ?_)
  show wpAny _ _ (loadIfAlive ((T : Int).toNat) >>= _) _ _ _
  rw [Int.toNat_natCast]
  have al : ∀ (R : Option Obj → Shared → Prop), R none s → wpAny (model prog w) A (loadIfAlive T) R E s := fun R r => by
    have r' : R (s.heap.get? T) s := by rw [hT]; exact r
    exact fun _ _ _ => r'
  refine wpAny_bind (al _ ?_)
  simp only [Option.isNone_none, if_true]
  exact wpAny_pure h
/-- the zip's tuple is gone -/
theorem dead_next {t u : Bool} {i : Nat} {xs ys : Array Value} {x y a1 a2 : Value} {Q : Value → Shared → Prop} (hh : A.handled = none) (D : Ap2 z TI TO i1 i2 a b)
    (hz : ZipF s.heap z TI TO (rawInt T) f) (hT : s.heap.get? T = none) (hTI : IsTupOf2 s.heap TI (.ref i1) (.ref i2)) (hTO : IsTupOf2 s.heap TO a1 a2) (h1 : ItX t s.heap i1 a i) (h2 : ItX u s.heap i2 b i) (ha : IsX t s.heap a xs) (hb : IsX u s.heap b ys) (ex : xs[i]? = some x) (ey : ys[i]? = some y)
    (hQ : ∀ g tk, ZipF g z TI TO (rawInt s.heap.objs.size) false → IsTupOf2 g TO x y → ItX t g i1 a (i + 1) → ItX u g i2 b (i + 1) → IsTupOf2 g s.heap.objs.size x y → g.objs.size = s.heap.objs.size + 1 → (∀ c o, c ≠ z → c ≠ TO → c ≠ i1 → c ≠ i2 → s.heap.get? c = some o → g.get? c = some o) → Q (.ref s.heap.objs.size) { s with heap := g, toks := tk }) :
    wpAny (model prog w) A (Builtin.«zip.__next__» ⟨[.ref z], []⟩) (fun r t => ∃ v, r = .done (.ret v) ∧ Q v t) E s := by
  have D1 := drawsX (prog := prog) (w := w) (A := A) hh t i1 a D.n1 xs
  have D2 := drawsX (prog := prog) (w := w) (A := A) hh u i2 b D.n2 ys
  have l1 : i < xs.size := (Array.getElem?_eq_some_iff.mp ex).1
  have l2 : i < ys.size := (Array.getElem?_eq_some_iff.mp ey).1
  obtain ⟨hp, g0, d, tk0, os⟩ := s
  have S := D.sep
  show wpAny _ _ (field (.ref z) 2 >>= _) _ _ _
  refine wpAny_bind (wpAny_field hz rfl (x := .bool false) rfl ?_); show wpAny _ _ (field (.ref z) 3 >>= _) _ _ _
  refine wpAny_bind (wpAny_field hz rfl (x := .ref TI) rfl (wpAny_bind (wpAny_seqItems hTI rfl ?_)))
  show wpAny _ _ (Builtin.SmallTypes.ownedTupleIsFree (.ref z) >>= _) _ _ _
  refine wpAny_bind (dead_free hz hT ?_)
  simp only [if_true]
  refine wpAny_bind (wpAny_rule (wpAny_bind (wpAny_field hz rfl (x := .ref TO) rfl (wpAny_bind (wpAny_setField_rec hz (by simp) fun q0 z0 b0 => ?_)))))
  replace z0 : ZipF q0 z TI TO .ellipsis f := z0
  replace b0 : Heap.SameBut z hp q0 := b0
  refine wpAny_bind ?_
  simp only [List.zipIdx_cons, List.zipIdx_nil, List.forIn_cons, List.forIn_nil]
  refine wpAny_bind (wpAny_bind (wpAny_onRaise ?_)); show wpAny _ _ (Builtin.SmallTypes.nextOf (.ref i1) >>= _) _ _ ⟨q0, g0, d, tk0, os⟩
  refine wpAny_bind (D1.item i _ _ _ l1 (D1.over ⟨h1, ha⟩ b0 S.zf1) fun v1 p1 tk1 e1 s1 b1 => wpAny_pure ?_)
  replace b1 : Heap.SameBut i1 q0 p1 := b1
  have u1 : IsTupOf2 p1 TO a1 a2 := b1.extBut _ _ S.Ti1 (b0.extBut _ _ S.TOz hTO)
  refine wpAny_bind (wpAny_seqItems (s := ⟨p1, g0, d, tk1, os⟩) u1 rfl (wpAny_bind (updateSeq_IsTupOf2 (s := ⟨p1, g0, d, tk1, os⟩) u1 fun q1 w1 c1 => ?_)))
  replace w1 : IsTupOf2 q1 TO v1 a2 := w1
  replace c1 : Heap.SameBut TO p1 q1 := c1
  refine wpAny_bind (wpAny_letGo (wpAny_pure (wpAny_bind (wpAny_bind (wpAny_onRaise ?_)))))
  show wpAny _ _ (Builtin.SmallTypes.nextOf (.ref i2) >>= _) _ _ ⟨q1, g0, d, tk1, os⟩
  refine wpAny_bind (D2.item i _ _ _ l2 (D2.over (D2.over (D2.over ⟨h2, hb⟩ b0 S.zf2) b1 S.sep1_2) c1 S.Tf2) fun v2 p2 tk2 e2 s2 b2 => wpAny_pure ?_)
  replace b2 : Heap.SameBut i2 q1 p2 := b2
  have u2 : IsTupOf2 p2 TO v1 a2 := b2.extBut _ _ S.Ti2 w1
  refine wpAny_bind (wpAny_seqItems (s := ⟨p2, g0, d, tk2, os⟩) u2 rfl (wpAny_bind (updateSeq_IsTupOf2 (s := ⟨p2, g0, d, tk2, os⟩) u2 fun q2 w2 c2 => ?_)))
  replace w2 : IsTupOf2 q2 TO v1 v2 := w2
  replace c2 : Heap.SameBut TO p2 q2 := c2
  rw [ex] at e1; cases e1
  rw [ey] at e2; cases e2
  refine wpAny_bind (wpAny_letGo (wpAny_pure (wpAny_pure ?_)))
  refine wpAny_bind (wpAny_seqItems (s := ⟨q2, g0, d, tk2, os⟩) w2 rfl (wpAny_bind (wpAny_newTuple ?_)))
  have sz : q2.objs.size = hp.objs.size := by rw [c2.1, b2.1, c1.1, b1.1, b0.1]
  have zz : ZipF q2 z TI TO .ellipsis f := c2.extBut _ _ S.TOz.symm (b2.extBut _ _ S.zi2 (c1.extBut _ _ S.TOz.symm (b1.extBut _ _ S.zi1 z0)))
  have kk : ∀ c o, c ≠ z → c ≠ TO → c ≠ i1 → c ≠ i2 → hp.get? c = some o → q2.get? c = some o := fun c o cz cT n1 n2 e =>
    c2.extBut _ _ cT (b2.extBut _ _ n2 (c1.extBut _ _ cT (b1.extBut _ _ n1 (b0.extBut _ _ cz e))))
  have j1 := D1.over (D1.over (D1.over s1 c1 S.Tf1) b2 S.sep2_1) c2 S.Tf1
  have j2 := D2.over s2 c2 S.Tf2
  have zl : z < q2.objs.size := Heap.lt_size zz
  show wpAny _ _ (Builtin.SmallTypes.ownedTupleHandOut (.ref z) (.ref q2.objs.size) >>= _) _ _ ⟨q2.push { cls := .type "tuple", data := .seq #[x, y] }, g0, d, tk2, os⟩
  refine wpAny_bind ?_
  unfold Builtin.SmallTypes.ownedTupleHandOut
  have z6 : ZipF (q2.push { cls := .type "tuple", data := .seq #[x, y] }) z TI TO .ellipsis f := Heap.get?_push_of_some _ zz
  refine wpAny_bind (wpAny_setField_rec z6 (by simp) fun q7 z7 b7 => ?_)
  replace z7 : ZipF q7 z TI TO (rawInt q2.objs.size) f := z7
  refine wpAny_setField_rec z7 (by simp) fun q8 z8 b8 => ?_
  replace z8 : ZipF q8 z TI TO (rawInt q2.objs.size) false := z8
  replace b7 : Heap.SameBut z (q2.push { cls := .type "tuple", data := .seq #[x, y] }) q7 := b7
  replace b8 : Heap.SameBut z q7 q8 := b8
  have up : ∀ c o, c ≠ z → q2.get? c = some o → q8.get? c = some o := fun c o n e => b8.extBut _ _ n (b7.extBut _ _ n (Heap.get?_push_of_some _ e))
  have tn : IsTupOf2 q8 q2.objs.size x y := b8.extBut _ _ (Nat.ne_of_gt zl) (b7.extBut _ _ (Nat.ne_of_gt zl) (Heap.get?_push_size _ rfl))
  have s8 : q8.objs.size = q2.objs.size + 1 := by rw [b8.1, b7.1, Heap.size_push]
  rw [sz] at z8 tn s8
  refine wpAny_pure ⟨_, rfl, ?_⟩
  show Q (.ref q2.objs.size) ⟨q8, g0, d, tk2, os⟩
  rw [sz]
  exact hQ q8 tk2 z8 (up _ _ S.TOz w2) (j1.1.hold fun o e => up i1 o (Ne.symm S.zi1) e) (j2.1.hold fun o e => up i2 o (Ne.symm S.zi2) e) tn s8 fun c o cz cT n1 n2 e => up c o cz (kk c o cz cT n1 n2 e)
theorem dead_end {t u : Bool} {i : Nat} {xs ys : Array Value} {a1 a2 : Value} {Q : Fin → Shared → Prop} (hh : A.handled = none) (D : Ap2 z TI TO i1 i2 a b)
    (hz : ZipF s.heap z TI TO (rawInt T) f) (hT : s.heap.get? T = none) (hTI : IsTupOf2 s.heap TI (.ref i1) (.ref i2)) (hTO : IsTupOf2 s.heap TO a1 a2) (h1 : ItX t s.heap i1 a i) (h2 : ItX u s.heap i2 b i) (ha : IsX t s.heap a xs) (hb : IsX u s.heap b ys) (le1 : i ≤ xs.size) (le2 : i ≤ ys.size) (he : i = xs.size ∨ i = ys.size)
    (hE : ∀ g tk e, (∀ c o, c ≠ z → c ≠ TO → c ≠ i1 → c ≠ i2 → s.heap.get? c = some o → g.get? c = some o) → (∃ o, g.get? e = some o ∧ o.cls = .type "StopIteration") → E (.ref e) { s with heap := g, toks := tk }) :
    wpAny (model prog w) A (Builtin.«zip.__next__» ⟨[.ref z], []⟩) Q E s := by
  have D1 := drawsX (prog := prog) (w := w) (A := A) hh t i1 a D.n1 xs
  have D2 := drawsX (prog := prog) (w := w) (A := A) hh u i2 b D.n2 ys
  obtain ⟨hp, g0, d, tk0, os⟩ := s
  have S := D.sep
  show wpAny _ _ (field (.ref z) 2 >>= _) _ _ _
  refine wpAny_bind (wpAny_field hz rfl (x := .bool false) rfl ?_); show wpAny _ _ (field (.ref z) 3 >>= _) _ _ _
  refine wpAny_bind (wpAny_field hz rfl (x := .ref TI) rfl (wpAny_bind (wpAny_seqItems hTI rfl ?_)))
  show wpAny _ _ (Builtin.SmallTypes.ownedTupleIsFree (.ref z) >>= _) _ _ _
  refine wpAny_bind (dead_free hz hT ?_)
  simp only [if_true]
  refine wpAny_bind (wpAny_rule (wpAny_bind (wpAny_field hz rfl (x := .ref TO) rfl (wpAny_bind (wpAny_setField_rec hz (by simp) fun q0 z0 b0 => ?_)))))
  replace z0 : ZipF q0 z TI TO .ellipsis f := z0
  replace b0 : Heap.SameBut z hp q0 := b0
  refine wpAny_bind ?_
  simp only [List.zipIdx_cons, List.zipIdx_nil, List.forIn_cons, List.forIn_nil]
  have shut : ∀ (q : Heap) (e : Addr) (tk : Nat) (oe : Obj), ZipF q z TI TO .ellipsis f → q.get? e = some oe → oe.cls = .type "StopIteration" → (∀ c o, c ≠ z → c ≠ TO → c ≠ i1 → c ≠ i2 → hp.get? c = some o → q.get? c = some o) →
      ∀ q', Heap.SameBut z q q' → E (.ref e) ⟨q', g0, d, tk, os⟩ := fun q e tk oe hzq hoe hce hk q' hq' => by
    have hez : e ≠ z := fun x => by subst x; rw [hzq] at hoe; cases hoe; simp at hce
    exact hE q' tk e (fun c o n1 n2 n3 n4 x => hq'.extBut _ _ n1 (hk c o n1 n2 n3 n4 x)) ⟨oe, hq'.extBut _ _ hez hoe, hce⟩
  refine wpAny_bind (wpAny_bind (wpAny_onRaise ?_)); show wpAny _ _ (Builtin.SmallTypes.nextOf (.ref i1) >>= _) _ _ ⟨q0, g0, d, tk0, os⟩
  by_cases l1 : i < xs.size
  · refine wpAny_bind (D1.item i _ _ _ l1 (D1.over ⟨h1, ha⟩ b0 S.zf1) fun v1 p1 tk1 e1 s1 b1 => wpAny_pure ?_)
    replace b1 : Heap.SameBut i1 q0 p1 := b1
    have u1 : IsTupOf2 p1 TO a1 a2 := b1.extBut _ _ S.Ti1 (b0.extBut _ _ S.TOz hTO)
    refine wpAny_bind (wpAny_seqItems (s := ⟨p1, g0, d, tk1, os⟩) u1 rfl (wpAny_bind (updateSeq_IsTupOf2 (s := ⟨p1, g0, d, tk1, os⟩) u1 fun q1 w1 c1 => ?_)))
    replace w1 : IsTupOf2 q1 TO v1 a2 := w1
    replace c1 : Heap.SameBut TO p1 q1 := c1
    have i2n : i = ys.size := by omega
    refine wpAny_bind (wpAny_letGo (wpAny_pure (wpAny_bind (wpAny_bind (wpAny_onRaise ?_)))))
    show wpAny _ _ (Builtin.SmallTypes.nextOf (.ref i2) >>= _) _ _ ⟨q1, g0, d, tk1, os⟩
    refine wpAny_bind (D2.done ⟨q1, g0, d, tk1, os⟩ _ _ (by rw [← i2n]; exact D2.over (D2.over (D2.over ⟨h2, hb⟩ b0 S.zf2) b1 S.sep1_2) c1 S.Tf2) fun q e hq ho => ?_)
    replace hq : Heap.ExtBut i2 q1 q := hq
    obtain ⟨oe, hoe, hce⟩ := ho
    replace hoe : q.get? e = some oe := hoe
    have hzq : ZipF q z TI TO .ellipsis f := hq _ _ S.zi2 (c1.extBut _ _ S.TOz.symm (b1.extBut _ _ S.zi1 z0))
    exact wpAny_setField_rec (s := ⟨q, g0, d, tk1, os⟩) hzq (by simp) fun q' _ hq' => shut q e tk1 oe hzq hoe hce (fun c o n1 n2 n3 n4 x => hq _ _ n4 (c1.extBut _ _ n2 (b1.extBut _ _ n3 (b0.extBut _ _ n1 x)))) q' hq'
  · have i1n : i = xs.size := by omega
    refine wpAny_bind (D1.done ⟨q0, g0, d, tk0, os⟩ _ _ (by rw [← i1n]; exact D1.over ⟨h1, ha⟩ b0 S.zf1) fun q e hq ho => ?_)
    replace hq : Heap.ExtBut i1 q0 q := hq
    obtain ⟨oe, hoe, hce⟩ := ho
    replace hoe : q.get? e = some oe := hoe
    have hzq : ZipF q z TI TO .ellipsis f := hq _ _ S.zi1 z0
    exact wpAny_setField_rec (s := ⟨q, g0, d, tk0, os⟩) hzq (by simp) fun q' _ hq' => shut q e tk0 oe hzq hoe hce (fun c o n1 _ n3 _ x => hq _ _ n3 (b0.extBut _ _ n1 x)) q' hq'
end
/-- where a zip stands behind i pairs -/
structure ZS (t u : Bool) (h : Heap) (z TI TO i1 i2 a b : Addr) (i : Nat) : Prop where
  ti : IsTupOf2 h TI (.ref i1) (.ref i2)
  a : ItX t h i1 a i
  b : ItX u h i2 b i
  to : ∃ x y, IsTupOf2 h TO x y
  z : IsZip h z TI TO .none ∨ ∃ (T : Addr) (f : Bool), ZipF h z TI TO (rawInt T) f
section
variable {prog : Program} {w : World} {A : Around} {E : Value → Shared → Prop} {s : Shared} {z TI TO i1 i2 a b : Addr}
theorem ZS.zz {t u : Bool} {h : Heap} {i : Nat} (S : ZS t u h z TI TO i1 i2 a b i) : ∃ fs, h.get? z = some { cls := .type "zip", data := .fields fs } := by
  rcases S.z with q | ⟨_, _, q⟩ <;> exact ⟨_, q⟩
theorem zs_next {t u : Bool} {i : Nat} {xs ys : Array Value} {x y : Value} {Q : Value → Shared → Prop} (hh : A.handled = none) (D : Ap2 z TI TO i1 i2 a b) (S : ZS t u s.heap z TI TO i1 i2 a b i) (ha : IsX t s.heap a xs) (hb : IsX u s.heap b ys) (ex : xs[i]? = some x) (ey : ys[i]? = some y)
    (hQ : ∀ g tk, ZS t u g z TI TO i1 i2 a b (i + 1) → IsTupOf2 g s.heap.objs.size x y → g.objs.size = s.heap.objs.size + 1 → (∀ c o, c ≠ z → c ≠ TO → c ≠ i1 → c ≠ i2 → s.heap.get? c = some o → g.get? c = some o) → Q (.ref s.heap.objs.size) { s with heap := g, toks := tk }) :
    wpAny (model prog w) A (Builtin.SmallTypes.nextOf (.ref z)) Q E s := by
  obtain ⟨fs, zo⟩ := S.zz
  have ty : s.TypeIs (.ref z) "zip" := ⟨_, zo, rfl⟩
  have l1 : i < xs.size := (Array.getElem?_eq_some_iff.mp ex).1
  have l2 : i < ys.size := (Array.getElem?_eq_some_iff.mp ey).1
  have sz : ∀ {c o}, s.heap.get? c = some o → s.heap.objs.size ≠ c := fun e => Nat.ne_of_gt (Heap.lt_size e)
  obtain ⟨o1, e1, _⟩ := S.a.ob
  obtain ⟨o2, e2, _⟩ := S.b.ob
  unfold Builtin.SmallTypes.nextOf
  refine wpAny_bind (wpAny_callSpecial?_slot (name := Str.ofString "__next__") ty F.slot_zip_next (wpAny_call_entry F.slot_zip_next ty F.entry_zip_next ?_ (F.args_zip_next_1 _)))
  obtain ⟨x0, y0, qo⟩ := S.to
  rcases S.z with q | ⟨T, f, q⟩
  · refine zipD2_next_item (A := A.in1) D.sep (drawsX (A := A.in1) hh t i1 a D.n1 xs) (drawsX (A := A.in1) hh u i2 b D.n2 ys) q S.ti qo ⟨S.a, ha⟩ ⟨S.b, hb⟩ l1 l2 fun v1 v2 g tk p1 p2 zn to s1 s2 tn gs k => ?_
    rw [ex] at p1; cases p1
    rw [ey] at p2; cases p2
    exact wpAny_pure (hQ g tk ⟨k _ _ D.sep.TIz D.sep.TITO D.sep.TIi1 D.sep.TIi2 S.ti, s1.1, s2.1, ⟨_, _, to⟩, .inr ⟨s.heap.objs.size, false, zn⟩⟩ tn gs k)
  · cases qT : s.heap.get? T with
    | some oT =>
      refine held_next (A := A.in1) hh D q qT S.ti S.a S.b ha hb ex ey fun g tk zn s1 s2 tn gs k => ?_
      exact wpAny_pure (hQ g tk ⟨k _ _ D.sep.TIz D.sep.TIi1 D.sep.TIi2 S.ti, s1, s2, ⟨_, _, k _ _ D.sep.TOz D.sep.Ti1 D.sep.Ti2 qo⟩, .inr ⟨T, true, zn⟩⟩ tn gs fun c o c1 _ c3 c4 e => k c o c1 c3 c4 e)
    | none =>
      refine dead_next (A := A.in1) hh D q qT S.ti qo S.a S.b ha hb ex ey fun g tk zn to s1 s2 tn gs k => ?_
      exact wpAny_pure (hQ g tk ⟨k _ _ D.sep.TIz D.sep.TITO D.sep.TIi1 D.sep.TIi2 S.ti, s1, s2, ⟨_, _, to⟩, .inr ⟨s.heap.objs.size, false, zn⟩⟩ tn gs k)
theorem zs_stop {t u : Bool} {i : Nat} {xs ys : Array Value} {Q : Value → Shared → Prop} (hh : A.handled = none) (D : Ap2 z TI TO i1 i2 a b) (S : ZS t u s.heap z TI TO i1 i2 a b i) (ha : IsX t s.heap a xs) (hb : IsX u s.heap b ys) (le1 : i ≤ xs.size) (le2 : i ≤ ys.size) (he : i = xs.size ∨ i = ys.size)
    (hE : ∀ g tk e, (∀ c o, c ≠ z → c ≠ TO → c ≠ i1 → c ≠ i2 → s.heap.get? c = some o → g.get? c = some o) → (∃ o, g.get? e = some o ∧ o.cls = .type "StopIteration") → E (.ref e) { s with heap := g, toks := tk }) :
    wpAny (model prog w) A (Builtin.SmallTypes.nextOf (.ref z)) Q E s := by
  obtain ⟨fs, zo⟩ := S.zz
  have ty : s.TypeIs (.ref z) "zip" := ⟨_, zo, rfl⟩
  unfold Builtin.SmallTypes.nextOf
  refine wpAny_bind (wpAny_callSpecial?_slot (name := Str.ofString "__next__") ty F.slot_zip_next (wpAny_call_entry F.slot_zip_next ty F.entry_zip_next ?_ (F.args_zip_next_1 _)))
  obtain ⟨x0, y0, qo⟩ := S.to
  rcases S.z with q | ⟨T, f, q⟩
  · exact zipD2_next_end (A := A.in1) D.sep (drawsX (A := A.in1) hh t i1 a D.n1 xs) (drawsX (A := A.in1) hh u i2 b D.n2 ys) q S.ti qo ⟨S.a, ha⟩ ⟨S.b, hb⟩ le1 le2 he hE
  · cases qT : s.heap.get? T with
    | some oT => exact held_end (A := A.in1) hh D q qT S.ti S.a S.b ha hb le1 le2 he fun g tk e k ho => hE g tk e (fun c o c1 _ c3 c4 x => k c o c1 c3 c4 x) ho
    | none => exact dead_end (A := A.in1) hh D q qT S.ti qo S.a S.b ha hb le1 le2 he hE
/-- enumerate's step over any iterator that leaves it alone -/
theorem enum_step {e it : Addr} {c : Int} {old : Value} {Q : Value → Shared → Prop} {R : Value → Heap → Prop} (he : IsEnum s.heap e it c old)
    (hin : ∀ (E' : Value → Shared → Prop) (Q' : Value → Shared → Prop), (∀ x g tk, R x g → IsEnum g e it c old → Q' x { s with heap := g, toks := tk }) → wpAny (model prog w) A (Builtin.SmallTypes.nextOf (.ref it)) Q' E' s)
    (hQ : ∀ x g g' tk, R x g → IsEnumOut g' e it (c + 1) x g.objs.size → g'.get? g.objs.size = some { cls := .type "tuple", data := .seq #[.int c tk, x] } → g'.objs.size = g.objs.size + 1 → (∀ b o, b ≠ e → g.get? b = some o → g'.get? b = some o) → Q (.ref g.objs.size) { s with heap := g', toks := tk + 1 }) :
    wpAny (model prog w) A (Builtin.«enumerate.__next__» ⟨[.ref e], []⟩) (fun r t => ∃ v, r = .done (.ret v) ∧ Q v t) E s := by
  obtain ⟨hp, g0, d, tk0, os⟩ := s
  show wpAny _ _ (field (.ref e) 2 >>= _) _ _ _
  refine wpAny_bind (wpAny_field he rfl (x := .ref it) rfl (wpAny_bind (hin _ _ fun x p1 tk hR e1 => ?_)))
  replace e1 : IsEnum p1 e it c old := e1
  show wpAny _ _ (field (.ref e) 3 >>= _) _ _ ⟨p1, g0, d, tk, os⟩
  refine wpAny_bind (wpAny_field e1 rfl (x := rawInt c) rfl ?_); show wpAny _ _ (field (.ref e) 4 >>= _) _ _ ⟨p1, g0, d, tk, os⟩
  refine wpAny_bind (wpAny_field e1 rfl (x := .none) rfl ?_); show wpAny _ _ (mkInt c >>= _) _ _ ⟨p1, g0, d, tk, os⟩
  refine wpAny_bind (wpAny_mkInt ?_); show wpAny _ _ (setField (.ref e) 3 (rawInt (c + 1)) >>= _) _ _ ⟨p1, g0, d, tk + 1, os⟩
  refine wpAny_bind (wpAny_setField_rec e1 (by simp) fun p2 e2 b2 => ?_)
  replace b2 : Heap.SameBut e p1 p2 := b2
  replace e2 : IsEnum p2 e it (c + 1) old := e2
  show wpAny _ _ (setField (.ref e) 4 .none >>= _) _ _ ⟨p2, g0, d, tk + 1, os⟩
  refine wpAny_bind (wpAny_setField_rec e2 (by simp) fun p3 e3 b3 => ?_)
  replace b3 : Heap.SameBut e p2 p3 := b3
  replace e3 : IsEnum p3 e it (c + 1) old := e3
  show wpAny _ _ (newTuple [.int c tk, x] >>= _) _ _ ⟨p3, g0, d, tk + 1, os⟩
  refine wpAny_bind (wpAny_newTuple ?_)
  have e4 : IsEnum (p3.push { cls := .type "tuple", data := .seq #[.int c tk, x] }) e it (c + 1) old := Heap.get?_push_of_some _ e3
  have s3 : p3.objs.size = p1.objs.size := by rw [b3.1, b2.1]
  have lt : e < p1.objs.size := Heap.lt_size e1
  obtain ⟨p4, hp4⟩ : ∃ p4, p4 = p3.push { cls := .type "tuple", data := .seq #[.int c tk, x] } := ⟨_, rfl⟩
  rw [← hp4] at e4
  have t4 : p4.get? p1.objs.size = some { cls := .type "tuple", data := .seq #[.int c tk, x] } := by rw [hp4, ← s3]; exact Heap.get?_push_size _ rfl
  have s4 : p4.objs.size = p1.objs.size + 1 := by rw [hp4, Heap.size_push, s3]
  have k4 : ∀ b o, b ≠ e → p1.get? b = some o → p4.get? b = some o := fun b o hb q => by
    rw [hp4]; exact Heap.get?_push_of_some _ (b3.extBut b o hb (b2.extBut b o hb q))
  rw [← hp4, s3]
  show wpAny _ _ (Builtin.SmallTypes.ownedTupleIsFree (.ref e) >>= _) _ _ ⟨p4, g0, d, tk + 1, os⟩
  clear hp4 e3 b3 e2 b2 s3 p3 p2
  refine wpAny_bind ?_
  unfold Builtin.SmallTypes.ownedTupleIsFree
  refine wpAny_bind (wpAny_field e4 rfl (x := .none) rfl (wpAny_pure ?_))
  simp only [if_true]
  refine wpAny_bind (wpAny_rule (wpAny_bind (wpAny_field e4 rfl (x := old) rfl (wpAny_bind (wpAny_setField_rec e4 (by simp) fun p5 e5 b5 => ?_)))))
  replace b5 : Heap.SameBut e p4 p5 := b5
  replace e5 : IsEnum p5 e it (c + 1) x := e5
  show wpAny _ _ (Builtin.SmallTypes.ownedTupleHandOut (.ref e) (.ref p1.objs.size) >>= _) _ _ ⟨p5, g0, d, tk + 1, os⟩
  refine wpAny_bind ?_
  unfold Builtin.SmallTypes.ownedTupleHandOut
  refine wpAny_bind (wpAny_setField_rec e5 (by simp) fun p6 e6 b6 => ?_)
  replace b6 : Heap.SameBut e p5 p6 := b6
  replace e6 : IsEnumOut p6 e it (c + 1) x p1.objs.size := e6
  refine wpAny_setField_rec e6 (by simp) fun p7 e7 b7 => ?_
  replace b7 : Heap.SameBut e p6 p7 := b7
  replace e7 : IsEnumOut p7 e it (c + 1) x p1.objs.size := e7
  have up : ∀ b o, b ≠ e → p4.get? b = some o → p7.get? b = some o := fun b o hb q => b7.extBut b o hb (b6.extBut b o hb (b5.extBut b o hb q))
  refine wpAny_bind (wpAny_letGo (wpAny_pure ⟨_, rfl, hQ x p1 p7 tk hR e7 (up _ _ (Nat.ne_of_gt lt) t4) (by rw [b7.1, b6.1, b5.1, s4]) fun b o hb q => up b o hb (k4 b o hb q)⟩))
theorem enz_next {t u : Bool} {e : Addr} {i : Nat} {old : Value} {xs ys : Array Value} {x y : Value} {Q : Option Value → Shared → Prop} (hh : A.handled = none) (D : Ap2 z TI TO i1 i2 a b) (ne : e ∉ [z, TI, TO, i1, i2]) (he : IsEnum s.heap e z (i : Int) old) (S : ZS t u s.heap z TI TO i1 i2 a b i) (ha : IsX t s.heap a xs) (hb : IsX u s.heap b ys) (ex : xs[i]? = some x) (ey : ys[i]? = some y)
    (hQ : ∀ g g' tk tk', ZS t u g z TI TO i1 i2 a b (i + 1) → IsTupOf2 g s.heap.objs.size x y → g.objs.size = s.heap.objs.size + 1 → (∀ c o, c ≠ z → c ≠ TO → c ≠ i1 → c ≠ i2 → s.heap.get? c = some o → g.get? c = some o) →
      IsEnumOut g' e z ((i : Int) + 1) (.ref s.heap.objs.size) g.objs.size → g'.get? g.objs.size = some { cls := .type "tuple", data := .seq #[.int i tk, .ref s.heap.objs.size] } → g'.objs.size = g.objs.size + 1 → (∀ c o, c ≠ e → g.get? c = some o → g'.get? c = some o) → Q (some (.ref g.objs.size)) { s with heap := g', toks := tk' }) :
    wpAny (model prog w) A (pyNext (.ref e)) Q E s := by
  have ty : s.TypeIs (.ref e) "enumerate" := ⟨_, he, rfl⟩
  simp only [List.mem_cons, List.not_mem_nil, or_false, not_or] at ne
  unfold pyNext
  refine wpAny_bind (wpAny_attempt (wpAny_callSpecial?_slot (name := Str.ofString "__next__") ty F.slot_enumerate_next (wpAny_call_entry F.slot_enumerate_next ty F.entry_enumerate_next ?_ (F.args_enumerate_next_1 _))))
  refine enum_step (A := A.in1) (R := fun v g => v = .ref s.heap.objs.size ∧ ZS t u g z TI TO i1 i2 a b (i + 1) ∧ IsTupOf2 g s.heap.objs.size x y ∧ g.objs.size = s.heap.objs.size + 1 ∧ ∀ c o, c ≠ z → c ≠ TO → c ≠ i1 → c ≠ i2 → s.heap.get? c = some o → g.get? c = some o) he (fun E' Q' q => ?_) fun v g g' tk hR a1 a2 a3 a4 => ?_
  · exact zs_next (A := A.in1) hh D S ha hb ex ey fun g tk S' tn gs k => q _ g tk ⟨rfl, S', tn, gs, k⟩ (k _ _ ne.1 ne.2.2.1 ne.2.2.2.1 ne.2.2.2.2 he)
  · obtain ⟨rfl, S', tn, gs, k⟩ := hR
    exact wpAny_pure (hQ g g' tk (tk + 1) S' tn gs k a1 a2 a3 a4)
theorem enz_stop {t u : Bool} {e : Addr} {i : Nat} {old : Value} {xs ys : Array Value} {Q : Option Value → Shared → Prop} (hh : A.handled = none) (D : Ap2 z TI TO i1 i2 a b) (he : IsEnum s.heap e z (i : Int) old) (S : ZS t u s.heap z TI TO i1 i2 a b i) (ha : IsX t s.heap a xs) (hb : IsX u s.heap b ys) (le1 : i ≤ xs.size) (le2 : i ≤ ys.size) (hend : i = xs.size ∨ i = ys.size)
    (hQ : ∀ g tk, (∀ c o, c ≠ z → c ≠ TO → c ≠ i1 → c ≠ i2 → s.heap.get? c = some o → g.get? c = some o) → Q none { s with heap := g, toks := tk }) : wpAny (model prog w) A (pyNext (.ref e)) Q E s := by
  have ty : s.TypeIs (.ref e) "enumerate" := ⟨_, he, rfl⟩
  unfold pyNext
  refine wpAny_bind (wpAny_attempt (wpAny_callSpecial?_slot (name := Str.ofString "__next__") ty F.slot_enumerate_next (wpAny_call_entry F.slot_enumerate_next ty F.entry_enumerate_next ?_ (F.args_enumerate_next_1 _))))
  show wpAny _ _ (field (.ref e) 2 >>= _) _ _ _
  refine wpAny_bind (wpAny_field he rfl (x := .ref z) rfl (wpAny_bind (zs_stop (A := A.in1) hh D S ha hb le1 le2 hend fun g tk x k ho => ?_)))
  obtain ⟨o, ho, hc⟩ := ho
  exact wpAny_bind (wpAny_isInstance (T := "StopIteration") (b := true) ⟨o, ho, hc⟩ isSubtype_stop (wpAny_pure (hQ g tk k)))
end
def IteZ (t u : Bool) (K : PySem.W.Frag) (a b : Addr) : L2.It :=
  ⟨fun i H => ∃ (xs ys : List V) (x y : V), SqX t K H a xs ∧ SqX u K H b ys ∧ xs[i]? = some x ∧ ys[i]? = some y,
    fun i H v H' => ∃ T T2 x y, v = .ref T ∧ H T2 = none ∧ H T = none ∧ T ≠ T2 ∧ H' = upd (upd H T2 (.tup [x, y])) T (.tup [.int (i : Nat), .ref T2]) ∧ (∀ xs, SqX t K H a xs → xs[i]? = some x) ∧ ∀ ys, SqX u K H b ys → ys[i]? = some y,
    fun i H => ∃ xs ys : List V, SqX t K H a xs ∧ SqX u K H b ys ∧ i ≤ xs.length ∧ i ≤ ys.length ∧ (i = xs.length ∨ i = ys.length)⟩
theorem turn_enz {P : Program} {w : World} {K : PySem.W.Frag} {elts : List Expr} {kk : Nat} {tpos : Pos} (t u : Bool) {a b e z TI TO i1 i2 : Addr} (D : Ap2 z TI TO i1 i2 a b) (ne : e ∉ [z, TI, TO, i1, i2]) :
    Turn P w K (.Tuple elts kk tpos) (IteZ t u K a b) [e, z, TI, TO, i1, i2] e (fun i h => (∃ old, IsEnum h e z ((i : Nat) : Int) old) ∧ ZS t u h z TI TO i1 i2 a b i) where
  mem := List.mem_cons_self
  obj := fun i h ⟨⟨old, he⟩, S⟩ c hc => by
    simp only [List.mem_cons, List.not_mem_nil, or_false] at hc
    rcases hc with rfl | rfl | rfl | rfl | rfl | rfl
    · exact ⟨_, he, fun v q => nomatch q⟩
    · obtain ⟨fs, q⟩ := S.zz
      exact ⟨_, q, fun v q => nomatch q⟩
    · exact ⟨_, S.ti, fun v q => nomatch q⟩
    · obtain ⟨x, y, q⟩ := S.to
      exact ⟨_, q, fun v q => nomatch q⟩
    · exact S.a.ob
    · exact S.b.ob
  keep := fun i h h' ⟨⟨old, he⟩, S⟩ k => by
    refine ⟨⟨old, k e (by simp) _ he⟩, k TI (by simp) _ S.ti, S.a.hold fun o q => k i1 (by simp) o q, S.b.hold fun o q => k i2 (by simp) o q, ?_, ?_⟩
    · obtain ⟨x, y, q⟩ := S.to
      exact ⟨x, y, k TO (by simp) _ q⟩
    · rcases S.z with q | ⟨T, f, q⟩
      · exact .inl (k z (by simp) _ q)
      · exact .inr ⟨T, f, k z (by simp) _ q⟩
  item := by
    intro X hP hw hK hc i pins s σ H E I hf st hg
    subst hP hw hK
    obtain ⟨⟨old, he⟩, S⟩ := st
    obtain ⟨xs, ys, x, y, qx, qy, hx, hy⟩ := hg
    obtain ⟨its, rv, p, _⟩ := SqX.get I qx
    obtain ⟨its2, rv2, p2, _⟩ := SqX.get I qy
    obtain ⟨v, hv, ru⟩ := rv.get hx
    obtain ⟨v2, hv2, ru2⟩ := rv2.get hy
    have ne' := ne
    simp only [List.mem_cons, List.not_mem_nil, or_false, not_or] at ne'
    refine enz_next (I.ok.hd hc) D ne he S p p2 (by simpa using hv) (by simpa using hv2) fun g g' tk tk' S' tn gs k eo tt gs' k' => ?_
    refine ⟨_, rfl, wpAny_letOwnedTupleGo_enum (s := { s with heap := g', toks := tk' }) eo fun g2 he2 sb => ?_⟩
    have szl : ∀ {c o}, s.heap.get? c = some o → c < s.heap.objs.size := fun e => Heap.lt_size e
    have lt1 : e < s.heap.objs.size := szl he
    -- the pair
    have n1 : ObjOk X.prog X.w (upd H s.heap.objs.size (.tup [x, y])) g s.heap.objs.size (.tup [x, y]) :=
      ⟨(by decide : 2 ≤ sizeLine), [v, v2], .cons ru (.cons ru2 .nil), ⟨_, tn, rfl, _, rfl⟩⟩
    have J1 : Inv X pins σ (upd H s.heap.objs.size (.tup [x, y])) { s with heap := g, toks := tk } :=
      I.turnedNew (t' := tk) (ch := [z, TO, i1, i2]) (fun c o hb q => k c o (fun z => hb (by simp [z])) (fun z => hb (by simp [z])) (fun z => hb (by simp [z])) (fun z => hb (by simp [z])) q) (fun c hc => hf c (by
        simp only [List.mem_cons, List.not_mem_nil, or_false] at hc ⊢
        rcases hc with h | h | h | h <;> simp [h])) (Nat.le_refl _) n1
    have hfe := hf e (by simp)
    have f1 : FpOk X pins (upd H s.heap.objs.size (.tup [x, y])) e := ⟨by rw [upd_ne (Nat.ne_of_lt lt1)]; exact hfe.1, hfe.2⟩
    have tt2 : g2.get? g.objs.size = some { cls := .type "tuple", data := .seq #[.int i tk, .ref s.heap.objs.size] } := (sb.2 _ (by rw [gs]; exact Nat.ne_of_gt (Nat.lt_succ_of_lt lt1))).trans tt
    have n2 : ObjOk X.prog X.w (upd (upd H s.heap.objs.size (.tup [x, y])) g.objs.size (.tup [.int (i : Nat), .ref s.heap.objs.size])) g2 g.objs.size (.tup [.int (i : Nat), .ref s.heap.objs.size]) :=
      ⟨(by decide : 2 ≤ sizeLine), [.int i tk, .ref s.heap.objs.size], .cons ⟨_, rfl⟩ (.cons rfl .nil), ⟨_, tt2, rfl, _, rfl⟩⟩
    have J2 : Inv X pins σ (upd (upd H s.heap.objs.size (.tup [x, y])) g.objs.size (.tup [.int (i : Nat), .ref s.heap.objs.size])) { s with heap := g2, toks := tk' } :=
      J1.turnedNew (t' := tk') (ch := [e]) (fun c o hb q => (sb.2 c fun z => hb (by simp [z])).trans (k' c o (fun z => hb (by simp [z])) q)) (fun c hc => by rw [List.mem_singleton.mp hc]; exact f1) (Nat.le_refl _) n2
    have neq : g.objs.size ≠ s.heap.objs.size := by rw [gs]; exact Nat.succ_ne_self _
    refine ⟨.ref g.objs.size, _, J2, rfl, ⟨_, _, x, y, rfl, I.hok.fresh (Nat.le_refl _), I.hok.fresh (by rw [gs]; exact Nat.le_succ _), neq, rfl, fun l hl => by rw [SqX.inj I hl qx]; exact hx, fun l hl => by rw [SqX.inj I hl qy]; exact hy⟩, ⟨⟨_, by rw [show ((i + 1 : Nat) : Int) = (i : Int) + 1 by omega]; exact he2⟩, ?_⟩, fun c hc2 => ?_⟩
    · have up : ∀ c o, c ≠ e → g.get? c = some o → g2.get? c = some o := fun c o n q => (sb.2 c n).trans (k' c o n q)
      refine ⟨up _ _ (Ne.symm ne'.2.1) S'.ti, S'.a.hold fun o q => up _ o (Ne.symm ne'.2.2.2.1) q, S'.b.hold fun o q => up _ o (Ne.symm ne'.2.2.2.2) q, ?_, ?_⟩
      · obtain ⟨a1, a2, q⟩ := S'.to
        exact ⟨a1, a2, up _ _ (Ne.symm ne'.2.2.1) q⟩
      · rcases S'.z with q | ⟨T, f, q⟩
        · exact .inl (up _ _ (Ne.symm ne'.1) q)
        · exact .inr ⟨T, f, up _ _ (Ne.symm ne'.1) q⟩
    · have lc : c < s.heap.objs.size := by
        have hc3 := hc2
        simp only [List.mem_cons, List.not_mem_nil, or_false] at hc3
        obtain ⟨fs, qz⟩ := S.zz
        obtain ⟨a1, a2, qo⟩ := S.to
        obtain ⟨o1, q1, _⟩ := S.a.ob
        obtain ⟨o2, q2, _⟩ := S.b.ob
        rcases hc3 with rfl | rfl | rfl | rfl | rfl | rfl
        · exact lt1
        · exact szl qz
        · exact szl S.ti
        · exact szl qo
        · exact szl q1
        · exact szl q2
      rw [upd_ne (by rw [gs]; exact Nat.ne_of_lt (Nat.lt_succ_of_lt lc)), upd_ne (Nat.ne_of_lt lc)]
      exact (hf c hc2).1
  done := by
    intro X hP hw hK hc i pins s σ H E I hf st hg
    subst hP hw hK
    obtain ⟨⟨old, he⟩, S⟩ := st
    obtain ⟨xs, ys, qx, qy, l1, l2, hend⟩ := hg
    obtain ⟨its, rv, p, _⟩ := SqX.get I qx
    obtain ⟨its2, rv2, p2, _⟩ := SqX.get I qy
    have s1 : its.toArray.size = xs.length := by rw [List.size_toArray, rv.length]
    have s2 : its2.toArray.size = ys.length := by rw [List.size_toArray, rv2.length]
    exact enz_stop (I.ok.hd hc) D he S p p2 (by rw [s1]; exact l1) (by rw [s2]; exact l2) (by rw [s1, s2]; exact hend) fun g tk k => ⟨rfl, I.turnedL (t' := tk) (ch := [z, TO, i1, i2]) (fun c o hb q => k c o (fun z => hb (by simp [z])) (fun z => hb (by simp [z])) (fun z => hb (by simp [z])) (fun z => hb (by simp [z])) q) fun c hc => hf c (by
      simp only [List.mem_cons, List.not_mem_nil, or_false] at hc ⊢
      rcases hc with h | h | h | h <;> simp [h])⟩
  self := fun A i s Q E ⟨⟨_, he⟩, _⟩ h => wpAny_pyIter_enum he h
section
variable {prog : Program} {w : World} {A : Around} {E : Value → Shared → Prop} {s : Shared}
/-- enumerate of a zip -/
theorem call_enumZ {z TI TO : Addr} {Q : Value → Shared → Prop} (hz : IsZip s.heap z TI TO .none)
    (h : ∀ g, IsEnum g s.heap.objs.size z 0 .none → (∀ b o, s.heap.get? b = some o → g.get? b = some o) → Q (.ref s.heap.objs.size) { s with heap := g }) :
    wpAny (model prog w) A (call (.type "enumerate") [.ref z]) Q E s := by
  refine callType_new F.called_enumerate (by decide) (F.typeCall_enumerate_1 _) (F.newCall_enumerate_1 _) (fun obj => F.args_object_init_2 obj _) F.entry_enumerate_new
    (meets_enumN (.ref z) z (fun hp => hp) (fun hp => IsZip hp z TI TO .none) fun prog w A E s' Q hh q => wpAny_pyIter_zip hh q) ⟨hz, ?_⟩
  have he : IsEnum (s.heap.push { cls := .type "enumerate", data := .fields #[.none, .bool false, .ref z, rawInt 0, .none, .none] }) s.heap.objs.size z 0 .none :=
    Heap.get?_push_size s.heap rfl
  exact ⟨⟨_, he, rfl⟩, h _ he fun b o x => Heap.get?_push_of_some _ x⟩
end
def iEnzX (K : PySem.W.Frag) (ta : TA) : TI := fun σ H R => ta σ H fun vs H1 => ∃ t u a b xs ys, vs = [.ref a, .ref b] ∧ SqX t K H1 a xs ∧ SqX u K H1 b ys ∧ R (IteZ t u K a b) H1
theorem pi_enz {X : Cx} {e e2 : Expr} {ta : TA} {p p2 q pos tpos : Pos} {elts : List Expr} {kk : Nat} (hg : Gl X "enumerate") (hm : X.mg "enumerate" = none) (hg2 : Gl X "zip") (hm2 : X.mg "zip" = none) (ha : PA X [e, e2] ta)
    (hs : starEach [e, e2] X.env = (false, eval e X.env) :: starEach [e2] X.env := by rfl) (hpl : (backTo q (starEach [e2] X.env)).any (·.1) = false := by rfl) :
    PI X (.Tuple elts kk tpos) (.Call (.Name "enumerate" p) [.Call (.Name "zip" p2) [e, e2] [] q] [] pos) (iEnzX X.K ta) := by
  constructor
  intro pins s σ H R I h
  refine Call_ (ld_blt I hg hm boot_enumerate (PyProof.Rows.callWith_type1 (args_cons ?_ rfl) rfl))
  refine Call_ (ld_blt I hg2 hm2 PyProof.Rows.boot_zip (PyProof.Rows.callWith_type1 (thn (ha.run q pins s σ H _ I h) fun us s1 ⟨vs, H1, I1, r1, q1⟩ => ?_) hs hpl))
  obtain ⟨t, u, a, b, xs, ys, ex, qx, qy, qr⟩ := q1
  subst ex
  cases r1 with
  | cons r rr =>
    cases rr with
    | cons r2 rr =>
      cases rr
      cases r
      cases r2
      obtain ⟨its, rv, p1, lt1⟩ := SqX.get I1 qx
      obtain ⟨its2, rv2, p2, lt2⟩ := SqX.get I1 qy
      refine zip_begins2 (beginsX t a its.toArray) (beginsX u b its2.toArray) p1 p2 fun g hz hI hO g1 g2 sz hk => args_nil ?_
      refine call_enumZ (s := { s1 with heap := g }) hz fun g' he hk' => wpAny_pyIter_enum he ?_
      have J : Inv X pins σ H1 { s1 with heap := g' } := I1.kept (t' := s1.toks) fun c o e => hk' c o (hk c o e)
      have szz : g.objs.size = s1.heap.objs.size + 5 := sz
      have ne : g.objs.size ∉ [s1.heap.objs.size + 4, s1.heap.objs.size + 2, s1.heap.objs.size + 3, s1.heap.objs.size, s1.heap.objs.size + 1] := by
        rw [szz]
        generalize s1.heap.objs.size = N
        simp
      refine ⟨g.objs.size, [g.objs.size, s1.heap.objs.size + 4, s1.heap.objs.size + 2, s1.heap.objs.size + 3, s1.heap.objs.size, s1.heap.objs.size + 1], _, _, H1, rfl, J,
        turn_enz t u ⟨zip_sep2 (fp1 := [a]) (fp2 := [b]) (fun c hc => by rw [List.mem_singleton.mp hc]; exact lt1) (fun c hc => by rw [List.mem_singleton.mp hc]; exact lt2), Nat.ne_of_lt lt1, Nat.ne_of_lt (Nat.lt_succ_of_lt lt2)⟩ ne,
        ⟨⟨.none, he⟩, ⟨hk' _ _ hI, ItX.new (hk' _ _ g1), ItX.new (hk' _ _ g2), ⟨_, _, hk' _ _ hO⟩, .inl (hk' _ _ hz)⟩⟩, fun c hc => ?_, qr⟩
      have hle : s1.heap.objs.size ≤ c := by
        simp only [List.mem_cons, List.not_mem_nil, or_false] at hc
        rcases hc with rfl | rfl | rfl | rfl | rfl | rfl
        · rw [szz]; exact Nat.le_add_right _ _
        · exact Nat.le_add_right _ _
        · exact Nat.le_add_right _ _
        · exact Nat.le_add_right _ _
        · exact Nat.le_refl _
        · exact Nat.le_add_right _ _
      exact I1.fpOk hle (I1.hok.fresh hle)
theorem walk_enz {K : PySem.W.Frag} {t u : Bool} {a b : Addr} {xs ys : List V} {n : Nat} (hn : n = min xs.length ys.length) : Walk (IteZ t u K a b) n (fun H => SqX t K H a xs ∧ SqX u K H b ys)
    (fun i H v H' => ∃ T T2 x y, v = .ref T ∧ H T2 = none ∧ H T = none ∧ T ≠ T2 ∧ H' = upd (upd H T2 (.tup [x, y])) T (.tup [.int (i : Nat), .ref T2]) ∧ xs[i]? = some x ∧ ys[i]? = some y) := by
  subst hn
  refine ⟨fun i _ hi q => ?_, fun _ q => ⟨xs, ys, q.1, q.2, by omega, by omega, by omega⟩, fun i H v H' _ q y => ?_⟩
  · have h1 : i < xs.length := by omega
    have h2 : i < ys.length := by omega
    exact ⟨xs, ys, xs[i], ys[i], q.1, q.2, by simp [h1], by simp [h2]⟩
  · obtain ⟨T, T2, x, z, h1, h2, h3, h6, h7, h4, h5⟩ := y
    exact ⟨T, T2, x, z, h1, h2, h3, h6, h7, h4 xs q.1, h5 ys q.2⟩
theorem src_enz {K : PySem.W.Frag} {b : Nat} {w : Wd} {t u : Bool} {a c : Addr} {xs ys : List V} {l m : List Val}
    (hG : ∀ w', Tw K w w' → Rel K w' → SqX t K w'.H a xs ∧ SqX u K w'.H c ys) (q : RvL K w xs l) (p : RvL K w ys m) : Src K b w (enumV (zipV l m)) (IteZ t u K a c) := by
  refine ⟨_, _, _, walk_enz (xs := xs) (ys := ys) rfl, by simp [enumV, zipV, q.length, p.length], hG, fun i v w' H' x t R e y => ?_⟩
  obtain ⟨v2, e1, rfl⟩ := enum_get e
  obtain ⟨v3, v4, e3, e4, rfl⟩ := zip_get e1
  obtain ⟨T, T2, x1, y1, rfl, hT2, hT, ne, rfl, f1, f2⟩ := y
  obtain ⟨x2, g1, r1⟩ := (t.rvL q).get e3
  obtain ⟨y2, g2, r2⟩ := (t.rvL p).get e4
  rw [f1] at g1; cases g1
  rw [f2] at g2; cases g2
  obtain ⟨w3, h1, h2, h3, h4, h5⟩ := new_tup (b := b) R hT2 (.cons r1 (.cons r2 .nil))
  obtain ⟨w4, k1, k2, k3, k4, k5⟩ := new_tup (b := b) (p := T) h4 (by rw [h2, upd_ne ne]; exact hT) (.cons (.int _) (.cons h5 .nil))
  exact ⟨w4, by rw [k2, h2], by rw [k1, h1], h3.trans k3, k4, k5⟩
section
variable {X : Cx} {C : EC} {pos : Pos}
theorem i_enz {a b : Expr} {ma mb : E} {elts : List Expr} {kk : Nat} {tpos p p2 q : Pos} (hg : Gl X "enumerate") (hm : X.mg "enumerate" = none) (hg2 : Gl X "zip") (hm2 : X.mg "zip" = none) (ha : SE X C a ma) (hb : SE X C b mb) (hs : notStar a = true) (hs2 : notStar b = true) :
    PI X (.Tuple elts kk tpos) (.Call (.Name "enumerate" p) [.Call (.Name "zip" p2) [a, b] [] q] [] pos) (tMI X.K C (.enz ma mb)) := by
  refine PI_mono (pi_enz hg hm hg2 hm2 (pa_cons ha (pa_cons hb pa_nil (star_cons hs2)) (star_cons hs)) (star_cons hs) (star_plain (by simp [hs2]))) fun σ H R ⟨w, g, at_, re, l, h', e, k⟩ => ?_
  simp only [evI] at e
  obtain ⟨u, h1, e1, e2⟩ := bind_eq_ok e
  obtain ⟨v, h2, e3, e4⟩ := bind_eq_ok e2
  obtain ⟨l1, h3, e5, e6⟩ := bind_eq_ok e4
  obtain ⟨e7, rfl⟩ := ofO_eq_ok e5
  obtain ⟨l2, h4, e8, e9⟩ := bind_eq_ok e6
  obtain ⟨e10, rfl⟩ := ofO_eq_ok e8
  refine ⟨w, g, at_, re, u, h1, e1, fun w1 f1 t1 R1 x qx => ⟨w1, g, at_.to t1 R1, re.to t1, v, _, by rw [f1]; exact e3, fun w2 f2 t2 R2 y qy => ?_⟩⟩
  split at e9
  · cases e9
    obtain ⟨t, a1, xs, rfl, g1, q1⟩ := seqX qx e7
    obtain ⟨t', a2, ys, rfl, g2, q2⟩ := seqX qy e10
    exact ⟨t, t', a1, a2, xs, ys, rfl, g1 w2 t2.tw, g2 w2 (To.refl (b := 0) R2).tw, k w2 f2 (t1.trans t2) R2 _ (src_enz (fun w3 t3 _ => ⟨g1 w3 (Tw.cat t2.tw t3), g2 w3 t3⟩) (t2.rvL q1) q2)⟩
  · cases e9
end
end MP

set_option maxHeartbeats 1000000
/-! MiniG: comprehensions, statements. -/
namespace MP
open PySem PySem.Spec PyProof.Rows L2
section
variable {X : Cx} {C : EC} {pos : Pos}
/-! ### a comprehension -/
def tMF (K : PySem.W.Frag) (C : EC) (m : Es) : TT := fun σ H Q => ∃ w g, At K C.base H w ∧ RelE K w σ g ∧ OKB K C.base w (evF C m g w.h) Q
theorem f_nil : PTs X [] (tMF X.K C .nil) := by
  refine ⟨fun pins s σ H Q I ⟨w, g, at_, re, v, h', e, k⟩ => pts_nil.run pins s σ H Q I ?_⟩
  simp only [evF, Res.ok.injEq] at e
  obtain ⟨rfl, rfl⟩ := e
  have := k w rfl (To.refl at_.rel) at_.rel
  rw [at_.hH] at this
  exact this
theorem f_one {c : Expr} {m : E} {ms : Es} (h : ST X C c m) : PTs X [c] (tMF X.K C (.cons m ms)) := by
  refine ⟨fun pins s σ H Q I ⟨w, g, at_, re, ok⟩ => (pts_one h).run pins s σ H Q I ⟨w, g, at_, re, ?_⟩⟩
  simp only [evF] at ok
  exact ok
def compF (C : EC) (t : Tg) (ifs : Es) (elt : E) (own : List Nat) (g : ME) : Val → MH → Res (Option Val) := fun x h =>
  (ofO (tgs t x (wipeE g own)) h).bind fun g1 h => (evF C ifs g1 h).bind fun b h => if b then (ev C elt g1 h).bind fun y h => .ok (some y) h else .ok none h
theorem ev_comp {bx : Bool} {elt : E} {t : Tg} {it : MP.It} {ifs : Es} {own : List Nat} {g : ME} {h : MH} :
    ev C (.comp bx elt t it ifs own) g h = (evI C it g h).bind fun src h => (compLoop (compF C t ifs elt own g) src h).bind fun l h => fin bx (.nl l) h := by
  simp only [ev]
  rfl
def OKc (K : PySem.W.Frag) (b : Nat) (w : Wd) (r : Res (List Val)) (k : List Val → MH → Wd → Prop) : Prop := ∃ l h', r = .ok l h' ∧ True
theorem drop_cons {α : Type} {l : List α} {i : Nat} (h : i < l.length) : l.drop i = l[i] :: l.drop (i + 1) := List.drop_eq_getElem_cons h
theorem s_comp {tg iter elt : Expr} {ifs : List Expr} {scope : Scope} {bx : Bool} {mt : E} {t : Tg} {it : MP.It} {mifs : Es} {ows : List (Str × Nat)} (hc : X.calm = true) (hN : X.N.Nodup) (hi : PI X tg iter (tMI X.K C it)) (ok : BlkOk X.N X.env.scope scope ows)
    (hg : ∀ (s : Shared) (H : Hp) (D : Addr) (cl : List (Str × Addr)) (fp : List Addr), PG (X.blk s H scope (compEnvC scope cl D X.env) fp) tg (gM X.K t))
    (ht : ∀ (s : Shared) (H : Hp) (D : Addr) (cl : List (Str × Addr)) (fp : List Addr), PTs (X.blk s H scope (compEnvC scope cl D X.env) fp) ifs (tMF X.K C mifs))
    (he : ∀ (s : Shared) (H : Hp) (D : Addr) (cl : List (Str × Addr)) (fp : List Addr), PE (X.blk s H scope (compEnvC scope cl D X.env) fp) elt (tME X.K C mt))
    (hs : ∀ x, foldedSetIterable iter X.env x = pure x) (htI : ∀ i ∈ tIdx t, i ∈ ows.map (·.2)) :
    ∀ σ H Q, tME X.K C (.comp bx mt t it mifs (ows.map (·.2))) σ H Q → tLc (tMI X.K C it) (gM X.K t) (tMF X.K C mifs) (tME X.K C mt) (ows.map (·.2)) σ H Q := by
  intro σ H Q ⟨w, g, at_, re, v, hfin, e, k⟩
  rw [ev_comp] at e
  obtain ⟨src, h1, e1, e2⟩ := bind_eq_ok e
  obtain ⟨l, h2, e3, e4⟩ := bind_eq_ok e2
  refine ⟨w, g, at_, re, src, h1, e1, fun w1 f1 t1 R1 J hJ D hD => ?_⟩
  obtain ⟨n, G, Y, wk, hn, hG, hY⟩ := hJ
  have at1 := at_.to t1 R1
  -- the state at turn i: l is what was made, the rest of the loop makes the rest
  let Pv : Nat → Hp → Prop := fun i H => ∃ (w2 : Wd) (xs : List V) (acc rest : List Val), w2.H = H ∧ Rel X.K w2 ∧ To X.K C.base w1 w2 ∧ D ∈ w2.res ∧ w2.H D = some (.lst xs) ∧ RvL X.K w2 xs acc ∧
    compLoop (compF C t mifs mt (ows.map (·.2)) g) (src.drop i) w2.h = .ok rest h2 ∧ acc ++ rest = l
  have hz : l.length ≤ SZ := by
    unfold fin at e4
    by_cases z : l.length ≤ SZ
    · exact z
    · simp only [if_neg z] at e4; cases e4
  refine lc_it wk Pv ?_ (fun i H _ ⟨w2, xs, acc, rest, q1, q2, q3, _⟩ => by rw [← q1]; exact hG w2 q3.tw q2) (fun i x H H' hi2 hp y => ?_) (fun H hp => ?_)
  · obtain ⟨t2, R2⟩ := to_enter (b := C.base) R1 hD
    exact ⟨⟨w1.r, upd w1.H D (.lst []), w1.h, D :: w1.res⟩, [], [], l, rfl, R2, t2, List.mem_cons_self, upd_same, .nil, by rw [List.drop_zero, f1]; exact e3, rfl⟩
  · obtain ⟨w2, xs, acc, rest, q1, q2, q3, q4, q5, q6, q7, q8⟩ := hp
    subst q1
    have hi3 : i < src.length := by rw [← hn]; exact hi2
    rw [drop_cons hi3] at q7
    simp only [compLoop] at q7
    obtain ⟨r, h3, e5, e6⟩ := bind_eq_ok q7
    obtain ⟨rest2, h4, e7, e8⟩ := bind_eq_ok e6
    cases e8
    unfold compF at e5
    obtain ⟨g1, h5, e9, e10⟩ := bind_eq_ok e5
    obtain ⟨e11, rfl⟩ := ofO_eq_ok e9
    obtain ⟨b, h6, e12, e13⟩ := bind_eq_ok e10
    obtain ⟨w3, a1, a2, a3, a4, a5⟩ := hY i _ w2 H' x q3.tw q2 (List.getElem?_eq_getElem hi3) y
    subst a1
    have t13 : To X.K C.base w1 w3 := q3.trans a3
    refine ⟨w3, wipeE g (ows.map (·.2)), _, g1, rfl, a4, (((re.to t1).to t13).wipe _), a5, e11, fun σ2 re2 kept => ⟨kept _ htI |>.trans ?_, ?_⟩⟩
    · -- wiping twice
      have ww : ∀ (own own2 : List Nat) (σ : L2.St), (∀ i ∈ own2, i ∈ own) → wipe (wipe σ own2) own = wipe σ own := by
        intro own own2 σ hsub
        induction own2 with
        | nil => rfl
        | cons j own2 ih =>
          show wipe ((wipe σ own2).set j none) own = wipe σ own
          rw [wipe_set (hsub j List.mem_cons_self)]
          exact ih fun i hi => hsub i (List.mem_cons_of_mem _ hi)
      exact ww _ _ _ fun _ z => z
    · refine ⟨w3, g1, ⟨rfl, a4, Nat.le_trans at1.hb t13.len⟩, re2, b, h6, by rw [a2]; exact e12, fun w4 f4 t4 R4 => ?_⟩
      have t14 := t13.trans t4
      have D4 : D ∈ w4.res := t4.rs D (a3.rs D q4)
      have x4 : w4.H D = some (.lst xs) := (t4.kr D (a3.rs D q4)).trans ((a3.kr D q4).trans q5)
      have acc4 : RvL X.K w4 xs acc := t4.rvL (a3.rvL q6)
      cases b with
      | true =>
        rw [if_pos rfl] at e13
        obtain ⟨yv, h7, e14, e15⟩ := bind_eq_ok e13
        cases e15
        dsimp only
        rw [if_pos rfl]
        refine ⟨w4, g1, ⟨rfl, R4, Nat.le_trans at1.hb t14.len⟩, re2.to t4, yv, _, by rw [f4]; exact e14, fun w5 f5 t5 R5 y5 qy => ?_⟩
        have D5 := t5.rs D D4
        have x5 : w5.H D = some (.lst xs) := (t5.kr D D4).trans x4
        have lenx : acc.length < l.length := by rw [← q8]; simp
        refine ⟨xs, x5, ?_, ?_⟩
        · rw [q6.length, ← sz_line]; exact Nat.lt_of_lt_of_le lenx hz
        · obtain ⟨m1, m2, m3⟩ := to_more (ys := xs ++ [y5]) R5 (t14.trans t5) hD R1 D5
          refine ⟨⟨w5.r, upd w5.H D (.lst (xs ++ [y5])), w5.h, w5.res⟩, xs ++ [y5], acc ++ [yv], rest2, rfl, m2, m1, D5, upd_same, ?_, by show compLoop _ _ w5.h = _; rw [f5]; exact e7, by rw [List.append_assoc]; exact q8⟩
          have : RvL X.K w5 (xs ++ [y5]) (acc ++ [yv]) := (t5.rvL acc4).append (.cons qy .nil)
          have mapL : ∀ {xs : List V} {vs : List Val}, RvL X.K w5 xs vs → RvL X.K ⟨w5.r, upd w5.H D (.lst (xs ++ [y5])), w5.h, w5.res⟩ xs vs ∨ True := fun _ => .inr trivial
          clear mapL
          have mono : ∀ {zs : List V} {vs : List Val}, RvL X.K w5 zs vs → RpL X.K (Live ⟨w5.r, upd w5.H D (.lst (xs ++ [y5])), w5.h, w5.res⟩) w5.r (upd w5.H D (.lst (xs ++ [y5]))) zs vs := by
            intro zs vs q
            induction vs generalizing zs with
            | nil => cases q; exact .nil
            | cons v vs ih => cases q with | cons q1 q2 => exact .cons (m3 q1) (ih q2)
          exact mono this
      | false =>
        rw [if_neg (by decide)] at e13
        cases e13
        dsimp only
        rw [if_neg (by decide)]
        exact ⟨w4, xs, acc, rest2, rfl, R4, t14, D4, x4, acc4, by rw [f4]; exact e7, q8⟩
  · obtain ⟨w2, xs, acc, rest, q1, q2, q3, q4, q5, q6, q7, q8⟩ := hp
    subst q1
    rw [hn, List.drop_length] at q7
    simp only [compLoop, Res.ok.injEq] at q7
    obtain ⟨rfl, q9⟩ := q7
    rw [List.append_nil] at q8
    subst q8
    obtain ⟨w', f', hH, t', R', q'⟩ := to_leave q2 q3 at1.hb hD R1 q4 q5 q6 (by rw [q9]; exact e4)
    rw [← hH]
    exact k w' f' (t1.trans t') R' _ q'
theorem s_lc {tg iter elt : Expr} {ifs : List Expr} {scope : Scope} {bx : Bool} {mt : E} {t : Tg} {it : MP.It} {mifs : Es} {ows : List (Str × Nat)} (hc : X.calm = true) (hN : X.N.Nodup) (hi : PI X tg iter (tMI X.K C it)) (ok : BlkOk X.N X.env.scope scope ows)
    (hg : ∀ (s : Shared) (H : Hp) (D : Addr) (cl : List (Str × Addr)) (fp : List Addr), PG (X.blk s H scope (compEnvC scope cl D X.env) fp) tg (gM X.K t))
    (ht : ∀ (s : Shared) (H : Hp) (D : Addr) (cl : List (Str × Addr)) (fp : List Addr), PTs (X.blk s H scope (compEnvC scope cl D X.env) fp) ifs (tMF X.K C mifs))
    (he : ∀ (s : Shared) (H : Hp) (D : Addr) (cl : List (Str × Addr)) (fp : List Addr), PE (X.blk s H scope (compEnvC scope cl D X.env) fp) elt (tME X.K C mt))
    (hs : ∀ x, foldedSetIterable iter X.env x = pure x) (htI : ∀ i ∈ tIdx t, i ∈ ows.map (·.2)) : SE X C (.ListComp elt [⟨tg, iter, ifs, 0⟩] scope pos) (.comp bx mt t it mifs (ows.map (·.2))) :=
  PE_mono (pe_lc hc hN hi ok hg ht he hs) (s_comp hc hN hi ok hg ht he hs htI)
end
end MP

set_option maxHeartbeats 1000000
/-! MiniG2: comprehensions with two walks. -/
namespace MP
open PySem PySem.Spec PyProof.Rows L2
section
variable {X : Cx} {C : EC} {pos : Pos}
def compF2 (C : EC) (t : Tg) (ifs : Es) (own : List Nat) (it1 : MP.It) (t1 : Tg) (ifs1 : Es) (elt : E) (own1 : List Nat) (g : ME) : Val → MH → Res (List Val) := fun x h =>
  (ofO (tgs t x (wipeE g own)) h).bind fun g1 h => (evF C ifs g1 h).bind fun b h => if b then (evI C it1 g1 h).bind fun src1 h => compLoop (compF C t1 ifs1 elt own1 g1) src1 h else .ok [] h
theorem ev_comp2 {bx : Bool} {elt : E} {t t1 : Tg} {it it1 : MP.It} {ifs ifs1 : Es} {own own1 : List Nat} {g : ME} {h : MH} :
    ev C (.comp2 bx elt t it ifs t1 it1 ifs1 own own1) g h = (evI C it g h).bind fun src h => (compLoop2 (compF2 C t ifs own it1 t1 ifs1 elt own1 g) src h).bind fun l h => fin bx (.nl l) h := by
  simp only [ev]
  rfl
theorem wipe_wipe (own own2 : List Nat) (σ : L2.St) (hsub : ∀ i ∈ own2, i ∈ own) : wipe (wipe σ own2) own = wipe σ own := by
  induction own2 with
  | nil => rfl
  | cons j own2 ih =>
    show wipe ((wipe σ own2).set j none) own = wipe σ own
    rw [wipe_set (hsub j List.mem_cons_self)]
    exact ih fun i hi => hsub i (List.mem_cons_of_mem _ hi)
theorem s_comp2 {tg iter : Expr} {scope : Scope} {bx : Bool} {mt : E} {t t1 : Tg} {it it1 : MP.It} {mifs mifs1 : Es} {ows : List (Str × Nat)} {own1 : List Nat} (hc : X.calm = true) (hN : X.N.Nodup) (hi : PI X tg iter (tMI X.K C it)) (ok : BlkOk X.N X.env.scope scope ows)
    (h1 : ∀ i ∈ own1, i ∈ ows.map (·.2)) (htI : ∀ i ∈ tIdx t, i ∈ ows.map (·.2)) (htI1 : ∀ i ∈ tIdx t1, i ∈ own1) :
    ∀ σ H Q, tME X.K C (.comp2 bx mt t it mifs t1 it1 mifs1 (ows.map (·.2)) own1) σ H Q → tLc2 (tMI X.K C it) (gM X.K t) (tMF X.K C mifs) (tMI X.K C it1) (gM X.K t1) (tMF X.K C mifs1) (tME X.K C mt) (ows.map (·.2)) own1 σ H Q := by
  intro σ H Q ⟨w, g, at_, re, v, hfin, e, k⟩
  rw [ev_comp2] at e
  obtain ⟨src, hs1, e1, e2⟩ := bind_eq_ok e
  obtain ⟨l, h2, e3, e4⟩ := bind_eq_ok e2
  refine ⟨w, g, at_, re, src, hs1, e1, fun w1 f1 t1' R1 J hJ D hD => ?_⟩
  obtain ⟨n, G, Y, wk, hn, hG, hY⟩ := hJ
  have at1 := at_.to t1' R1
  have hz : l.length ≤ SZ := by
    unfold fin at e4
    by_cases z : l.length ≤ SZ
    · exact z
    · simp only [if_neg z] at e4; cases e4
  let fo := compF2 C t mifs (ows.map (·.2)) it1 t1 mifs1 mt own1 g
  let Pv : Nat → Hp → Prop := fun i H => ∃ (w2 : Wd) (xs : List V) (acc rest : List Val), w2.H = H ∧ Rel X.K w2 ∧ To X.K C.base w1 w2 ∧ D ∈ w2.res ∧ w2.H D = some (.lst xs) ∧ RvL X.K w2 xs acc ∧
    compLoop2 fo (src.drop i) w2.h = .ok rest h2 ∧ acc ++ rest = l
  have hGv : ∀ i H, Pv i H → G H := fun i H ⟨w2, xs, acc, rest, q1, q2, q3, _⟩ => by rw [← q1]; exact hG w2 q3.tw q2
  -- a list made longer
  have more : ∀ {w5 : Wd} {xs : List V} {acc : List Val} {y5 : V} {yv : Val}, Rel X.K w5 → To X.K C.base w1 w5 → D ∈ w5.res → w5.H D = some (.lst xs) → RvL X.K w5 xs acc → Rv X.K w5 y5 yv →
      Rel X.K ⟨w5.r, upd w5.H D (.lst (xs ++ [y5])), w5.h, w5.res⟩ ∧ To X.K C.base w1 ⟨w5.r, upd w5.H D (.lst (xs ++ [y5])), w5.h, w5.res⟩ ∧
      RvL X.K ⟨w5.r, upd w5.H D (.lst (xs ++ [y5])), w5.h, w5.res⟩ (xs ++ [y5]) (acc ++ [yv]) := by
    intro w5 xs acc y5 yv R5 T5 D5 x5 ac qy
    obtain ⟨m1, m2, m3⟩ := to_more (ys := xs ++ [y5]) R5 T5 hD R1 D5
    refine ⟨m2, m1, ?_⟩
    have mono : ∀ {zs : List V} {vs : List Val}, RvL X.K w5 zs vs → RpL X.K (Live ⟨w5.r, upd w5.H D (.lst (xs ++ [y5])), w5.h, w5.res⟩) w5.r (upd w5.H D (.lst (xs ++ [y5]))) zs vs := by
      intro zs vs q
      induction vs generalizing zs with
      | nil => cases q; exact .nil
      | cons v vs ih => cases q with | cons q1 q2 => exact .cons (m3 q1) (ih q2)
    exact mono (RpL.append ac (.cons qy .nil))
  refine ⟨fun i m H => m = n - i ∧ i ≤ n ∧ Pv i H, ⟨n, by simp, Nat.zero_le _, ?_⟩, ?_⟩
  · obtain ⟨t2, R2⟩ := to_enter (b := C.base) R1 hD
    exact ⟨⟨w1.r, upd w1.H D (.lst []), w1.h, D :: w1.res⟩, [], [], l, rfl, R2, t2, List.mem_cons_self, upd_same, .nil, by rw [List.drop_zero, f1]; exact e3, rfl⟩
  rintro i m H ⟨rfl, hi2, hp⟩
  by_cases hlt : i < n
  · refine .inr ⟨wk.goes i H hlt (hGv i H hp), Pv (i + 1), fun H' p' => ⟨n - (i + 1), by omega, rfl, hlt, p'⟩, fun x H' y => ?_⟩
    obtain ⟨w2, xs, acc, rest, q1, q2, q3, q4, q5, q6, q7, q8⟩ := hp
    subst q1
    have hi3 : i < src.length := by rw [← hn]; exact hlt
    rw [drop_cons hi3] at q7
    simp only [compLoop2] at q7
    obtain ⟨r, h3, e5, e6⟩ := bind_eq_ok q7
    obtain ⟨rest2, h4, e7, e8⟩ := bind_eq_ok e6
    cases e8
    change compF2 C t mifs (ows.map (·.2)) it1 t1 mifs1 mt own1 g _ _ = _ at e5
    unfold compF2 at e5
    obtain ⟨g1, h5, e9, e10⟩ := bind_eq_ok e5
    obtain ⟨e11, rfl⟩ := ofO_eq_ok e9
    obtain ⟨b, h6, e12, e13⟩ := bind_eq_ok e10
    obtain ⟨w3, a1, a2, a3, a4, a5⟩ := hY i _ w2 H' x q3.tw q2 (List.getElem?_eq_getElem hi3) (wk.yields i w2.H x H' hlt (hG w2 q3.tw q2) y)
    subst a1
    have t13 : To X.K C.base w1 w3 := q3.trans a3
    refine ⟨w3, wipeE g (ows.map (·.2)), _, g1, rfl, a4, (((re.to t1').to t13).wipe _), a5, e11, fun σ2 re2 kept => ⟨kept _ htI |>.trans (wipe_wipe _ _ _ fun _ z => z), ?_⟩⟩
    refine ⟨w3, g1, ⟨rfl, a4, Nat.le_trans at1.hb t13.len⟩, re2, b, h6, by rw [a2]; exact e12, fun w4 f4 t4 R4 => ?_⟩
    have t14 := t13.trans t4
    have D4 : D ∈ w4.res := t4.rs D (a3.rs D q4)
    have x4 : w4.H D = some (.lst xs) := (t4.kr D (a3.rs D q4)).trans ((a3.kr D q4).trans q5)
    have acc4 : RvL X.K w4 xs acc := t4.rvL (a3.rvL q6)
    cases b with
    | false =>
      rw [if_neg (by decide)] at e13
      cases e13
      dsimp only
      rw [if_neg (by decide)]
      exact ⟨w4, xs, acc, rest2, rfl, R4, t14, D4, x4, acc4, by rw [f4]; exact e7, by simpa using q8⟩
    | true =>
      rw [if_pos rfl] at e13
      obtain ⟨src1, h7, e14, e15⟩ := bind_eq_ok e13
      dsimp only
      rw [if_pos rfl]
      refine ⟨w4, g1, ⟨rfl, R4, Nat.le_trans at1.hb t14.len⟩, re2.to t4, src1, h7, by rw [f4]; exact e14, fun w5 f5 t5 R5 J1 hJ1 => ?_⟩
      obtain ⟨n1, G1, Y1, wk1, hn1, hG1, hY1⟩ := hJ1
      have t15 := t14.trans t5
      have D5 := t5.rs D D4
      let Pi : Nat → Hp → Prop := fun j H => ∃ (w6 : Wd) (ys : List V) (ac rin rout : List Val) (hI : MH), w6.H = H ∧ Rel X.K w6 ∧ To X.K C.base w1 w6 ∧ Tw X.K w5 w6 ∧ w5.h.length ≤ w6.h.length ∧ (∀ a ∈ w5.res, a ∈ w6.res) ∧ w6.H D = some (.lst ys) ∧ RvL X.K w6 ys ac ∧
        RelE X.K w6 σ2 g1 ∧ compLoop (compF C t1 mifs1 mt own1 g1) (src1.drop j) w6.h = .ok rin hI ∧ compLoop2 fo (src.drop (i + 1)) hI = .ok rout h2 ∧ ac ++ rin ++ rout = l
      have hGi : ∀ j H, Pi j H → G1 H := fun j H ⟨w6, ys, ac, rin, rout, hI, p1, p2, p3, p4, _⟩ => by rw [← p1]; exact hG1 w6 p4 p2
      refine ⟨fun j m H => m = n1 - j ∧ j ≤ n1 ∧ Pi j H, ⟨n1, by simp, Nat.zero_le _, ?_⟩, ?_⟩
      · exact ⟨w5, xs, acc, r, rest2, h3, rfl, R5, t15, (To.refl (b := 0) R5).tw, Nat.le_refl _, fun _ z => z, (t5.kr D D4).trans x4, t5.rvL acc4, (re2.to t4).to t5, by rw [List.drop_zero, f5]; exact e15, e7, by rw [List.append_assoc]; exact q8⟩
      rintro j m H ⟨rfl, hj2, hp⟩
      by_cases hlj : j < n1
      · refine .inr ⟨wk1.goes j H hlj (hGi j H hp), Pi (j + 1), fun H' p' => ⟨n1 - (j + 1), by omega, rfl, hlj, p'⟩, fun x H' y => ?_⟩
        obtain ⟨w6, ys, ac, rin, rout, hI, p1, p2, p3, p4, p5, p6, p7, p8, p9, p10, p11, p12⟩ := hp
        subst p1
        have hj3 : j < src1.length := by rw [← hn1]; exact hlj
        rw [drop_cons hj3] at p10
        simp only [compLoop] at p10
        obtain ⟨r1, k3, c5, c6⟩ := bind_eq_ok p10
        obtain ⟨rin2, k4, c7, c8⟩ := bind_eq_ok c6
        cases c8
        unfold compF at c5
        obtain ⟨g2, k5, c9, c10⟩ := bind_eq_ok c5
        obtain ⟨c11, rfl⟩ := ofO_eq_ok c9
        obtain ⟨b, k6, c12, c13⟩ := bind_eq_ok c10
        obtain ⟨w7, b1, b2, b3, b4, b5⟩ := hY1 j _ w6 H' x p4 p2 (List.getElem?_eq_getElem hj3) (wk1.yields j w6.H x H' hlj (hG1 w6 p4 p2) y)
        subst b1
        have t17 : To X.K C.base w1 w7 := p3.trans b3
        refine ⟨w7, wipeE g1 own1, _, g2, rfl, b4, ((p9.to b3).wipe _), b5, c11, fun σ3 re3 kept3 => ⟨kept3 _ htI1 |>.trans (wipe_wipe _ _ _ fun _ z => z), ?_⟩⟩
        refine ⟨w7, g2, ⟨rfl, b4, Nat.le_trans at1.hb t17.len⟩, re3, b, k6, by rw [b2]; exact c12, fun w8 f8 t8 R8 => ?_⟩
        have t18 := t17.trans t8
        have t58 : Tw X.K w5 w8 := (p4.to b3).to t8
        have D8 : D ∈ w8.res := t8.rs D (b3.rs D (p6 D D5))
        have res8 : ∀ a ∈ w5.res, a ∈ w8.res := fun a z => t8.rs a (b3.rs a (p6 a z))
        have x8 : w8.H D = some (.lst ys) := (t8.kr D (b3.rs D (p6 D D5))).trans ((b3.kr D (p6 D D5)).trans p7)
        have ac8 : RvL X.K w8 ys ac := t8.rvL (b3.rvL p8)
        cases b with
        | false =>
          rw [if_neg (by decide)] at c13
          cases c13
          dsimp only
          rw [if_neg (by decide)]
          exact ⟨w8, ys, ac, rin2, rout, hI, rfl, R8, t18, t58, Nat.le_trans p5 (Nat.le_trans b3.len t8.len), res8, x8, ac8, (p9.to b3).to t8, by rw [f8]; exact c7, p11, by simpa using p12⟩
        | true =>
          rw [if_pos rfl] at c13
          obtain ⟨yv, h9, c14, c15⟩ := bind_eq_ok c13
          cases c15
          dsimp only
          rw [if_pos rfl]
          refine ⟨w8, g2, ⟨rfl, R8, Nat.le_trans at1.hb t18.len⟩, re3.to t8, yv, _, by rw [f8]; exact c14, fun w9 f9 t9 R9 y9 qy => ?_⟩
          have D9 := t9.rs D D8
          have x9 : w9.H D = some (.lst ys) := (t9.kr D D8).trans x8
          have lenx : ac.length < l.length := by rw [← p12]; simp
          refine ⟨ys, x9, ?_, ?_⟩
          · rw [p8.length, ← sz_line]; exact Nat.lt_of_lt_of_le lenx hz
          · obtain ⟨m1, m2, m3⟩ := more R9 (t18.trans t9) D9 x9 (t9.rvL ac8) qy
            have re9 := ((p9.to b3).to t8).to t9
            obtain ⟨n1', n2', n3'⟩ := to_more (ys := ys ++ [y9]) R9 (t18.trans t9) hD R1 D9
            refine ⟨⟨w9.r, upd w9.H D (.lst (ys ++ [y9])), w9.h, w9.res⟩, ys ++ [y9], ac ++ [yv], rin2, rout, hI, rfl, m1, m2, (t58.to t9).more D5, ?_, fun a z => t9.rs a (res8 a z), upd_same, m3, ?_, by show compLoop _ _ w9.h = _; rw [f9]; exact c7, p11, ?_⟩
            · exact Nat.le_trans p5 (Nat.le_trans b3.len (Nat.le_trans t8.len t9.len))
            · exact ⟨re9.1, fun i v e => let ⟨x, e1, q⟩ := re9.2 i v e; ⟨x, e1, n3' q⟩⟩
            · rw [← p12]; simp
      · have ej : j = n1 := by omega
        subst ej
        refine .inl ⟨wk1.stops H (hGi j H hp), ?_⟩
        obtain ⟨w6, ys, ac, rin, rout, hI, p1, p2, p3, p4, p5, p6, p7, p8, p9, p10, p11, p12⟩ := hp
        rw [hn1, List.drop_length] at p10
        simp only [compLoop, Res.ok.injEq] at p10
        obtain ⟨rfl, p13⟩ := p10
        exact ⟨w6, ys, ac, rout, p1, p2, p3, p6 D D5, p7, p8, by rw [p13]; exact p11, by simpa using p12⟩
  · have ei : i = n := by omega
    subst ei
    refine .inl ⟨wk.stops H (hGv i H hp), ?_⟩
    obtain ⟨w2, xs, acc, rest, q1, q2, q3, q4, q5, q6, q7, q8⟩ := hp
    subst q1
    rw [hn, List.drop_length] at q7
    simp only [compLoop2, Res.ok.injEq] at q7
    obtain ⟨rfl, q9⟩ := q7
    rw [List.append_nil] at q8
    subst q8
    obtain ⟨w', f', hH, t', R', q'⟩ := to_leave q2 q3 at1.hb hD R1 q4 q5 q6 (by rw [q9]; exact e4)
    rw [← hH]
    exact k w' f' (t1'.trans t') R' _ q'
theorem s_lc2 {tg iter elt tg1 iter1 : Expr} {ifs ifs1 : List Expr} {scope : Scope} {bx : Bool} {mt : E} {t t1 : Tg} {it it1 : MP.It} {mifs mifs1 : Es} {ows : List (Str × Nat)} {own1 : List Nat} (hc : X.calm = true) (hN : X.N.Nodup) (hi : PI X tg iter (tMI X.K C it)) (ok : BlkOk X.N X.env.scope scope ows)
    (hg : ∀ (s : Shared) (H : Hp) (D : Addr) (cl : List (Str × Addr)) (fp : List Addr), PG (X.blk s H scope (compEnvC scope cl D X.env) fp) tg (gM X.K t))
    (ht : ∀ (s : Shared) (H : Hp) (D : Addr) (cl : List (Str × Addr)) (fp : List Addr), PTs (X.blk s H scope (compEnvC scope cl D X.env) fp) ifs (tMF X.K C mifs))
    (hi1 : ∀ (s : Shared) (H : Hp) (D : Addr) (cl : List (Str × Addr)) (fp : List Addr), PI (X.blk s H scope (compEnvC scope cl D X.env) fp) tg1 iter1 (tMI X.K C it1))
    (hg1 : ∀ (s : Shared) (H : Hp) (D : Addr) (cl : List (Str × Addr)) (fp : List Addr), PG (X.blk s H scope (compEnvC scope cl D X.env) fp) tg1 (gM X.K t1))
    (ht1 : ∀ (s : Shared) (H : Hp) (D : Addr) (cl : List (Str × Addr)) (fp : List Addr), PTs (X.blk s H scope (compEnvC scope cl D X.env) fp) ifs1 (tMF X.K C mifs1))
    (he : ∀ (s : Shared) (H : Hp) (D : Addr) (cl : List (Str × Addr)) (fp : List Addr), PE (X.blk s H scope (compEnvC scope cl D X.env) fp) elt (tME X.K C mt))
    (hs : ∀ x, foldedSetIterable iter X.env x = pure x) (hs1 : ∀ env x, foldedSetIterable iter1 env x = pure x) (h1 : ∀ i ∈ own1, i ∈ ows.map (·.2)) (htI : ∀ i ∈ tIdx t, i ∈ ows.map (·.2)) (htI1 : ∀ i ∈ tIdx t1, i ∈ own1) :
    SE X C (.ListComp elt [⟨tg, iter, ifs, 0⟩, ⟨tg1, iter1, ifs1, 0⟩] scope pos) (.comp2 bx mt t it mifs t1 it1 mifs1 (ows.map (·.2)) own1) :=
  PE_mono (pe_lc2 hc hN hi ok h1 hg ht hi1 hg1 ht1 he hs hs1) (s_comp2 hc hN hi ok h1 htI htI1)
end
end MP

set_option maxHeartbeats 1000000
/-! MiniH: methods of lists, statements. -/
namespace MP
open PySem PySem.Spec PyProof.Rows L2
section
variable {X : Cx} {C : EC} {pos apos : Pos}
/-- o is no call of super -/
def plainBase : Expr → Bool
  | .Call (.Name _ _) [] [] _ => false
  | _ => true
theorem base_plain {o : Expr} {m : Str} {env : Env} (h : plainBase o = true) : attributeBase o m env (eval o env) = eval o env := by
  unfold attributeBase
  split
  · cases h
  · rfl
theorem dle_new {K : PySem.W.Frag} {L : Addr → Prop} {r r' : List Addr} {H : Hp} {x : V} {v : Val} (h : dle 60 v = true) (q : Rp K L r H x v) : Rp K L r' H x v := dle_rp 60 h q
/-- a cell written through its address -/
theorem wr_ok {K : PySem.W.Frag} {b : Nat} {w : Wd} {n : Nat} {a : Addr} {l m : List Val} {ys : List V} {fl : Bool} {r : Val} {Q : VK} {u : V} {f : MH → Res Val} (R : Rel K w) (hn : w.h[n]? = some (.lst l)) (ha : w.r[n]? = some a) (q : RvL K w ys m) (hz : ys.length ≤ SZ)
    (hok : fl = true → ∀ r' xs0, w.H a = some (.lst xs0) → RpL K (Live w) r' w.H xs0 l → RpL K (Live w) r' w.H ys m)
    (ok : OK K b w ((wr b n (.lst m) fl w.h).bind fun _ h => .ok r h) Q) (hr : Rv K w u r) : Q u (upd w.H a (.lst ys)) := by
  obtain ⟨v, h', e, k⟩ := ok
  unfold wr at e
  split at e
  · rename_i hc
    simp only [bind_ok, Res.ok.injEq] at e
    obtain ⟨rfl, rfl⟩ := e
    obtain ⟨t, r'⟩ := to_write (b := b) (ys := ys) R hn ha q hz (fun b0 h0 h1 xs0 e0 o => by
      rw [Bool.or_eq_true, decide_eq_true_eq] at hc
      rcases hc with hc | hc
      · omega
      · exact hok hc _ xs0 e0 o)
    exact k ⟨w.r, upd w.H a (.lst ys), w.h.set n (.lst m), w.res⟩ rfl t r' u (t.rv hr)
  · cases e
theorem wr_ok1 {K : PySem.W.Frag} {b : Nat} {w : Wd} {n : Nat} {a : Addr} {l m : List Val} {ys : List V} {fl : Bool} {Q : VK} (R : Rel K w) (hn : w.h[n]? = some (.lst l)) (ha : w.r[n]? = some a) (q : RvL K w ys m) (hz : ys.length ≤ SZ)
    (hok : fl = true → ∀ r' xs0, w.H a = some (.lst xs0) → RpL K (Live w) r' w.H xs0 l → RpL K (Live w) r' w.H ys m)
    (ok : OK K b w (wr b n (.lst m) fl w.h) Q) : Q .non (upd w.H a (.lst ys)) := by
  refine wr_ok (b := b) (r := .non) (f := fun h => .stuck) R hn ha q hz hok ?_ .non
  obtain ⟨v, h', e, k⟩ := ok
  refine ⟨v, h', ?_, k⟩
  rw [e]
  unfold wr at e
  split at e
  · cases e; rfl
  · cases e
theorem lits_cell {n : Nat} {h : MH} {l : List Val} (e : lits (.ref n) h = some l) : h[n]? = some (.lst l) := by
  unfold lits at e
  simp only at e
  split at e
  · rename_i l' hl; cases e; exact hl
  · cases e
theorem rpl_inj {K : PySem.W.Frag} {w : Wd} (R : Rel K w) {n : Nat} {a : Addr} {l : List Val} (hn : w.h[n]? = some (.lst l)) (ha : w.r[n]? = some a) : ∃ xs, w.H a = some (.lst xs) ∧ RvL K w xs l ∧ xs.length ≤ SZ := R.cell n _ a hn ha
variable {o e : Expr} {mo me : E}
theorem few1 {env : Env} {cpos : Pos} (hs : notStar e = true) : ((backTo cpos (starEach [e] env)).all (fun x => !x.1) && (backToKw cpos (keywordEach [] env)).all (fun x => x.1.isSome)
      && decide (([e] : List Expr).length + ([] : List Keyword).length + (if ([] : List Keyword).isEmpty then 0 else 1) < 30)) = true := by
  rw [star_cons hs]; rfl
theorem s_app (ho : SE X C o mo) (he : SE X C e me) (hs : notStar e = true) (hb : plainBase o = true) (hl : (apos.endLine == pos.line) = true) : SE X C (.Call (.Attribute o "append" apos) [e] [] pos) (.app mo me) := by
  refine PE_mono (pe_bm PySem.F.plainAttrs_list PySem.F.slot_list_append PySem.F.type_list_append mt_append ho (pa_cons he pa_nil (star_cons hs)) (base_plain hb) (few1 hs) hl (star_cons hs) (star_plain rfl)) fun σ H Q ⟨w, g, at_, re, ok⟩ => ?_
  simp only [ev] at ok
  refine oneT at_ re ok fun w1 x u t1 a1 re1 q1 ok1 => ?_
  obtain ⟨l0, e0, ok1⟩ := ok1.some
  obtain ⟨a0, xs0, rfl, h0, _⟩ := a1.rel.lits q1 e0
  refine ⟨.inl ⟨rfl, xs0, SqL.of h0⟩, ?_⟩
  refine oneT a1 re1 ok1 fun w2 y v t2 a2 re2 q2 ok2 => ?_
  have q1' := t2.rv q1
  cases u with
  | ref n =>
    cases q1' with
    | ref ha =>
      obtain ⟨l, e1, ok3⟩ := ok2.some
      clear ok2
      have hn := lits_cell e1
      obtain ⟨xs, hx, qx, hz⟩ := rpl_inj a2.rel hn ha
      split at ok3
      · rename_i hlen
        refine ⟨a0, xs, y, rfl, rfl, hx, by rw [qx.length, ← sz_line]; exact hlen, ?_⟩
        refine wr_ok1 a2.rel hn ha (qx.append (.cons q2 .nil)) (by rw [List.length_append, qx.length]; exact hlen) (fun hf r' xs0 e0 o => ?_) ok3
        rw [hx] at e0; cases e0
        exact o.append (.cons (dle_new hf q2) .nil)
      · obtain ⟨_, _, e, _⟩ := ok3; cases e
  | _ => obtain ⟨_, _, e, _⟩ := ok2; cases e
/-- list.extend by a tuple, whatever else its object holds -/
theorem meets_extT (l : Addr) (items : Array Value) (n : Nat) (c : Addr) (items2 : Array Value) (n2 : Nat) (dd : Option Addr) (sl : Array (Option Value)) (h0 : ¬(!items.isEmpty && Builtin.List.listTooLong (items.size + items2.size)) = true) (h1 : items.size ≤ sizeLine) (h2 : items.size + items2.size ≤ sizeLine + 1) :
    Meets (Builtin.«list.extend» ⟨[.ref l, .ref c], []⟩) (fun _ R s => s.heap.get? l = some { cls := .type "list", data := .seq items n } ∧ s.heap.get? c = some { cls := .type "tuple", dict := dd, data := .seq items2 n2, slots := sl } ∧ R (.ok (.ret Value.none)) { s with heap := s.heap.update l (Obj.mapSeq fun x => x ++ items2), toks := s.toks }) :=
  .of_wp fun prog w A R s h => by
    obtain ⟨hp, g, d, tk, os⟩ := s
    obtain ⟨hl, hb, h⟩ := h
    have f1 := AutoSeq1.idx_int; have f2 := AutoSeq1.sub_tuple_tuple; have f3 := AutoSeq1.sub_list_list
    have f4 := AutoSeq1.sub_tuple_list; have f5 := AutoSeq1.sub_list_tuple
    have sz : (items ++ items2).size ≤ sizeLine + 1 := by rw [Array.size_append]; omega
    wp_walk using (wpAny_updateSeq hl rfl (hz := h1) (_hz' := sz)), AutoSeq1.wpAny_loadPart' hl, AutoSeq1.wpAny_loadPart' hb
    exact ⟨_, rfl, h⟩
/-- extend by a tuple -/
def rExtT (K : PySem.W.Frag) : V → List V → Hp → VK → Prop := fun x vs H Q => ∃ l c xs zs, x = .ref l ∧ vs = [.ref c] ∧ H l = some (.lst xs) ∧ SqT K H c zs ∧ xs.length + zs.length ≤ sizeLine ∧ Q .non (upd H l (.lst (xs ++ zs)))
theorem mt_extT : MtM X "list.extend" (rExtT X.K) := by
  intro pins s σ H x vs v us Q I rx rv h
  obtain ⟨l, c, xs, zs, rfl, rfl, hH, hT, hz, q⟩ := h
  cases rx
  obtain ⟨u, rfl, ru⟩ := rv.one
  cases ru
  obtain ⟨z, its, n, r, hl, e⟩ := I.lstM hH
  obtain ⟨its2, r2, ⟨⟨oc, od, oda, osl⟩, e2, hc2, n2, hd2⟩, hz2⟩ := I.tuple hT
  simp only at hc2 hd2
  subst hc2 hd2
  have l2 := r2.length
  have hs : its.toArray.size + its2.toArray.size ≤ sizeLine := by simp only [List.size_toArray]; omega
  have long : ¬ (!its.toArray.isEmpty && Builtin.List.listTooLong (its.toArray.size + its2.toArray.size)) = true := by
    rw [notLongL hs]; simp
  refine call_meets F.slot_list_extend ⟨_, e, rfl⟩ F.entry_list_extend (F.args_list_extend_2 _ _) (meets_extT l its.toArray n c its2.toArray n2 od osl long (by simp only [List.size_toArray]; omega) (by omega)) ?_
  refine ⟨e, e2, ⟨.non, _, I.lset (its' := its ++ its2) hH e (by simp) (r.append r2) (by rw [List.length_append]; omega), rfl, q⟩⟩
theorem mt_extX : MtM X "list.extend" (fun x vs H Q => rExtend x vs H Q ∨ rExtT X.K x vs H Q) := fun pins s σ H x vs v us Q I rx rv h => by
  rcases h with h | h
  · exact mt_extend pins s σ H x vs v us Q I rx rv h
  · exact mt_extT pins s σ H x vs v us Q I rx rv h
theorem s_ext (ho : SE X C o mo) (he : SE X C e me) (hs : notStar e = true) (hb : plainBase o = true) (hl : (apos.endLine == pos.line) = true) : SE X C (.Call (.Attribute o "extend" apos) [e] [] pos) (.ext mo me) := by
  refine PE_mono (pe_bm PySem.F.plainAttrs_list PySem.F.slot_list_extend PySem.F.type_list_extend mt_extX ho (pa_cons he pa_nil (star_cons hs)) (base_plain hb) (few1 hs) hl (star_cons hs) (star_plain rfl)) fun σ H Q ⟨w, g, at_, re, ok⟩ => ?_
  simp only [ev] at ok
  refine oneT at_ re ok fun w1 x u t1 a1 re1 q1 ok1 => ?_
  obtain ⟨l0, e0, ok1⟩ := ok1.some
  obtain ⟨a0, xs0, rfl, h0, _⟩ := a1.rel.lits q1 e0
  refine ⟨.inl ⟨rfl, xs0, SqL.of h0⟩, ?_⟩
  refine oneT a1 re1 ok1 fun w2 y v t2 a2 re2 q2 ok2 => ?_
  have q1' := t2.rv q1
  cases u with
  | ref n =>
    cases q1' with
    | ref ha =>
      obtain ⟨l, e1, ok3⟩ := ok2.some
      clear ok2
      obtain ⟨m, e2, ok4⟩ := ok3.some
      clear ok3
      have hn := lits_cell e1
      obtain ⟨xs, hx, qx, hz⟩ := rpl_inj a2.rel hn ha
      have src : ∃ c ys, y = .ref c ∧ RvL X.K w2 ys m ∧ (w2.H c = some (.lst ys) ∨ SqT X.K w2.H c ys) := by
        cases v with
        | tup vs =>
          cases e2
          cases q2 with
          | tup b1 b2 => exact ⟨_, _, rfl, b2, .inr b1⟩
        | _ =>
          obtain ⟨c, ys, rfl, hy, qy⟩ := a2.rel.lits q2 e2
          exact ⟨c, ys, rfl, qy, .inl hy⟩
      obtain ⟨c, ys, rfl, qy, hy⟩ := src
      split at ok4
      · rename_i hlen
        have fin := wr_ok1 a2.rel hn ha (qx.append qy) (by rw [List.length_append, qx.length, qy.length]; exact hlen) (fun hf r' xs0 e0 o => by
          rw [hx] at e0; cases e0
          exact o.append (dle_rpL hf qy)) ok4
        have hl3 : xs.length + ys.length ≤ sizeLine := by rw [qx.length, qy.length, ← sz_line]; exact hlen
        rcases hy with hy | hy
        · exact .inl ⟨a0, c, xs, ys, rfl, rfl, hx, hy, hl3, fin⟩
        · exact .inr ⟨a0, c, xs, ys, rfl, rfl, hx, hy, hl3, fin⟩
      · obtain ⟨_, _, e, _⟩ := ok4; cases e
  | _ => obtain ⟨_, _, e, _⟩ := ok2; cases e
theorem s_popAt (ho : SE X C o mo) (he : SE X C e me) (hs : notStar e = true) (hb : plainBase o = true) (hl : (apos.endLine == pos.line) = true) : SE X C (.Call (.Attribute o "pop" apos) [e] [] pos) (.popAt mo me) := by
  refine PE_mono (pe_bm PySem.F.plainAttrs_list PySem.F.slot_list_pop PySem.F.type_list_pop mt_popAt ho (pa_cons he pa_nil (star_cons hs)) (base_plain hb) (few1 hs) hl (star_cons hs) (star_plain rfl)) fun σ H Q ⟨w, g, at_, re, ok⟩ => ?_
  simp only [ev] at ok
  refine oneT at_ re ok fun w1 x u t1 a1 re1 q1 ok1 => ?_
  obtain ⟨l0, e0, ok1⟩ := ok1.some
  obtain ⟨a0, xs0, rfl, h0, _⟩ := a1.rel.lits q1 e0
  refine ⟨.inl ⟨rfl, xs0, SqL.of h0⟩, ?_⟩
  refine oneT a1 re1 ok1 fun w2 y v t2 a2 re2 q2 ok2 => ?_
  have q1' := t2.rv q1
  obtain ⟨j, e3, ok3⟩ := ok2.some
  clear ok2
  cases u with
  | ref n =>
    cases q1' with
    | ref ha =>
      obtain ⟨l, e1, ok4⟩ := ok3.some
      clear ok3
      obtain ⟨k, e2, ok5⟩ := ok4.some
      clear ok4
      have hn := lits_cell e1
      obtain ⟨xs, hx, qx, hz⟩ := rpl_inj a2.rel hn ha
      split at ok5
      · rename_i hlen
        obtain ⟨z, e4, ok6⟩ := ok5.some
        cases v with
        | int i =>
          cases e3; cases q2
          rw [ixm_eq, ← qx.length] at e2
          obtain ⟨h1, h2, h3, h4⟩ := ixN_seq e2
          obtain ⟨y, f1, f2⟩ := qx.get e4
          have hlt : (xs.length : Int) ≤ 16777216 := by have : xs.length ≤ 16777216 := hz; omega
          refine ⟨a0, xs, j, k, y, rfl, rfl, hx, by omega, by omega, h1, f1, ?_⟩
          refine wr_ok (f := fun h => .stuck) a2.rel hn ha (qx.eraseIdx k) (by rw [List.length_eraseIdx]; split <;> omega) (fun hf r' xs0 e0 o => ?_) ok6 f2
          rw [hx] at e0; cases e0
          exact o.eraseIdx k
        | _ => cases e3
      · obtain ⟨_, _, e, _⟩ := ok5; cases e
  | _ => obtain ⟨_, _, e, _⟩ := ok3; cases e
/-! ### statements -/
def OKS (K : PySem.W.Frag) (b : Nat) (w : Wd) (r : Res Fl) (D : Ends) : Prop :=
  ∃ fl h', r = .ok fl h' ∧ ∀ w', w'.h = h' → To K b w w' → Rel K w' → match fl with
    | .nx g => ∀ σ', RelE K w' σ' g → D.nx σ' w'.H
    | .rt v => ∀ x, Rv K w' x v → D.rt x w'.H
def tMS (K : PySem.W.Frag) (C : EC) (s : S) : TS := fun D σ H => ∃ w g, At K C.base H w ∧ RelE K w σ g ∧ OKS K C.base w (ex C s g w.h) D
def tMSs (K : PySem.W.Frag) (C : EC) (s : Ss) : TS := fun D σ H => ∃ w g, At K C.base H w ∧ RelE K w σ g ∧ OKS K C.base w (exs C s g w.h) D
abbrev SS (X : Cx) (C : EC) (st : Stmt) (m : S) : Prop := PS X st (tMS X.K C m)
abbrev SSs (X : Cx) (C : EC) (st : List Stmt) (m : Ss) : Prop := PSs X st (tMSs X.K C m)
theorem OKS_bind {K : PySem.W.Frag} {b : Nat} {w : Wd} {α : Type} {r : Res α} {f : α → MH → Res Fl} {D : Ends} (h : OKS K b w (r.bind f) D) :
    ∃ a h', r = .ok a h' ∧ ∀ w', w'.h = h' → To K b w w' → Rel K w' → OKS K b w' (f a w'.h) D := by
  obtain ⟨v, h', e, k⟩ := h
  obtain ⟨a, h1, e1, e2⟩ := bind_eq_ok e
  refine ⟨a, h1, e1, fun w' e3 t R => ⟨v, h', by rw [e3]; exact e2, fun w2 e4 t2 R2 => k w2 e4 (t.trans t2) R2⟩⟩
theorem OKS.some {K : PySem.W.Frag} {b : Nat} {w : Wd} {α : Type} {o : Option α} {f : α → MH → Res Fl} {D : Ends} (h : OKS K b w ((ofO o w.h).bind f) D) : ∃ a, o = some a ∧ OKS K b w (f a w.h) D := by
  cases o with
  | none => obtain ⟨v', h', e, k⟩ := h; cases e
  | some a => exact ⟨a, rfl, h⟩
theorem OKS.nx {K : PySem.W.Frag} {b : Nat} {w : Wd} {g : ME} {D : Ends} {σ : L2.St} (h : OKS K b w (.ok (.nx g) w.h) D) (R : Rel K w) (re : RelE K w σ g) : D.nx σ w.H := by
  obtain ⟨fl, h', e, k⟩ := h
  cases e
  exact k w rfl (To.refl R) R σ re
theorem OKS.rt {K : PySem.W.Frag} {b : Nat} {w : Wd} {v : Val} {D : Ends} {x : V} (h : OKS K b w (.ok (.rt v) w.h) D) (R : Rel K w) (q : Rv K w x v) : D.rt x w.H := by
  obtain ⟨fl, h', e, k⟩ := h
  cases e
  exact k w rfl (To.refl R) R x q
theorem oneS {K : PySem.W.Frag} {w : Wd} {σ : L2.St} {g : ME} {H : Hp} {ma : E} {f : Val → MH → Res Fl} {D : Ends} (at_ : At K C.base H w) (re : RelE K w σ g)
    (ok : OKS K C.base w ((ev C ma g w.h).bind fun x h => f x h) D) {r : V → Hp → Prop}
    (k : ∀ w' x u, To K C.base w w' → At K C.base w'.H w' → RelE K w' σ g → Rv K w' x u → OKS K C.base w' (f u w'.h) D → r x w'.H) : tME K C ma σ H r := by
  obtain ⟨u, h1, e1, k1⟩ := OKS_bind ok
  exact ⟨w, g, at_, re, u, h1, e1, fun w1 f1 t1 R1 x q1 => k w1 x u t1 (at_.to t1 R1) (re.to t1) q1 (k1 w1 f1 t1 R1)⟩
theorem b_nil : SSs X C [] .nil := by
  refine PSs_mono pss_nil fun D σ H ⟨w, g, at_, re, ok⟩ => ?_
  simp only [exs] at ok
  have := ok.nx at_.rel re
  rw [at_.hH] at this
  exact this
/-- the parts of a block -/
theorem OKS_split {K : PySem.W.Frag} {b : Nat} {w : Wd} {r : Res Fl} {f : ME → MH → Res Fl} {D : Ends} (h : OKS K b w (r.bind fun fl h => match fl with | .nx g => f g h | .rt v => .ok (.rt v) h) D) :
    OKS K b w r { D with nx := fun σ H => ∃ w' g, w'.H = H ∧ To K b w w' ∧ Rel K w' ∧ RelE K w' σ g ∧ OKS K b w' (f g w'.h) D } := by
  obtain ⟨fl, h1, e1, k1⟩ := OKS_bind h
  refine ⟨fl, h1, e1, fun w1 f1 t1 R1 => ?_⟩
  have := k1 w1 f1 t1 R1
  cases fl with
  | nx g => exact fun σ re => ⟨w1, g, rfl, t1, R1, re, this⟩
  | rt v => exact fun x q => this.rt R1 q
theorem b_cons {st : Stmt} {sts : List Stmt} {m : S} {ms : Ss} (h1 : SS X C st m) (h2 : SSs X C sts ms) : SSs X C (st :: sts) (.cons m ms) := by
  refine PSs_mono (pss_cons h1 h2) fun D σ H ⟨w, g, at_, re, ok⟩ => ?_
  simp only [exs] at ok
  obtain ⟨fl, h', e, k⟩ := OKS_split ok
  refine ⟨w, g, at_, re, fl, h', e, fun w' f t R => ?_⟩
  have := k w' f t R
  cases fl with
  | nx g' =>
    intro σ' re'
    obtain ⟨w2, g2, e2, t2, R2, re2, ok2⟩ := this σ' re'
    exact ⟨w2, g2, ⟨e2, R2, Nat.le_trans at_.hb t2.len⟩, re2, ok2⟩
  | rt v => exact this
/-- a list is told to stay -/
theorem b_frz {sts : List Stmt} {i : Nat} {ms : Ss} (h2 : SSs X C sts ms) : SSs X C sts (.cons (.frz i) ms) := by
  refine PSs_mono h2 fun D σ H ⟨w, g, at_, re, ok⟩ => ?_
  obtain ⟨fl, h', e, k⟩ := ok
  simp only [exs] at e
  obtain ⟨fl1, h1, e1, e2⟩ := bind_eq_ok e
  simp only [ex] at e1
  split at e1
  · simp only [Res.ok.injEq] at e1
    obtain ⟨rfl, rfl⟩ := e1
    exact ⟨w, g, at_, re, fl, h', e2, k⟩
  · rename_i n hg
    split at e1
    · rename_i l hl
      split at e1
      · rename_i hb
        simp only [Res.ok.injEq] at e1
        obtain ⟨rfl, rfl⟩ := e1
        obtain ⟨t, R'⟩ := to_dead (b := C.base) (n := n) at_.rel
        obtain ⟨x, hx, q⟩ := re.2 i _ hg
        cases q with
        | ref ha =>
          rename_i a
          obtain ⟨xs, hxs, qx, hz⟩ := rpl_inj at_.rel hl ha
          have hnl : ¬ Live ⟨w.r, w.H, w.h.set n .dead, w.res⟩ a := by
            rintro (⟨j, c, z1, z2, z3⟩ | z)
            · by_cases hj : n = j
              · subst hj
                rw [List.getElem?_set_self (List.getElem?_eq_some_iff.mp hl).1] at z2
                cases z2; cases z3
              · rw [List.getElem?_set_ne hj] at z2
                exact hj (at_.rel.inj n j a _ c ha z1 hl z2 rfl z3)
            · exact at_.rel.rsep a z ⟨n, _, ha, hl, rfl⟩
          have q' : Rv X.K ⟨w.r, w.H, w.h.set n .dead, w.res⟩ (.ref a) (.lst l) := .lst hxs hnl (t.rvL qx)
          have re' : RelE X.K ⟨w.r, w.H, w.h.set n .dead, w.res⟩ σ (g.set i (some (.lst l))) := by
            refine ⟨by simp [re.1], fun j v e => ?_⟩
            by_cases hj : i = j
            · subst hj
              have hlt := (List.getElem?_eq_some_iff.mp hg).1
              rw [List.getElem?_set_self hlt] at e
              cases e
              exact ⟨_, hx, q'⟩
            · rw [List.getElem?_set_ne hj] at e
              obtain ⟨y, y1, y2⟩ := re.2 j v e
              exact ⟨y, y1, t.rv y2⟩
          exact ⟨⟨w.r, w.H, w.h.set n .dead, w.res⟩, _, ⟨at_.hH, R', Nat.le_trans at_.hb t.len⟩, re', fl, h', e2, fun w2 f2 t2 R2 => k w2 f2 (t.trans t2) R2⟩
      · cases e1
    · cases e1
  · cases e1
theorem st_ret (he : SE X C e me) : SS X C (.Return (some e) pos) (.ret me) := by
  refine PS_mono (ps_ret he) fun D σ H ⟨w, g, at_, re, ok⟩ => ?_
  simp only [ex] at ok
  exact oneS at_ re ok fun w' x u t a' _ q ok' => ok'.rt a'.rel q
theorem st_retN : SS X C (.Return none pos) (.ret (.cst .non)) := by
  refine PS_mono ps_retN fun D σ H ⟨w, g, at_, re, ok⟩ => ?_
  simp only [ex, ev, bind_ok] at ok
  have := ok.rt (x := .non) at_.rel .non
  rw [at_.hH] at this
  exact this
theorem st_pass : SS X C (.Pass pos) .pass := by
  refine PS_mono ps_pass fun D σ H ⟨w, g, at_, re, ok⟩ => ?_
  simp only [ex] at ok
  have := ok.nx at_.rel re
  rw [at_.hH] at this
  exact this
def isComp : Expr → Bool
  | .ListComp _ _ _ _ => true
  | .SetComp _ _ _ _ => true
  | .DictComp _ _ _ _ _ => true
  | _ => false
theorem swaps_plain {t : Option Expr} {l : Nat} {env : Env} (h : isComp e = false) : swapsWith e t l env = pure false := by
  unfold swapsWith
  cases e <;> first | rfl | cases h
theorem st_ex (he : SE X C e me) (hc : isComp e = false) : SS X C (.Expr e pos) (.ex me) := by
  refine PS_mono (ps_expr he (swaps_plain hc)) fun D σ H ⟨w, g, at_, re, ok⟩ => ?_
  simp only [ex] at ok
  exact oneS at_ re ok fun w' x u t a' re' q ok' => ok'.nx a'.rel re'
theorem OKS_evT {K : PySem.W.Frag} {w : Wd} {g : ME} {mc : E} {f : Bool → MH → Res Fl} {D : Ends} (ok : OKS K C.base w ((ev C mc g w.h).bind fun x h => (ofO (bopV x) h).bind f) D) :
    OKS K C.base w ((evT C mc g w.h).bind f) D := by
  obtain ⟨fl, h', e, k⟩ := ok
  obtain ⟨x, h1, e1, e2⟩ := bind_eq_ok e
  refine ⟨fl, h', ?_, k⟩
  unfold evT
  rw [e1]
  exact e2
theorem st_iff {c : Expr} {mc : E} {a b : List Stmt} {sa sb : Ss} (hc : ST X C c mc) (ha : SSs X C a sa) (hb : SSs X C b sb) : SS X C (.If c a b pos) (.iff mc sa sb) := by
  refine PS_mono (ps_if hc ha hb) fun D σ H ⟨w, g, at_, re, ok⟩ => ?_
  simp only [ex] at ok
  obtain ⟨r, h1, e1, k1⟩ := OKS_bind (OKS_evT ok)
  refine ⟨w, g, at_, re, r, h1, e1, fun w' f t R => ?_⟩
  have := k1 w' f t R
  cases r with
  | true => dsimp only; rw [if_pos rfl] at this ⊢; exact ⟨w', g, at_.to t R, re.to t, this⟩
  | false => dsimp only; rw [if_neg (by decide)] at this ⊢; exact ⟨w', g, at_.to t R, re.to t, this⟩
theorem st_whl {c : Expr} {mc : E} {b : List Stmt} {sb : Ss} (hp : PassesOwn (model X.prog X.w) X.A X.env X.xe) (hc : ST X C c mc) (hb : SSs X C b sb) : SS X C (.While c b [] pos) (.whl mc sb) := by
  refine PS_mono (ps_while hp hc hb) fun D σ H ⟨w, g, at_, re, ok⟩ => ?_
  simp only [ex] at ok
  refine ⟨fun n σ H => ∃ w g, At X.K C.base H w ∧ RelE X.K w σ g ∧ OKS X.K C.base w (whlLoop (fun g h => (ev C mc g h).bind fun x h => ofO (bopV x) h) (fun g h => exs C sb g h) n g w.h) D, ⟨C.fuel, w, g, at_, re, ok⟩, ?_⟩
  rintro n σ H ⟨w, g, at_, re, ok⟩
  cases n with
  | zero => obtain ⟨_, _, e, _⟩ := ok; cases e
  | succ n =>
    simp only [whlLoop] at ok
    obtain ⟨r, h1, e1, k1⟩ := OKS_bind ok
    refine ⟨w, g, at_, re, r, h1, e1, fun w' f t R => ?_⟩
    have z := k1 w' f t R
    cases r with
    | true =>
      dsimp only
      rw [if_pos rfl] at z ⊢
      refine ⟨fun σ' H' => ∃ w2 g2, w2.H = H' ∧ To X.K C.base w' w2 ∧ Rel X.K w2 ∧ RelE X.K w2 σ' g2 ∧ OKS X.K C.base w2 (whlLoop (fun g h => (ev C mc g h).bind fun x h => ofO (bopV x) h) (fun g h => exs C sb g h) n g2 w2.h) D, fun σ' H' ⟨w2, g2, e2, t2, R2, re2, ok2⟩ => ⟨n, Nat.lt_succ_self n, w2, g2, ⟨e2, R2, Nat.le_trans (Nat.le_trans at_.hb t.len) t2.len⟩, re2, ok2⟩, ?_⟩
      obtain ⟨fl, h', e, k⟩ := OKS_split z
      exact ⟨w', g, at_.to t R, re.to t, fl, h', e, k⟩
    | false =>
      dsimp only
      rw [if_neg (by decide)] at z ⊢
      exact z.nx R (re.to t)
theorem st_for {tg iter : Expr} {b : List Stmt} {sb : Ss} {t : Tg} {it : MP.It} (hp : PassesOwn (model X.prog X.w) X.A X.env X.xe) (hc : X.calm = true) (hi : PI X tg iter (tMI X.K C it)) (hg : PG X tg (gM X.K t)) (hb : SSs X C b sb)
    (hs : ∀ x, foldedSetIterable iter X.env x = pure x) : SS X C (.For tg iter b [] pos) (.forr t it sb) := by
  refine PS_mono (ps_for hp hc hi hg hb hs) fun D σ H ⟨w, g, at_, re, ok⟩ => ?_
  simp only [ex] at ok
  obtain ⟨src, h1, e1, k1⟩ := OKS_bind ok
  refine ⟨w, g, at_, re, src, h1, e1, fun w1 f1 t1 R1 J hJ => ?_⟩
  obtain ⟨n, G, Y, wk, hn, hG, hY⟩ := hJ
  have at1 := at_.to t1 R1
  let F : Val → ME → MH → Res Fl := fun x g h => (ofO (tgs t x g) h).bind fun g h => exs C sb g h
  let Pv : Nat → L2.St → Hp → Prop := fun i σ H => ∃ w2 g2, w2.H = H ∧ To X.K C.base w1 w2 ∧ Rel X.K w2 ∧ RelE X.K w2 σ g2 ∧ OKS X.K C.base w2 (forLoop F (src.drop i) g2 w2.h) D
  refine for_it wk Pv ⟨w1, g, rfl, To.refl R1, R1, re.to t1, by rw [List.drop_zero]; exact k1 w1 f1 t1 R1⟩ (fun i σ H _ ⟨w2, g2, q1, q2, q3, _⟩ => by rw [← q1]; exact hG w2 q2.tw q3) (fun i x σ H H' hi2 hpv y => ?_) (fun σ H hpv => ?_)
  · obtain ⟨w2, g2, q1, q2, q3, q4, q5⟩ := hpv
    subst q1
    have hi3 : i < src.length := by rw [← hn]; exact hi2
    rw [drop_cons hi3] at q5
    simp only [forLoop] at q5
    obtain ⟨w3, a1, a2, a3, a4, a5⟩ := hY i _ w2 H' x q2.tw q3 (List.getElem?_eq_getElem hi3) y
    subst a1
    have t13 : To X.K C.base w1 w3 := q2.trans a3
    -- the turn from w3
    have q6 : OKS X.K C.base w3 ((F src[i] g2 w3.h).bind fun r h => match r with | .nx g => forLoop F (src.drop (i + 1)) g h | .rt v => .ok (.rt v) h) D := by
      obtain ⟨fl, h', e, k⟩ := q5
      exact ⟨fl, h', by rw [a2]; exact e, fun w' f t R => k w' f (a3.trans t) R⟩
    obtain ⟨fl, h', e, k⟩ := OKS_split q6
    obtain ⟨g3, h3, e3, e4⟩ := bind_eq_ok e
    obtain ⟨e5, rfl⟩ := ofO_eq_ok e3
    refine ⟨w3, g2, _, g3, rfl, a4, q4.to a3, a5, e5, fun σ2 re2 _ => ⟨w3, g3, ⟨rfl, a4, Nat.le_trans at1.hb t13.len⟩, re2, fl, h', e4, fun w4 f4 t4 R4 => ?_⟩⟩
    have z := k w4 f4 t4 R4
    cases fl with
    | nx g4 =>
      intro σ' re'
      obtain ⟨w5, g5, e6, t6, R6, re6, ok6⟩ := z σ' re'
      exact ⟨w5, g5, e6, t13.trans t6, R6, re6, ok6⟩
    | rt v => exact z
  · obtain ⟨w2, g2, q1, q2, q3, q4, q5⟩ := hpv
    subst q1
    rw [hn, List.drop_length] at q5
    simp only [forLoop] at q5
    exact q5.nx q3 q4
end
end MP

set_option maxHeartbeats 1000000
/-! MiniI: assignments, calls, slices, isinstance. -/
namespace MP
open PySem PySem.Spec PyProof.Rows L2
/-! ### defs whose callers have no display under way -/
structure FnG (P : Program) (w : World) (K : PySem.W.Frag) (mg : Str → Option Value) (base : Heap) (CX : CXT) (k : Nat) (f : Addr) (fd : FuncData) (ps : List Str) (sp : Sp) : Prop where
  cnt : ∀ vs H Q E, sp vs H Q E → vs.length = ps.length
  go : ∀ (A : Around) (out : List Env) (s : Shared) (H : Hp) (args : Args) (us : List Value) (vs : List V) (Q : VK) (E : XK),
    Room k A → A.guards = some [] → Env0 P w K mg base A out s H → BindsTo s fd args (ps.zip us) → Vals vs us → sp vs H Q E →
    codeAny (model P w) A (.call (.ref f) args) (CR CX out P w H s Q E) s
theorem FnG.of {P : Program} {w : World} {K : PySem.W.Frag} {mg : Str → Option Value} {base : Heap} {x qual : Str} {params : Arguments} {body : List Stmt} {scope : Scope} {dvs : List V} {kws : List (Str × V)} {f : Addr} {fd : FuncData} {CX : CXT} {N ps : List Str} {k : Nat} {sp : Sp}
    (F : FunD K x qual params body scope dvs kws f fd) (S : FnScope N ps scope) (cnt : ∀ vs H Q E, sp vs H Q E → vs.length = ps.length)
    (bd : ∀ (cd : Value) (A : Around) (out : List Env) (s : Shared) (H : Hp) (vs : List V) (Q : VK) (E : XK), A.guards = some [] → Room k (A.deeper (envOfC qual scope s.heap.objs.size f cd)) → sp vs H Q E →
      ∃ t, PSs (cxOf CX P w K mg base N qual scope f cd A out s H E) body t ∧ t ⟨fun _ G => Q .non G, Q, fun _ _ => False, fun _ _ => False⟩ (L2.start N vs) H) : FnG P w K mg base CX (k + 1) f fd ps sp := by
  obtain ⟨oc, od, dV, kV, doc, pm, an, cd, ct, osl, rfl, found, code, _⟩ := F.ex
  constructor
  · exact cnt
  intro A out s H args us vs Q E room noG e0 bt rel want
  have here : ∀ b o, base.get? b = some o → s.heap.get? b = some o := fun b o z => (e0.bs b o z).1
  have kin : K.In s.heap := e0.mod.kin.keeps here
  refine codeAny_call_function room.depth (kin _ _ found) rfl S.co S.gen rfl (PySem.W.codeRec_of kin code) (bt _ _ _ _ ?_)
  refine wpAny_newFunctionEnv_cells S.kind ?par fun env he s1 x => ?_
  case par =>
    rintro ⟨n, v⟩ hy
    rcases S.par n (List.of_mem_zip hy).1 with q | q
    · left; exact q
    · right; exact ⟨q, PySem.W.cellsFrom_some _ _ _ (Or.inl q)⟩
  subst he
  refine ⟨(e0.mod.nolimit.keeps here).keeps x.toInCall.keep, codeAny_func ?_⟩
  obtain ⟨t, ht, hq⟩ := bd cd A out s H vs Q E noG (room.deeper _) want
  refine wpAny_mono (ht.run [] s1 _ H _ (inv_start S room.hd e0 (cnt _ _ _ _ want) rel x) hq) ?_ (fun _ _ z => z)
  intro fl s' hs
  cases fl with
  | next => obtain ⟨_, G, J, q⟩ := hs; exact ⟨.non, G, J.os, J.bare, J.base, J.hok, rfl, q⟩
  | ret u => obtain ⟨v, _, G, J, r, q⟩ := hs; exact ⟨v, G, J.os, J.bare, J.base, J.hok, r, q⟩
  | brk => obtain ⟨_, _, _, q⟩ := hs; cases q
  | cont => obtain ⟨_, _, _, q⟩ := hs; cases q
section
variable {X : Cx} {CX : CXT} {k : Nat} {f : Addr} {fd : FuncData} {ps : List Str} {sp : Sp} {E : XK}
theorem FnG.call {pins : List (Addr × Obj)} {σ : L2.St} {H : Hp} {s : Shared} {Q : VK} {us : List Value} {vs : List V} (F : FnG X.prog X.w X.K X.mg X.base CX k f fd ps sp) (hr : Room k X.A) (hg : X.A.guards = some []) (hb : Binds X.K fd ps []) (hx : Passes CX X E)
    (I : Inv X pins σ H s) (r : Vals vs us) (h : sp vs H Q E) : wpAny (model X.prog X.w) X.A (PySem.call (.ref f) us) (EP X pins σ Q) X.xe s := by
  have n : us.length = ps.length := r.length ▸ F.cnt _ _ _ _ h
  have b := hb s us I.kIn (by simpa using n)
  rw [List.append_nil] at b
  refine wpAny_call (codeAny_mono (F.go X.A X.stack s H ⟨us, []⟩ us vs Q E hr hg I.env0 b r h) ?_)
  rintro (e | fl) s' z
  · exact hx pins σ H s e s' I z
  · cases fl with
    | ret u => exact I.after z
    | next => cases z
    | brk => cases z
    | cont => cases z
theorem pe_callG {x : Str} {p pos : Pos} {e : Expr} {es : List Expr} {t : TA} (F : FnG X.prog X.w X.K X.mg X.base CX k f fd ps sp) (hr : Room k X.A) (hg : X.A.guards = some []) (gl : Gl X x) (hm : X.mg x = some (.ref f)) (hk : PySem.W.keepIn X.K (.ref f) = true) (hb : Binds X.K fd ps []) (hx : Passes CX X E)
    (ha : PA X (e :: es) t) (hdb : (x == ("__debug__" : Str)) = false) (hs : notStar e = true) (hss : es.all notStar = true) :
    PE X (.Call (.Name x p) (e :: es) [] pos) (fun σ H Q => t σ H fun vs G => sp vs G Q E) := by
  constructor
  intro pins s σ H Q I h
  refine wpAny_Call_Name_kw (ld_glob I gl hm (PySem.W.callWith_K (h₀ := X.base) I.ok.mod.kin hk (thn (ha.run pos pins s σ H _ I h) ?_) (star_cons hs) (star_plain hss)) hdb)
  rintro us s1 ⟨vs, G, J, r, q⟩
  exact ⟨J.kIn, F.call hr hg hb hx J r q⟩
theorem pe_callG0 {x : Str} {p pos : Pos} (F : FnG X.prog X.w X.K X.mg X.base CX k f fd ps sp) (hr : Room k X.A) (hg : X.A.guards = some []) (gl : Gl X x) (hm : X.mg x = some (.ref f)) (hk : PySem.W.keepIn X.K (.ref f) = true) (hb : Binds X.K fd ps []) (hx : Passes CX X E)
    (hdb : (x == ("__debug__" : Str)) = false) : PE X (.Call (.Name x p) [] [] pos) (fun σ H Q => sp [] H Q E) := by
  constructor
  intro pins s σ H Q I h
  exact wpAny_Call_Name_kw (ld_glob I gl hm (PySem.W.callWith_K0 I.kIn hk (F.call (us := []) hr hg hb hx I .nil h)) hdb)
end
section
variable {X : Cx} {C : EC} {pos apos : Pos} {o e i a b : Expr} {mo me mi ma mb : E}
/-! ### assignments -/
theorem swapsS_plain {t : Expr} {l : Nat} {env : Env} (h : isComp e = false) : swapsWithSole [t] e l env = pure false := swaps_plain h
theorem sw_notTup {t : Expr} {env : Env} (h : (match t, e with | .Tuple _ _ _, .Tuple _ _ _ => true | .List _ _, .Tuple _ _ _ => true | _, _ => false) = false) : swappedStores [t] e env = pure none := by
  unfold swappedStores
  cases t <;> cases e <;> first | rfl | cases h
theorem ass1 {t : Expr} {env : Env} (h : notStar t = true) : (assignEach [t] env).map (·.2) = [assign t env] := by
  rw [ass_cons h]; rfl
theorem st_asg {tg : Expr} {t : Tg} (he : SE X C e me) (hg : PG X tg (gM X.K t)) (hs : swapsWithSole [tg] e pos.line X.env = pure false) (hw : swappedStores [tg] e X.env = pure none) (hn : notStar tg = true) : SS X C (.Assign [tg] e pos) (.asg t me) := by
  refine PS_mono (ps_asg he hg hs hw (ass1 hn)) fun D σ H ⟨w, g, at_, re, ok⟩ => ?_
  simp only [ex] at ok
  refine oneS at_ re ok fun w' x u _ a' re' q ok' => ?_
  obtain ⟨g', e1, ok'⟩ := ok'.some
  exact ⟨w', g, u, g', rfl, a'.rel, re', q, e1, fun σ' re2 _ => ok'.nx a'.rel re2⟩
theorem st_setLc {j : Nat} {y : Str} {py spos : Pos} {tg iter elt : Expr} {ifs : List Expr} {scope : Scope} {bx : Bool} {mt : E} {t : Tg} {it : MP.It} {mifs : Es} {ows : List (Str × Nat)} (hc : X.calm = true) (hN : X.N.Nodup) (hy : X.N[j]? = some y) (hyl : X.env.scope.names.lookup y = some .local)
    (hsw : swapsWith (.ListComp elt [⟨tg, iter, ifs, 0⟩] scope pos) (some (.Name y py)) spos.line X.env = pure true) (hi : PI X tg iter (tMI X.K C it)) (ok : BlkOk X.N X.env.scope scope ows)
    (hg : ∀ (s : Shared) (H : Hp) (D : Addr) (cl : List (Str × Addr)) (fp : List Addr), PG (X.blk s H scope (compEnvC scope cl D X.env) fp) tg (gM X.K t))
    (ht : ∀ (s : Shared) (H : Hp) (D : Addr) (cl : List (Str × Addr)) (fp : List Addr), PTs (X.blk s H scope (compEnvC scope cl D X.env) fp) ifs (tMF X.K C mifs))
    (he : ∀ (s : Shared) (H : Hp) (D : Addr) (cl : List (Str × Addr)) (fp : List Addr), PE (X.blk s H scope (compEnvC scope cl D X.env) fp) elt (tME X.K C mt))
    (hs : ∀ x, foldedSetIterable iter X.env x = pure x) (htI : ∀ i ∈ tIdx t, i ∈ ows.map (·.2)) :
    SS X C (.Assign [.Name y py] (.ListComp elt [⟨tg, iter, ifs, 0⟩] scope pos) spos) (.asg (.nm j) (.comp bx mt t it mifs (ows.map (·.2)))) := by
  refine PS_mono (ps_setLc hc hN hy hyl hsw hi ok hg ht he hs) fun D σ H ⟨w, g, at_, re, okk⟩ => ?_
  simp only [ex] at okk
  refine s_comp (bx := bx) hc hN hi ok hg ht he hs htI σ H _ ?_
  refine oneS at_ re okk fun w' x u _ a' re' q ok' => ?_
  obtain ⟨g', e1, ok'⟩ := ok'.some
  simp only [tgs, Option.some.injEq] at e1
  subst e1
  exact ok'.nx a'.rel (re'.set j q)
theorem st_setLc2 {j : Nat} {y : Str} {py spos : Pos} {tg iter elt tg1 iter1 : Expr} {ifs ifs1 : List Expr} {scope : Scope} {bx : Bool} {mt : E} {t t1 : Tg} {it it1 : MP.It} {mifs mifs1 : Es} {ows : List (Str × Nat)} {own1 : List Nat} (hy : X.N[j]? = some y) (hyl : X.env.scope.names.lookup y = some .local)
    (hsw : swapsWith (.ListComp elt [⟨tg, iter, ifs, 0⟩, ⟨tg1, iter1, ifs1, 0⟩] scope pos) (some (.Name y py)) spos.line X.env = pure true) (hc : X.calm = true) (hN : X.N.Nodup) (hi : PI X tg iter (tMI X.K C it)) (ok : BlkOk X.N X.env.scope scope ows)
    (hg : ∀ (s : Shared) (H : Hp) (D : Addr) (cl : List (Str × Addr)) (fp : List Addr), PG (X.blk s H scope (compEnvC scope cl D X.env) fp) tg (gM X.K t))
    (ht : ∀ (s : Shared) (H : Hp) (D : Addr) (cl : List (Str × Addr)) (fp : List Addr), PTs (X.blk s H scope (compEnvC scope cl D X.env) fp) ifs (tMF X.K C mifs))
    (hi1 : ∀ (s : Shared) (H : Hp) (D : Addr) (cl : List (Str × Addr)) (fp : List Addr), PI (X.blk s H scope (compEnvC scope cl D X.env) fp) tg1 iter1 (tMI X.K C it1))
    (hg1 : ∀ (s : Shared) (H : Hp) (D : Addr) (cl : List (Str × Addr)) (fp : List Addr), PG (X.blk s H scope (compEnvC scope cl D X.env) fp) tg1 (gM X.K t1))
    (ht1 : ∀ (s : Shared) (H : Hp) (D : Addr) (cl : List (Str × Addr)) (fp : List Addr), PTs (X.blk s H scope (compEnvC scope cl D X.env) fp) ifs1 (tMF X.K C mifs1))
    (he : ∀ (s : Shared) (H : Hp) (D : Addr) (cl : List (Str × Addr)) (fp : List Addr), PE (X.blk s H scope (compEnvC scope cl D X.env) fp) elt (tME X.K C mt))
    (hs : ∀ x, foldedSetIterable iter X.env x = pure x) (hs1 : ∀ env x, foldedSetIterable iter1 env x = pure x) (h1 : ∀ i ∈ own1, i ∈ ows.map (·.2)) (htI : ∀ i ∈ tIdx t, i ∈ ows.map (·.2)) (htI1 : ∀ i ∈ tIdx t1, i ∈ own1) :
    SS X C (.Assign [.Name y py] (.ListComp elt [⟨tg, iter, ifs, 0⟩, ⟨tg1, iter1, ifs1, 0⟩] scope pos) spos) (.asg (.nm j) (.comp2 bx mt t it mifs t1 it1 mifs1 (ows.map (·.2)) own1)) := by
  refine PS_mono (ps_setLc2 hc hN hy hyl hsw hi ok h1 hg ht hi1 hg1 ht1 he hs hs1) fun D σ H ⟨w, g, at_, re, okk⟩ => ?_
  simp only [ex] at okk
  refine s_comp2 (bx := bx) hc hN hi ok h1 htI htI1 σ H _ ?_
  refine oneS at_ re okk fun w' x u _ a' re' q ok' => ?_
  obtain ⟨g', e1, ok'⟩ := ok'.some
  simp only [tgs, Option.some.injEq] at e1
  subst e1
  exact ok'.nx a'.rel (re'.set j q)
theorem OKS_args {K : PySem.W.Frag} {w : Wd} {σ : L2.St} {g : ME} {H : Hp} {mes : Es} {f : List Val → MH → Res Fl} {D : Ends} (at_ : At K C.base H w) (re : RelE K w σ g)
    (ok : OKS K C.base w ((evs C mes g w.h).bind fun x h => f x h) D) {r : List V → Hp → Prop}
    (k : ∀ w' xs vs, At K C.base w'.H w' → RelE K w' σ g → RvL K w' xs vs → OKS K C.base w' (f vs w'.h) D → r xs w'.H) : tMA K C mes σ H r := by
  obtain ⟨u, h1, e1, k1⟩ := OKS_bind ok
  exact ⟨w, g, at_, re, u, h1, e1, fun w1 f1 t1 R1 x q1 => k w1 x u (at_.to t1 R1) (re.to t1) q1 (k1 w1 f1 t1 R1)⟩
/-- a, b = x, y, stored from the right -/
theorem st_par2 {j k : Nat} {x y : Str} {px py pt : Pos} {kt k2 : Nat} {pt2 : Pos} {mes : Es} (hc : X.calm = true) (hN : X.N.Nodup) (hi : X.N[j]? = some x) (hj : X.N[k]? = some y) (hij : j ≠ k) (hx : X.env.scope.names.lookup x = some .local) (hy : X.env.scope.names.lookup y = some .local) (ha : SA X C [a, b] mes)
    (hw : swappedStores [.Tuple [.Name x px, .Name y py] kt pt] (.Tuple [a, b] k2 pt2) X.env = pure (some [x, y])) :
    SS X C (.Assign [.Tuple [.Name x px, .Name y py] kt pt] (.Tuple [a, b] k2 pt2) pos) (.par [j, k] mes) := by
  refine PS_mono (ps_par hc hN hi hj hij hx hy ha hw rfl) fun D σ H ⟨w, g, at_, re, ok⟩ => ?_
  simp only [ex] at ok
  refine OKS_args at_ re ok fun w' xs vs a' re' q ok' => ?_
  split at ok'
  · rename_i hl
    cases q with
    | nil => cases hl
    | cons q1 t1 =>
      cases t1 with
      | nil => cases hl
      | cons q2 t2 =>
        cases t2 with
        | nil => exact ⟨_, _, rfl, ok'.nx a'.rel ((re'.set j q1).set k q2)⟩
        | cons q3 t3 => simp at hl
  · obtain ⟨_, _, e, _⟩ := ok'; cases e
theorem st_par3 {j k l : Nat} {x y z : Str} {c : Expr} {px py pz pt : Pos} {kt k2 : Nat} {pt2 : Pos} {mes : Es} (hc : X.calm = true) (hN : X.N.Nodup) (hi : X.N[j]? = some x) (hj : X.N[k]? = some y) (hl : X.N[l]? = some z) (hij : j ≠ k) (hil : j ≠ l) (hjl : k ≠ l)
    (hx : X.env.scope.names.lookup x = some .local) (hy : X.env.scope.names.lookup y = some .local) (hz : X.env.scope.names.lookup z = some .local) (ha : SA X C [a, b, c] mes)
    (hw : swappedStores [.Tuple [.Name x px, .Name y py, .Name z pz] kt pt] (.Tuple [a, b, c] k2 pt2) X.env = pure (some [x, y, z])) :
    SS X C (.Assign [.Tuple [.Name x px, .Name y py, .Name z pz] kt pt] (.Tuple [a, b, c] k2 pt2) pos) (.par [j, k, l] mes) := by
  refine PS_mono (ps_par3 hc hN hi hj hl hij hil hjl hx hy hz ha hw rfl) fun D σ H ⟨w, g, at_, re, ok⟩ => ?_
  simp only [ex] at ok
  refine OKS_args at_ re ok fun w' xs vs a' re' q ok' => ?_
  split at ok'
  · rename_i hl
    cases q with
    | nil => cases hl
    | cons q1 t1 =>
      cases t1 with
      | nil => cases hl
      | cons q2 t2 =>
        cases t2 with
        | nil => cases hl
        | cons q3 t3 =>
          cases t3 with
          | nil => exact ⟨_, _, _, rfl, ok'.nx a'.rel (((re'.set j q1).set k q2).set l q3)⟩
          | cons q4 t4 => simp at hl
  · obtain ⟨_, _, e, _⟩ := ok'; cases e
theorem tgsL_nm : ∀ (is : List Nat) (vs : List Val) (g : ME), vs.length = is.length → tgsL (is.map .nm) vs g = some ((is.zip vs).foldl (fun g p => g.set p.1 (some p.2)) g)
  | [], [], _, _ => by simp [tgsL]
  | [], _ :: _, _, h => by simp at h
  | _ :: _, [], _, h => by simp at h
  | i :: is, v :: vs, g, h => by
    simp only [List.map_cons, tgsL, tgs, Option.bind_some, List.zip_cons_cons, List.foldl_cons]
    exact tgsL_nm is vs _ (by simpa using h)
/-- .. stored as a tuple is -/
theorem st_parT {ts es : List Expr} {kt k2 : Nat} {pt pt2 : Pos} {is : List Nat} {mes : Es} (hg : PG X (.Tuple ts kt pt) (gM X.K (.tp (is.map .nm)))) (ha : SA X C es mes) (hl : esLen mes ≤ 1000)
    (hw : swappedStores [.Tuple ts kt pt] (.Tuple es k2 pt2) X.env = pure none) : SS X C (.Assign [.Tuple ts kt pt] (.Tuple es k2 pt2) pos) (.par is mes) := by
  refine PS_mono (ps_asg (s_tup ha hl) hg rfl hw rfl) fun D σ H ⟨w, g, at_, re, ok⟩ => ?_
  simp only [ex] at ok
  obtain ⟨vs, h1, e1, k1⟩ := OKS_bind ok
  refine ⟨w, g, at_, re, .tup vs, h1, by simp only [ev]; rw [e1]; rfl, fun w' f t R x q => ?_⟩
  have z := k1 w' f t R
  split at z
  · rename_i hl
    exact ⟨w', g, _, _, rfl, R, re.to t, q, by simp only [tgs]; exact tgsL_nm is vs g hl, fun σ' re2 _ => z.nx R re2⟩
  · obtain ⟨_, _, e, _⟩ := z; cases e
/-- an index that is no slice -/
def notSlice : Expr → Bool
  | .Slice _ _ _ _ => false
  | _ => true
theorem plainIx (h : notSlice i = true) : PlainIx i := by
  intro o j
  cases i <;> first | rfl | cases h
theorem assign_sub {env : Env} {p2 : Pos} (h : notSlice i = true) (v : Value) : assign (.Subscript o i p2) env v = (do
      let ov ← holding [v] (eval o env)
      let iv ← holding [v, ov] (eval i env)
      standAt p2
      holding [v, ov, iv] (setItem ov iv v)
      release [v, ov, iv] []) := by
  cases i <;> first | rfl | cases h
theorem augStore_plain (h : notSlice i = true) (ov iv new : Value) : augStore i ov iv new = (do holding [new, ov, iv] (setItem ov iv new); release [new, ov, iv] []; pure .next) := by
  cases i <;> first | rfl | cases h
/-- o[i] = e -/
theorem st_sset {p2 : Pos} (ho : SE X C o mo) (hi : SE X C i mi) (he : SE X C e me) (hc : isComp e = false) (hn : notSlice i = true) : SS X C (.Assign [.Subscript o i p2] e pos) (.sset mo mi me) := by
  refine PS_mono (ps_asg he (pg_sub ho hi set_list fun v => assign_sub hn v) (swapsS_plain hc) (sw_notTup (by cases e <;> rfl)) rfl) fun D σ H ⟨w, g, at_, re, ok⟩ => ?_
  simp only [ex] at ok
  refine oneS at_ re ok fun w1 x v t1 a1 re1 q1 ok1 => ?_
  refine oneS a1 re1 ok1 fun w2 y u t2 a2 re2 q2 ok2 => ?_
  refine oneS a2 re2 ok2 fun w3 z vi t3 a3 re3 q3 ok3 => ?_
  have q1 := t3.rv (t2.rv q1)
  have q2 := t3.rv q2
  obtain ⟨j, e3, ok4⟩ := ok3.some
  cases u with
  | ref n =>
    cases q2 with
    | ref ha =>
      rename_i a
      obtain ⟨l, e1, ok5⟩ := ok4.some
      obtain ⟨k, e2, ok6⟩ := ok5.some
      have hn := lits_cell e1
      obtain ⟨xs, hx, qx, hz⟩ := rpl_inj a3.rel hn ha
      cases vi with
      | int jj =>
        cases e3; cases q3
        rw [ixm_eq, ← qx.length] at e2
        refine ⟨a, xs, j, k, rfl, rfl, hx, e2, ?_⟩
        obtain ⟨fl, h', e, kk⟩ := ok6
        obtain ⟨v', h1, e5, e6⟩ := bind_eq_ok e
        have key := wr_ok1 (b := C.base) (fl := dle 60 v) (Q := fun _ H' => D.nx σ H') a3.rel hn ha (qx.set q1 k) (by rw [List.length_set]; exact hz) (fun hf r' xs0 e0 o => by
          rw [hx] at e0; cases e0
          exact o.set (dle_new hf q1) k) ⟨v', h1, e5, fun w4 f4 t4 R4 _ _ => by
          have e6' := e6
          cases e6'
          exact kk w4 f4 t4 R4 σ (re3.to t4)⟩
        exact key
      | _ => cases e3
  | _ => obtain ⟨_, _, e, _⟩ := ok4; cases e
/-! ### in place -/
theorem op_ofCop : True := trivial
def ipOf (K : PySem.W.Frag) (op : Bop) : TIp := fun x y H Q => ∃ w u v z, w.H = H ∧ Rv K w x u ∧ Rv K w y v ∧ ipI op u v = some z ∧ ∀ a, Rv K w a z → Q a H
theorem ip_add' : PIp X .Add (ipOf X.K .add) := by
  intro pins s σ H x y v u Q I rx ry h
  refine ip_add (X := X) pins s σ H x y v u Q I rx ry ?_
  obtain ⟨w, a, b, z, e, q1, q2, e2, k⟩ := h
  unfold ipI at e2
  split at e2
  · cases q1; cases q2; cases e2
    exact ⟨_, _, rfl, rfl, k _ (.int _)⟩
  · rename_i h; cases h
  · cases e2
theorem ip_sub' : PIp X .Sub (ipOf X.K .sub) := by
  intro pins s σ H x y v u Q I rx ry h
  refine ip_sub (X := X) pins s σ H x y v u Q I rx ry ?_
  obtain ⟨w, a, b, z, e, q1, q2, e2, k⟩ := h
  unfold ipI at e2
  split at e2
  · rename_i h; cases h
  · cases q1; cases q2; cases e2
    exact ⟨_, _, rfl, rfl, k _ (.int _)⟩
  · cases e2
theorem ip_of : ∀ op : Bop, (op = .add ∨ op = .sub) → PIp X (opOf op) (ipOf X.K op)
  | .add, _ => ip_add'
  | .sub, _ => ip_sub'
  | .mul, h => by rcases h with h | h <;> cases h
  | .fdiv, h => by rcases h with h | h <;> cases h
  | .mod, h => by rcases h with h | h <;> cases h
  | .pow, h => by rcases h with h | h <;> cases h
theorem st_augn {j : Nat} {x : Str} {op : Bop} {p2 : Pos} (hN : X.N.Nodup) (hi : X.N[j]? = some x) (hx : Loc X.env.scope x) (hf : X.fn x = true ∨ X.env.scope.names.lookup x = some .local) (he : SE X C e me) (hop : op = .add ∨ op = .sub) : SS X C (.AugAssign (.Name x p2) (opOf op) e pos) (.augn j op me) := by
  refine PS_mono (ps_aug hN hi hx he (ip_of op hop) hf) fun D σ H ⟨w, g, at_, re, ok⟩ => ?_
  simp only [ex] at ok
  obtain ⟨v0, h1, e1, k1⟩ := OKS_bind ok
  split at e1
  · rename_i v hv
    cases e1
    obtain ⟨y, e2, q⟩ := re.2 j _ hv
    refine ⟨y, e2, ?_⟩
    have ok1 := k1 w rfl (To.refl at_.rel) at_.rel
    refine oneS at_ re ok1 fun w2 z u t2 a2 re2 q2 ok2 => ?_
    obtain ⟨r, e3, ok3⟩ := ok2.some
    exact ⟨w2, _, _, r, rfl, t2.rv q, q2, e3, fun a qa => ok3.nx a2.rel (re2.set j qa)⟩
  · cases e1
theorem get_list : PGet X (rIxL X.K) := by
  intro pins s σ H x y v u Q I rx ry h
  obtain ⟨p, xs, i, z, rfl, rfl, hq, he, q⟩ := h
  cases rx
  obtain ⟨t, rfl⟩ := ry
  obtain ⟨its, r, pl, hz⟩ := I.list hq
  obtain ⟨j, h1, h2, h3, h4, h5⟩ := atI_get he
  obtain ⟨w, ew, rw'⟩ := r.get h2
  have hl := r.length
  have hn := line63
  have fin : EP X pins σ Q w s := ⟨z, H, I, rw', q⟩
  by_cases h0 : 0 ≤ i
  · have hj : i.toNat = j := by
      rw [seqIndex_of h0 h5] at h1
      exact Option.some.inj h1
    exact wpAny_getItem_list pl.isList h0 (by omega) (by rw [hj]; simpa using ew) fin
  · have hj : (i + (its.toArray.size : Int)).toNat = j := by
      rw [seqIndex_neg (by omega) h4] at h1
      rw [List.size_toArray, ← hl]
      exact Option.some.inj h1
    exact wpAny_getItem_list_neg pl.isList (by omega) (by rw [List.size_toArray] <;> omega) (by omega) (by rw [hj]; simpa using ew) fin
theorem st_augs {op : Bop} {p2 : Pos} (ho : SE X C o mo) (hi : SE X C i mi) (he : SE X C e me) (hn : notSlice i = true) (hop : op = .add ∨ op = .sub) : SS X C (.AugAssign (.Subscript o i p2) (opOf op) e pos) (.augs mo mi op me) := by
  refine PS_mono (ps_augS ho hi get_list he (ip_of op hop) set_list (augStore_plain hn)) fun D σ H ⟨w, g, at_, re, ok⟩ => ?_
  simp only [ex] at ok
  refine oneS at_ re ok fun w1 x u t1 a1 re1 q1 ok1 => ?_
  refine oneS a1 re1 ok1 fun w2 y vi t2 a2 re2 q2 ok2 => ?_
  obtain ⟨j, e3, ok3⟩ := ok2.some
  have q1 := t2.rv q1
  cases vi with
  | int jj =>
    cases e3; cases q2
    cases u with
    | ref n =>
      cases q1 with
      | ref ha =>
        rename_i a
        obtain ⟨l, e1, ok4⟩ := ok3.some
        obtain ⟨z, e2, ok5⟩ := ok4.some
        have hn := lits_cell e1
        obtain ⟨xs, hx, qx, hz⟩ := rpl_inj a2.rel hn ha
        obtain ⟨zx, e4, qz⟩ := ixv_at qx e2
        refine ⟨a, xs, j, zx, rfl, rfl, SqL.of hx, e4, ?_⟩
        refine oneS a2 re2 ok5 fun w3 y3 v3 t3 a3 re3 q3 ok6 => ?_
        obtain ⟨r, e5, ok7⟩ := ok6.some
        refine ⟨w3, z, v3, r, rfl, t3.rv qz, q3, e5, fun c qc => ?_⟩
        obtain ⟨l2, e6, ok8⟩ := ok7.some
        obtain ⟨k, e7, ok9⟩ := ok8.some
        have hn2 := lits_cell e6
        have ha2 := t3.refs n a ha
        obtain ⟨xs2, hx2, qx2, hz2⟩ := rpl_inj a3.rel hn2 ha2
        rw [ixm_eq, ← qx2.length] at e7
        refine ⟨a, xs2, j, k, rfl, rfl, hx2, e7, ?_⟩
        obtain ⟨fl, h', e, kk⟩ := ok9
        obtain ⟨v', h1, e8, e9⟩ := bind_eq_ok e
        exact wr_ok1 (b := C.base) (fl := dle 60 r) (Q := fun _ H' => D.nx σ H') a3.rel hn2 ha2 (qx2.set qc k) (by rw [List.length_set]; exact hz2) (fun hf r' xs0 e0 o => by
          rw [hx2] at e0; cases e0
          exact o.set (dle_new hf qc) k) ⟨v', h1, e8, fun w4 f4 t4 R4 _ _ => by
          have e9' := e9
          cases e9'
          exact kk w4 f4 t4 R4 σ (re3.to t4)⟩
    | _ => obtain ⟨_, _, e, _⟩ := ok3; cases e
  | _ => cases e3
/-! ### slices -/
def part (C : EC) (hl : Bool) (lo : E) (g : ME) (h : MH) : Res (Option Int) := if hl then (ev C lo g h).bind fun v h => (ofO (intV v) h).bind fun i h => .ok (some i) h else .ok none h
def tMO (K : PySem.W.Frag) (C : EC) (hl : Bool) (lo : E) : TO := fun σ H Q => ∃ w g, At K C.base H w ∧ RelE K w σ g ∧ ∃ l h', part C hl lo g w.h = .ok l h' ∧ ∀ w', w'.h = h' → To K C.base w w' → Rel K w' → Q l w'.H
theorem PO_mono {e : Option Expr} {t t' : TO} (h : PO X e t) (k : ∀ σ H Q, t' σ H Q → t σ H Q) : PO X e t' := ⟨fun pins s σ H Q I q => h.run pins s σ H Q I (k σ H Q q)⟩
theorem o_none : PO X none (tMO X.K C false mo) := by
  refine PO_mono po_none fun σ H Q ⟨w, g, at_, re, l, h', e, k⟩ => ?_
  unfold part at e
  rw [if_neg (by decide)] at e
  cases e
  have := k w rfl (To.refl at_.rel) at_.rel
  rw [at_.hH] at this
  exact this
theorem o_some (he : SE X C e me) : PO X (some e) (tMO X.K C true me) := by
  refine PO_mono (po_some he) fun σ H Q ⟨w, g, at_, re, l, h', e, k⟩ => ?_
  unfold part at e
  rw [if_pos rfl] at e
  obtain ⟨v, h1, e1, e2⟩ := bind_eq_ok e
  obtain ⟨i, h2, e3, e4⟩ := bind_eq_ok e2
  obtain ⟨e5, rfl⟩ := ofO_eq_ok e3
  cases e4
  refine ⟨w, g, at_, re, v, _, e1, fun w' f t R x q => ?_⟩
  cases v with
  | int j => cases e5; cases q; exact ⟨_, rfl, k w' f t R⟩
  | _ => cases e5
theorem s_slc {bx hl hh : Bool} {lo hi : Option Expr} {ml mh : E} {p2 : Pos} (ha : SE X C a ma) (h1 : PO X lo (tMO X.K C hl ml)) (h2 : PO X hi (tMO X.K C hh mh)) : SE X C (.Subscript a (.Slice lo hi none p2) pos) (.slc bx ma hl ml hh mh) := by
  refine PE_mono (pe_slice (sl_slc (b := C.base) (bx := bx)) ha h1 h2) fun σ H Q ⟨w, g, at_, re, ok⟩ => ?_
  simp only [ev] at ok
  refine oneT at_ re ok fun w1 x u t1 a1 re1 q1 ok1 => ?_
  obtain ⟨l, h3, e3, k3⟩ := OK_bind ok1
  refine ⟨w1, g, a1, re1, l, h3, e3, fun w2 f2 t2 R2 => ?_⟩
  have a2 := a1.to t2 R2
  obtain ⟨r, h4, e4, k4⟩ := OK_bind (k3 w2 f2 t2 R2)
  exact ⟨w2, g, a2, re1.to t2, r, h4, e4, fun w3 f3 t3 R3 => ⟨w3, u, a2.to t3 R3, t3.rv (t2.rv q1), k4 w3 f3 t3 R3⟩⟩
/-! ### isinstance -/
def tyn : Ty → String
  | .int => "int"
  | .bool => "bool"
  | .str => "str"
  | .tuple => "tuple"
  | .list => "list"
  | .dict => "dict"
theorem isi_ok {K : PySem.W.Frag} {w : Wd} {x : V} {v : Val} (R : Rel K w) (q : Rv K w x v) : ∃ t : String, (∀ (ty : Ty) (b : Bool), isi v ty w.h = some b → TyX K w.H x (.type t) ∧ kitB t (tyn ty) = some b) := by
  cases q with
  | non => exact ⟨"NoneType", fun ty b e => by simp only [isi, Option.some.injEq] at e; subst e; exact ⟨.base .non, by cases ty <;> decide +kernel⟩⟩
  | bl c => exact ⟨"bool", fun ty b e => by simp only [isi, Option.some.injEq] at e; subst e; exact ⟨.base (.bl c), by cases ty <;> decide +kernel⟩⟩
  | int c => exact ⟨"int", fun ty b e => by simp only [isi, Option.some.injEq] at e; subst e; exact ⟨.base (.int c), by cases ty <;> decide +kernel⟩⟩
  | str c => exact ⟨"str", fun ty b e => by simp only [isi, Option.some.injEq] at e; subst e; exact ⟨.base (.str c), by cases ty <;> decide +kernel⟩⟩
  | tup a c =>
    refine ⟨"tuple", fun ty b e => ?_⟩
    simp only [isi, Option.some.injEq] at e; subst e
    refine ⟨?_, by cases ty <;> decide +kernel⟩
    rcases a with (a | ⟨o, a⟩) | ⟨o, its, n, e1, e2, _⟩
    · exact .base (.tup a)
    · exact .fTuple a
    · exact .kTuple e1 e2
  | lst a n c => exact ⟨"list", fun ty b e => by simp only [isi, Option.some.injEq] at e; subst e; exact ⟨.base (.lst a), by cases ty <;> decide +kernel⟩⟩
  | dct0 a n => exact ⟨"dict", fun ty b e => by simp only [isi, Option.some.injEq] at e; subst e; exact ⟨.base (.dK a), by cases ty <;> decide +kernel⟩⟩
  | scr a => exact ⟨"", fun ty b e => by simp [isi] at e⟩
  | ref a =>
    rename_i ad n
    refine ⟨"list", fun ty b e => ?_⟩
    simp only [isi] at e
    split at e
    · rename_i l hl
      cases e
      obtain ⟨xs, h1, _⟩ := rpl_inj R hl a
      exact ⟨.base (.lst h1), by cases ty <;> decide +kernel⟩
    · cases e
theorem boot_ty (t : Ty) : bootBuiltins (tyn t : Str) = some (.type (tyn t)) := by cases t <;> decide +kernel
theorem tyn_ne (t : Ty) : (tyn t : Str) ≠ "__name__" ∧ ((tyn t : Str) == ("__debug__" : Str)) = false := by cases t <;> exact ⟨by decide, by decide⟩
theorem s_isi1 {t : Ty} {p p2 : Pos} (hg : Gl X "isinstance") (hm : X.mg "isinstance" = none) (hgt : Gl X (tyn t : Str)) (hmt : X.mg (tyn t : Str) = none) (ha : SE X C a ma) (hs : notStar a = true) :
    SE X C (.Call (.Name "isinstance" p) [a, .Name (tyn t : Str) p2] [] pos) (.isi [t] ma) := by
  have pt : PE X (.Name (tyn t : Str) p2) (tC (.ty (tyn t))) := pe_bltn hgt hmt (boot_ty t) rfl (tyn_ne t).1 (tyn_ne t).2
  refine PE_mono (pe_callB call_isi hg hm (by decide +kernel) (pa_cons ha (pa_cons pt pa_nil rfl) (star_cons hs)) (by decide) (by decide) (star_cons hs) rfl) fun σ H Q ⟨w, g, at_, re, ok⟩ => ?_
  simp only [ev] at ok
  refine oneT at_ re ok fun w1 x u t1 a1 re1 q1 ok1 => ?_
  obtain ⟨bs, e1, ok2⟩ := ok1.some
  obtain ⟨ty, hty⟩ := isi_ok a1.rel q1
  simp only [List.mapM_cons, List.mapM_nil] at e1
  cases hb : isi u t w1.h with
  | none => rw [hb] at e1; cases e1
  | some b =>
    rw [hb] at e1
    cases e1
    obtain ⟨h1, h2⟩ := hty t b hb
    refine ⟨x, .ty (tyn t), _, _, b, rfl, .ty _, h1, kit_ty h2, ?_⟩
    have := ok2.same a1.rel (.bl _)
    simpa using this
theorem s_isi2 {t t2 : Ty} {k : Nat} {p p2 p3 p4 : Pos} (hg : Gl X "isinstance") (hm : X.mg "isinstance" = none) (hgt : Gl X (tyn t : Str)) (hmt : X.mg (tyn t : Str) = none) (hgt2 : Gl X (tyn t2 : Str)) (hmt2 : X.mg (tyn t2 : Str) = none) (ha : SE X C a ma) (hs : notStar a = true) :
    SE X C (.Call (.Name "isinstance" p) [a, .Tuple [.Name (tyn t : Str) p2, .Name (tyn t2 : Str) p3] k p4] [] pos) (.isi [t, t2] ma) := by
  have pt : PE X (.Name (tyn t : Str) p2) (tC (.ty (tyn t))) := pe_bltn hgt hmt (boot_ty t) rfl (tyn_ne t).1 (tyn_ne t).2
  have pt2 : PE X (.Name (tyn t2 : Str) p3) (tC (.ty (tyn t2))) := pe_bltn hgt2 hmt2 (boot_ty t2) rfl (tyn_ne t2).1 (tyn_ne t2).2
  refine PE_mono (pe_callB call_isiT hg hm (by decide +kernel) (pa_cons ha (pa_cons (pe_tup (pa_cons pt (pa_cons pt2 pa_nil rfl) rfl)) pa_nil rfl) (star_cons hs)) (by decide) (by decide) (star_cons hs) rfl) fun σ H Q ⟨w, g, at_, re, ok⟩ => ?_
  simp only [ev] at ok
  refine oneT at_ re ok fun w1 x u t1 a1 re1 q1 ok1 => ?_
  refine ⟨by show 2 ≤ sizeLine; decide, fun q hq => ?_⟩
  obtain ⟨bs, e1, ok2⟩ := ok1.some
  obtain ⟨tn, rn⟩ := to_new (b := C.base) (o := .tup [.ty (tyn t), .ty (tyn t2)]) a1.rel hq
  have q2 := tn.rv q1
  obtain ⟨ty, hty⟩ := isi_ok (w := ⟨w1.r, upd w1.H q (.tup [.ty (tyn t), .ty (tyn t2)]), w1.h, w1.res⟩) rn q2
  simp only [List.mapM_cons, List.mapM_nil] at e1
  cases hb : isi u t w1.h with
  | none => rw [hb] at e1; cases e1
  | some b =>
    cases hb2 : isi u t2 w1.h with
    | none => rw [hb, hb2] at e1; cases e1
    | some b2 =>
      rw [hb, hb2] at e1
      cases e1
      obtain ⟨h1, h2⟩ := hty t b hb
      obtain ⟨_, h3⟩ := hty t2 b2 hb2
      refine ⟨x, q, [.ty (tyn t), .ty (tyn t2)], _, [.type (tyn t), .type (tyn t2)], b || b2, rfl, upd_same, .cons (.ty _) (.cons (.ty _) .nil), h1, ?_, ?_⟩
      · refine kitAny_cons (kit_ty h2) (fun hf => kitAny_cons (kit_ty h3) (fun hf2 => by rw [hf, hf2]; exact kitAny_nil) (fun ht => by rw [ht, Bool.or_true])) (fun ht => by rw [ht, Bool.true_or])
      · obtain ⟨v, h', e, kk⟩ := ok2
        cases e
        have := kk ⟨w1.r, upd w1.H q (.tup [.ty (tyn t), .ty (tyn t2)]), w1.h, w1.res⟩ rfl tn rn (.bl _) (.bl _)
        simpa using this
/-! ### a call of a def -/
def spF (K : PySem.W.Frag) (call : Nat → Nat → List Val → MH → Res Val) (f : Nat) : Sp := fun vs H Q _ => ∃ b w args, At K b H w ∧ RvL K w vs args ∧ OK K b w (call b f args w.h) Q
theorem s_call {call : Nat → Nat → List Val → MH → Res Val} {f k : Nat} {fa : Addr} {fd : FuncData} {ps : List Str} {x : Str} {p : Pos} {es : List Expr} {mes : Es} (F : FnG X.prog X.w X.K X.mg X.base CX0 k fa fd ps (spF X.K call f)) (hC : C.call = call C.base) (hr : Room k X.A) (hgd : X.A.guards = some []) (hg : Gl X x) (hm : X.mg x = some (.ref fa)) (hk : PySem.W.keepIn X.K (.ref fa) = true) (hb : Binds X.K fd ps [])
    (ha : SA X C (e :: es) mes) (hdb : (x == ("__debug__" : Str)) = false) (hs : notStar e = true) (hss : es.all notStar = true) : SE X C (.Call (.Name x p) (e :: es) [] pos) (.call f mes) := by
  refine PE_mono (pe_callG F hr hgd hg hm hk hb pass0 ha hdb hs hss) fun σ H Q ⟨w, g, at_, re, ok⟩ => ?_
  simp only [ev] at ok
  refine args_of at_ re ok fun w' xs vs a' _ q ok' => ?_
  exact ⟨C.base, w', vs, a', q, by rw [← hC]; exact ok'⟩
theorem s_call0 {call : Nat → Nat → List Val → MH → Res Val} {f k : Nat} {fa : Addr} {fd : FuncData} {ps : List Str} {x : Str} {p : Pos} (F : FnG X.prog X.w X.K X.mg X.base CX0 k fa fd ps (spF X.K call f)) (hC : C.call = call C.base) (hr : Room k X.A) (hgd : X.A.guards = some []) (hg : Gl X x) (hm : X.mg x = some (.ref fa)) (hk : PySem.W.keepIn X.K (.ref fa) = true) (hb : Binds X.K fd ps [])
    (hdb : (x == ("__debug__" : Str)) = false) : SE X C (.Call (.Name x p) [] [] pos) (.call f .nil) := by
  refine PE_mono (pe_callG0 F hr hgd hg hm hk hb pass0 hdb) fun σ H Q ⟨w, g, at_, re, ok⟩ => ?_
  simp only [ev, evs, bind_ok] at ok
  exact ⟨C.base, w, [], at_, .nil, by rw [← hC]; exact ok⟩
end
end MP

set_option maxHeartbeats 1000000
/-! MiniI2: errors: calls that may raise, blocks of them. -/
namespace MP
open PySem PySem.Spec PyProof.Rows L2
/-- an error's class and its field -/
def xNames : List (Str × Str) := [("NoKind", "kind"), ("NoRoom", "room"), ("NoNumber", "number"), ("Lacks", "room"), ("Full", "room"), ("Unlike", "kind"), ("NoArc", "arc"), ("Needed", "room"), ("NoName", "name"), ("Locked", "room"), ("Open", "room"), ("TooMany", "most"), ("NoMoment", "at"), ("Broken", "at"), ("BadText", "row")]
def xfld (c : Str) : Option Str := xNames.lookup c
/-- never an error -/
def NX {α : Type} (r : Res α) : Prop := ∀ c us h, r ≠ .exc c us h
def XOk (K : PySem.W.Frag) (mg : Str → Option Value) (w : Wd) (c : Str) (us : List Val) (cls : Value) (d : Option Addr) : Prop :=
  ∃ C f u dd x, mg c = some (.ref C) ∧ cls = .ref C ∧ xfld c = some f ∧ us = [u] ∧ d = some dd ∧ w.H dd = some (.xd [(f, x)]) ∧ Rv K w x u
def OKX (K : PySem.W.Frag) (mg : Str → Option Value) (b nb : Nat) (w : Wd) (r : Res Val) (Q : VK) (E : XK) : Prop :=
  OK K b w r Q ∨ ∃ c us h', r = .exc c us h' ∧ ∀ w', w'.h = h' → To K nb w w' → Rel K w' → ∀ cls d, XOk K mg w' c us cls d → E cls d w'.H
def OKSX (K : PySem.W.Frag) (mg : Str → Option Value) (b : Nat) (w : Wd) (r : Res Fl) (D : Ends) (E : XK) : Prop :=
  OKS K b w r D ∨ ∃ c us h', r = .exc c us h' ∧ ∀ w', w'.h = h' → To K b w w' → Rel K w' → ∀ cls d, XOk K mg w' c us cls d → E cls d w'.H
theorem OKSX.nx {K : PySem.W.Frag} {mg : Str → Option Value} {b : Nat} {w : Wd} {r : Res Fl} {D : Ends} {E : XK} (h : OKSX K mg b w r D E) (n : NX r) : OKS K b w r D := by
  rcases h with h | ⟨c, us, h', e, _⟩
  · exact h
  · exact absurd e (n c us h')
/-- a def that may raise -/
def spX (K : PySem.W.Frag) (mg : Str → Option Value) (call : Nat → Nat → List Val → MH → Res Val) (f : Nat) : Sp := fun vs H Q E => ∃ b w args, At K b H w ∧ RvL K w vs args ∧ OKX K mg b w.h.length w (call b f args w.h) Q E
def tMSX (K : PySem.W.Frag) (mg : Str → Option Value) (C : EC) (s : S) (W : WX) : TS := fun D σ H => ∃ w g, At K C.base H w ∧ RelE K w σ g ∧ OKSX K mg C.base w (ex C s g w.h) D fun cls d H' => W cls d σ H'
def tMSsX (K : PySem.W.Frag) (mg : Str → Option Value) (C : EC) (s : Ss) (E : XK) : TS := fun D σ H => ∃ w g, At K C.base H w ∧ RelE K w σ g ∧ OKSX K mg C.base w (exs C s g w.h) D E
/-- a wish that looks at no slots -/
abbrev wE (E : XK) : WX := fun cls d _ H => E cls d H
section
variable {X : Cx} {C : EC} {pos : Pos} {E : XK}
theorem FnG.callAt {CX : CXT} {k : Nat} {f : Addr} {fd : FuncData} {ps : List Str} {sp : Sp} {E : XK} {pins : List (Addr × Obj)} {σ : L2.St} {H : Hp} {s : Shared} {Q : VK} {us : List Value} {vs : List V} (F : FnG X.prog X.w X.K X.mg X.base CX k f fd ps sp) (hr : Room k X.A) (hg : X.A.guards = some []) (hb : Binds X.K fd ps []) (hx : PassesAt CX X σ E)
    (I : Inv X pins σ H s) (r : Vals vs us) (h : sp vs H Q E) : wpAny (model X.prog X.w) X.A (PySem.call (.ref f) us) (EP X pins σ Q) X.xe s := by
  have n : us.length = ps.length := r.length ▸ F.cnt _ _ _ _ h
  have b := hb s us I.kIn (by simpa using n)
  rw [List.append_nil] at b
  refine wpAny_call (codeAny_mono (F.go X.A X.stack s H ⟨us, []⟩ us vs Q E hr hg I.env0 b r h) fun q s' z => ?_)
  cases q with
  | error e => exact hx pins H s e s' I z
  | ok fl =>
    cases fl with
    | ret u => exact I.after z
    | next => cases z
    | brk => cases z
    | cont => cases z
theorem To.le {K : PySem.W.Frag} {b b' : Nat} {w w' : Wd} (t : To K b w w') (h : b' ≤ b) : To K b' w w' := ⟨t.keep, t.live, t.refs, t.tp, t.len, fun b0 h0 => t.low b0 (Nat.le_trans h0 h), by first | exact t.rs | trivial, by first | exact t.kr | trivial⟩
/-- a call that may raise -/
theorem x_call0 {W : WX} {call : Nat → Nat → List Val → MH → Res Val} {f k : Nat} {fa : Addr} {fd : FuncData} {ps : List Str} {x : Str} {p : Pos} {e : Expr} {es : List Expr} {mes : Es} (tk : L2N.Takes X W) (F : FnG X.prog X.w X.K X.mg X.base (L2N.CX X.prog X.w) k fa fd ps (spX X.K X.mg call f)) (hr : Room k X.A) (hgd : X.A.guards = some []) (hg : Gl X x) (hm : X.mg x = some (.ref fa)) (hk : PySem.W.keepIn X.K (.ref fa) = true) (hb : Binds X.K fd ps [])
    (ha : SA X C (e :: es) mes) (hdb : (x == ("__debug__" : Str)) = false) (hs : notStar e = true) (hss : es.all notStar = true) :
    PE X (.Call (.Name x p) (e :: es) [] pos) (fun σ H Q => tMA X.K C mes σ H fun vs H1 => spX X.K X.mg call f vs H1 Q fun cls d H' => W cls d σ H') := by
  constructor
  intro pins s σ H Q I key
  have pa : PassesAt (L2N.CX X.prog X.w) X σ fun cls d H' => W cls d σ H' := fun pins H s e s' I c => tk e s' (L2N.XE.of_call I (fun _ _ _ h => h) c)
  refine wpAny_Call_Name_kw (ld_glob I hg hm (PySem.W.callWith_K (h₀ := X.base) I.ok.mod.kin hk (thn (ha.run pos pins s σ H _ I key) ?_) (star_cons hs) (star_plain hss)) hdb)
  rintro us s1 ⟨vs, G, J, r, q⟩
  exact ⟨J.kIn, F.callAt hr hgd hb pa J r q⟩
theorem x_call {W : WX} {call : Nat → Nat → List Val → MH → Res Val} {f k : Nat} {fa : Addr} {fd : FuncData} {ps : List Str} {x : Str} {p : Pos} {e : Expr} {es : List Expr} {mes : Es} (tk : L2N.Takes X W) (F : FnG X.prog X.w X.K X.mg X.base (L2N.CX X.prog X.w) k fa fd ps (spX X.K X.mg call f)) (hC : C.call = call C.base) (hr : Room k X.A) (hgd : X.A.guards = some []) (hg : Gl X x) (hm : X.mg x = some (.ref fa)) (hk : PySem.W.keepIn X.K (.ref fa) = true) (hb : Binds X.K fd ps [])
    (ha : SA X C (e :: es) mes) (hn : ∀ g h, NX (evs C mes g h)) (hdb : (x == ("__debug__" : Str)) = false) (hs : notStar e = true) (hss : es.all notStar = true) :
    PE X (.Call (.Name x p) (e :: es) [] pos) (fun σ H Q => ∃ w g, At X.K C.base H w ∧ RelE X.K w σ g ∧ OKX X.K X.mg C.base C.base w (ev C (.call f mes) g w.h) Q fun cls d H' => W cls d σ H') := by
  refine PE_mono (x_call0 tk F hr hgd hg hm hk hb ha hdb hs hss) fun σ H Q ⟨w, g, at_, re, ok⟩ => ?_
  simp only [ev] at ok
  cases r : evs C mes g w.h with
  | exc c us h' => exact absurd r (hn g w.h c us h')
  | stuck =>
    rw [r] at ok
    rcases ok with ⟨_, _, z, _⟩ | ⟨_, _, _, z, _⟩ <;> cases z
  | ok vs h1 =>
    rw [r] at ok
    refine ⟨w, g, at_, re, vs, h1, r, fun w1 e1 t1 R1 xs q1 => ⟨C.base, w1, vs, at_.to t1 R1, q1, ?_⟩⟩
    rw [e1, ← hC]
    rcases ok with ⟨v, h2, z, kk⟩ | ⟨c, us, h2, z, kk⟩
    · exact .inl ⟨v, h2, z, fun w2 e2 t2 R2 => kk w2 e2 (t1.trans t2) R2⟩
    · exact .inr ⟨c, us, h2, z, fun w2 e2 t2 R2 => kk w2 e2 (t1.trans (t2.le (by rw [← e1]; exact (at_.to t1 R1).hb))) R2⟩
abbrev XE1 (X : Cx) (C : EC) (e : Expr) (f : Nat) (mes : Es) (W : WX) : Prop := PE X e (fun σ H Q => ∃ w g, At X.K C.base H w ∧ RelE X.K w σ g ∧ OKX X.K X.mg C.base C.base w (ev C (.call f mes) g w.h) Q fun cls d H' => W cls d σ H')
abbrev XS (X : Cx) (C : EC) (st : Stmt) (m : S) (W : WX) : Prop := PS X st (tMSX X.K X.mg C m W)
abbrev XSs (X : Cx) (C : EC) (st : List Stmt) (m : Ss) (E : XK) : Prop := PSs X st (tMSsX X.K X.mg C m E)
/-- what a raising call's result is for a statement over it -/
theorem x_over {W : WX} {w : Wd} {g : ME} {σ : L2.St} {H : Hp} {f : Nat} {mes : Es} {D : Ends} {k : Val → MH → Res Fl} {Q : VK} (at_ : At X.K C.base H w) (re : RelE X.K w σ g) (hk : ∀ v h c us h', k v h ≠ .exc c us h')
    (ok : OKSX X.K X.mg C.base w ((ev C (.call f mes) g w.h).bind k) D fun cls d H' => W cls d σ H') (q : ∀ w' x u, To X.K C.base w w' → At X.K C.base w'.H w' → RelE X.K w' σ g → Rv X.K w' x u → OKS X.K C.base w' (k u w'.h) D → Q x w'.H) :
    ∃ w g, At X.K C.base H w ∧ RelE X.K w σ g ∧ OKX X.K X.mg C.base C.base w (ev C (.call f mes) g w.h) Q fun cls d H' => W cls d σ H' := by
  refine ⟨w, g, at_, re, ?_⟩
  rcases ok with ok | ⟨c, us, h', e, kk⟩
  · obtain ⟨u, h1, e1, k1⟩ := OKS_bind ok
    exact .inl ⟨u, h1, e1, fun w1 f1 t1 R1 x q1 => q w1 x u t1 (at_.to t1 R1) (re.to t1) q1 (k1 w1 f1 t1 R1)⟩
  · cases r : ev C (.call f mes) g w.h with
    | stuck => rw [r] at e; cases e
    | ok v h1 => rw [r] at e; exact absurd e (hk v h1 c us h')
    | exc c' us' h1 =>
      rw [r] at e
      simp only [Res.bind, Res.exc.injEq] at e
      obtain ⟨rfl, rfl, rfl⟩ := e
      exact .inr ⟨_, _, _, rfl, kk⟩
theorem x_ex {W : WX} {e : Expr} {f : Nat} {mes : Es} (he : XE1 X C e f mes W) (hc : isComp e = false) : XS X C (.Expr e pos) (.ex (.call f mes)) W := by
  refine PS_mono (ps_expr he (swaps_plain hc)) fun D σ H ⟨w, g, at_, re, ok⟩ => ?_
  simp only [ex] at ok
  exact x_over at_ re (fun _ _ _ _ _ z => by cases z) ok fun w' x u t a' re' q ok' => ok'.nx a'.rel re'
theorem x_ret {W : WX} {e : Expr} {f : Nat} {mes : Es} (he : XE1 X C e f mes W) : XS X C (.Return (some e) pos) (.ret (.call f mes)) W := by
  refine PS_mono (ps_ret he) fun D σ H ⟨w, g, at_, re, ok⟩ => ?_
  simp only [ex] at ok
  exact x_over at_ re (fun _ _ _ _ _ z => by cases z) ok fun w' x u t a' re' q ok' => ok'.rt a'.rel q
theorem x_asg {W : WX} {e : Expr} {f : Nat} {mes : Es} {tg : Expr} {t : Tg} (he : XE1 X C e f mes W) (hg : PG X tg (gM X.K t)) (hs : swapsWithSole [tg] e pos.line X.env = pure false) (hw : swappedStores [tg] e X.env = pure none) (hn : notStar tg = true) : XS X C (.Assign [tg] e pos) (.asg t (.call f mes)) W := by
  refine PS_mono (ps_asg he hg hs hw (ass1 hn)) fun D σ H ⟨w, g, at_, re, ok⟩ => ?_
  simp only [ex] at ok
  refine x_over at_ re (fun v h c us h' z => ?_) ok fun w' x u tt a' re' q ok' => ?_
  · cases e1 : tgs t v g with
    | none => rw [e1] at z; cases z
    | some g' => rw [e1] at z; cases z
  · obtain ⟨g', e1, ok'⟩ := ok'.some
    exact ⟨w', g, u, g', rfl, a'.rel, re', q, e1, fun σ' re2 _ => ok'.nx a'.rel re2⟩
theorem xs_nil : XSs X C [] .nil E := PSs_mono b_nil fun D σ H ⟨w, g, at_, re, ok⟩ => ⟨w, g, at_, re, ok.nx fun _ _ _ z => by simp [exs] at z⟩
/-- a plain statement ahead -/
theorem xs_pl {st : Stmt} {sts : List Stmt} {m : S} {ms : Ss} (h1 : SS X C st m) (hn : ∀ g h, NX (ex C m g h)) (h2 : XSs X C sts ms E) : XSs X C (st :: sts) (.cons m ms) E := by
  refine PSs_mono (pss_cons h1 h2) fun D σ H ⟨w, g, at_, re, ok⟩ => ?_
  simp only [exs] at ok
  cases r : ex C m g w.h with
  | exc c us h' => exact absurd r (hn g w.h c us h')
  | stuck => rw [r] at ok; rcases ok with ⟨_, _, z, _⟩ | ⟨_, _, _, z, _⟩ <;> cases z
  | ok fl h1 =>
    rw [r] at ok
    refine ⟨w, g, at_, re, fl, h1, r, fun w' f t R => ?_⟩
    cases fl with
    | nx g' =>
      intro σ' re'
      refine ⟨w', g', at_.to t R, re', ?_⟩
      rw [f]
      rcases ok with ⟨fl2, h2, z, kk⟩ | ⟨c, us, h2, z, kk⟩
      · exact .inl ⟨fl2, h2, z, fun w2 e2 t2 R2 => kk w2 e2 (t.trans t2) R2⟩
      · exact .inr ⟨c, us, h2, z, fun w2 e2 t2 R2 => kk w2 e2 (t.trans t2) R2⟩
    | rt v =>
      intro x q
      rcases ok with ⟨fl2, h2, z, kk⟩ | ⟨c, us, h2, z, kk⟩
      · cases z
        exact kk w' f t R x q
      · cases z
/-- a raising statement ahead -/
theorem xs_cons {st : Stmt} {sts : List Stmt} {m : S} {ms : Ss} (h1 : XS X C st m (wE E)) (h2 : XSs X C sts ms E) : XSs X C (st :: sts) (.cons m ms) E := by
  refine PSs_mono (pss_cons h1 h2) fun D σ H ⟨w, g, at_, re, ok⟩ => ?_
  simp only [exs] at ok
  refine ⟨w, g, at_, re, ?_⟩
  cases r : ex C m g w.h with
  | exc c us h' =>
    rw [r] at ok
    rcases ok with ⟨_, _, z, _⟩ | ⟨c', us', h2, z, kk⟩
    · cases z
    · simp only [Res.bind, Res.exc.injEq] at z
      obtain ⟨rfl, rfl, rfl⟩ := z
      exact .inr ⟨_, _, _, rfl, kk⟩
  | stuck => rw [r] at ok; rcases ok with ⟨_, _, z, _⟩ | ⟨_, _, _, z, _⟩ <;> cases z
  | ok fl h1 =>
    rw [r] at ok
    refine .inl ⟨fl, h1, rfl, fun w' f t R => ?_⟩
    cases fl with
    | nx g' =>
      intro σ' re'
      refine ⟨w', g', at_.to t R, re', ?_⟩
      rw [f]
      rcases ok with ⟨fl2, h2, z, kk⟩ | ⟨c, us, h2, z, kk⟩
      · exact .inl ⟨fl2, h2, z, fun w2 e2 t2 R2 => kk w2 e2 (t.trans t2) R2⟩
      · exact .inr ⟨c, us, h2, z, fun w2 e2 t2 R2 => kk w2 e2 (t.trans t2) R2⟩
    | rt v =>
      intro x q
      rcases ok with ⟨fl2, h2, z, kk⟩ | ⟨c, us, h2, z, kk⟩
      · cases z
        exact kk w' f t R x q
      · cases z
theorem x_iff {c : Expr} {mc : MP.E} {a b : List Stmt} {sa sb : Ss} (hc : ST X C c mc) (hn : ∀ g h, NX (ev C mc g h)) (ha : XSs X C a sa E) (hb : XSs X C b sb E) : XS X C (.If c a b pos) (.iff mc sa sb) (wE E) := by
  refine PS_mono (ps_if hc ha hb) fun D σ H ⟨w, g, at_, re, ok⟩ => ?_
  simp only [ex] at ok
  cases r : ev C mc g w.h with
  | exc c us h' => exact absurd r (hn g w.h c us h')
  | stuck => rw [r] at ok; rcases ok with ⟨_, _, z, _⟩ | ⟨_, _, _, z, _⟩ <;> cases z
  | ok v h1 =>
    rw [r] at ok
    cases eb : bopV v with
    | none => simp only [bind_ok, eb] at ok; rcases ok with ⟨_, _, z, _⟩ | ⟨_, _, _, z, _⟩ <;> cases z
    | some q =>
      simp only [bind_ok, eb, ofO_some] at ok
      have et : evT C mc g w.h = .ok q h1 := by unfold evT; rw [r]; simp [eb]
      refine ⟨w, g, at_, re, q, h1, et, fun w' f t R => ?_⟩
      have at' := at_.to t R
      have re' := re.to t
      cases q with
      | true =>
        dsimp only
        rw [if_pos rfl] at ok ⊢
        refine ⟨w', g, at', re', ?_⟩
        rw [f]
        rcases ok with ⟨fl2, h2, z, kk⟩ | ⟨c, us, h2, z, kk⟩
        · exact .inl ⟨fl2, h2, z, fun w2 e2 t2 R2 => kk w2 e2 (t.trans t2) R2⟩
        · exact .inr ⟨c, us, h2, z, fun w2 e2 t2 R2 => kk w2 e2 (t.trans t2) R2⟩
      | false =>
        dsimp only
        rw [if_neg (by decide)] at ok ⊢
        refine ⟨w', g, at', re', ?_⟩
        rw [f]
        rcases ok with ⟨fl2, h2, z, kk⟩ | ⟨c, us, h2, z, kk⟩
        · exact .inl ⟨fl2, h2, z, fun w2 e2 t2 R2 => kk w2 e2 (t.trans t2) R2⟩
        · exact .inr ⟨c, us, h2, z, fun w2 e2 t2 R2 => kk w2 e2 (t.trans t2) R2⟩
theorem OKSX.imp {K : PySem.W.Frag} {mg : Str → Option Value} {b : Nat} {w w' : Wd} {r : Res Fl} {D D' : Ends} {E : XK} (h : OKSX K mg b w r D E) (t : To K b w w') (k : ∀ fl h', r = .ok fl h' → OKS K b w r D → OKS K b w' r D') : OKSX K mg b w' r D' E := by
  rcases h with h | ⟨c, us, h', e, kk⟩
  · obtain ⟨fl, h', e, _⟩ := id h
    exact .inl (k fl h' e h)
  · exact .inr ⟨c, us, h', e, fun w2 e2 t2 R2 => kk w2 e2 (t.trans t2) R2⟩
theorem OKSX.to {K : PySem.W.Frag} {mg : Str → Option Value} {b : Nat} {w w' : Wd} {r : Res Fl} {D : Ends} {E : XK} (h : OKSX K mg b w r D E) (t : To K b w w') : OKSX K mg b w' r D E := h.imp t fun fl h' e ⟨fl2, h2, e2, k⟩ => ⟨fl2, h2, e2, fun w2 f2 t2 R2 => k w2 f2 (t.trans t2) R2⟩
/-- the parts of a turn -/
theorem OKSX_split {K : PySem.W.Frag} {mg : Str → Option Value} {b : Nat} {w : Wd} {r : Res Fl} {f : ME → MH → Res Fl} {D : Ends} {E : XK} (h : OKSX K mg b w (r.bind fun fl h => match fl with | .nx g => f g h | .rt v => .ok (.rt v) h) D E) :
    OKSX K mg b w r { D with nx := fun σ H => ∃ w' g, w'.H = H ∧ To K b w w' ∧ Rel K w' ∧ RelE K w' σ g ∧ OKSX K mg b w' (f g w'.h) D E } E := by
  cases e : r with
  | stuck => rw [e] at h; rcases h with ⟨_, _, z, _⟩ | ⟨_, _, _, z, _⟩ <;> cases z
  | exc c us h' =>
    rw [e] at h
    rcases h with ⟨_, _, z, _⟩ | ⟨c', us', h2, z, kk⟩
    · cases z
    · simp only [Res.bind, Res.exc.injEq] at z
      obtain ⟨rfl, rfl, rfl⟩ := z
      exact .inr ⟨_, _, _, rfl, kk⟩
  | ok fl h1 =>
    rw [e] at h
    refine .inl ⟨fl, h1, rfl, fun w1 f1 t1 R1 => ?_⟩
    cases fl with
    | nx g =>
      intro σ re
      refine ⟨w1, g, rfl, t1, R1, re, ?_⟩
      rw [f1]
      exact OKSX.to h t1
    | rt v =>
      intro x q
      rcases h with ⟨fl2, h2, z, kk⟩ | ⟨c, us, h2, z, kk⟩
      · cases z
        exact kk w1 f1 t1 R1 x q
      · cases z
theorem x_for {tg iter : Expr} {b : List Stmt} {sb : Ss} {t : Tg} {it : MP.It} (hp : PassesOwn (model X.prog X.w) X.A X.env X.xe) (hc : X.calm = true) (hi : PI X tg iter (tMI X.K C it)) (hn : ∀ g h, NX (evI C it g h)) (hg : PG X tg (gM X.K t)) (hb : XSs X C b sb E)
    (hs : ∀ x, foldedSetIterable iter X.env x = pure x) : XS X C (.For tg iter b [] pos) (.forr t it sb) (wE E) := by
  refine PS_mono (ps_for hp hc hi hg hb hs) fun D σ H ⟨w, g, at_, re, ok⟩ => ?_
  simp only [ex] at ok
  let F : Val → ME → MH → Res Fl := fun x g h => (ofO (tgs t x g) h).bind fun g h => exs C sb g h
  cases r : evI C it g w.h with
  | exc c us h' => exact absurd r (hn g w.h c us h')
  | stuck => rw [r] at ok; rcases ok with ⟨_, _, z, _⟩ | ⟨_, _, _, z, _⟩ <;> cases z
  | ok src h1 =>
    rw [r] at ok
    refine ⟨w, g, at_, re, src, h1, r, fun w1 f1 t1 R1 J hJ => ?_⟩
    obtain ⟨n, G, Y, wk, hn', hG, hY⟩ := hJ
    have at1 := at_.to t1 R1
    let Pv : Nat → L2.St → Hp → Prop := fun i σ H => ∃ w2 g2, w2.H = H ∧ To X.K C.base w1 w2 ∧ Rel X.K w2 ∧ RelE X.K w2 σ g2 ∧ OKSX X.K X.mg C.base w2 (forLoop F (src.drop i) g2 w2.h) D E
    refine for_it wk Pv ⟨w1, g, rfl, To.refl R1, R1, re.to t1, by rw [List.drop_zero, f1]; exact OKSX.to ok t1⟩ (fun i σ H _ ⟨w2, g2, q1, q2, q3, _⟩ => by rw [← q1]; exact hG w2 q2.tw q3) (fun i x σ H H' hi2 hpv y => ?_) (fun σ H hpv => ?_)
    · obtain ⟨w2, g2, q1, q2, q3, q4, q5⟩ := hpv
      subst q1
      have hi3 : i < src.length := by rw [← hn']; exact hi2
      rw [drop_cons hi3] at q5
      simp only [forLoop] at q5
      obtain ⟨w3, a1, a2, a3, a4, a5⟩ := hY i _ w2 H' x q2.tw q3 (List.getElem?_eq_getElem hi3) y
      subst a1
      have t13 : To X.K C.base w1 w3 := q2.trans a3
      have q6 := OKSX.to q5 a3
      rw [← a2] at q6
      have q7 := OKSX_split q6
      cases et : tgs t src[i] g2 with
      | none =>
        have ef : F src[i] g2 w3.h = .stuck := by show (ofO (tgs t src[i] g2) w3.h).bind _ = _; rw [et]; rfl
        rw [ef] at q7
        rcases q7 with ⟨_, _, z, _⟩ | ⟨_, _, _, z, _⟩ <;> cases z
      | some g3 =>
        have ef : F src[i] g2 w3.h = exs C sb g3 w3.h := by show (ofO (tgs t src[i] g2) w3.h).bind _ = _; rw [et]; rfl
        rw [ef] at q7
        refine ⟨w3, g2, _, g3, rfl, a4, q4.to a3, a5, et, fun σ2 re2 _ => ⟨w3, g3, ⟨rfl, a4, Nat.le_trans at1.hb t13.len⟩, re2, ?_⟩⟩
        refine q7.imp (To.refl a4) fun fl h' e ⟨fl2, h2, e2, k⟩ => ⟨fl2, h2, e2, fun w4 f4 t4 R4 => ?_⟩
        have z := k w4 f4 t4 R4
        cases fl2 with
        | nx g4 =>
          intro σ' re'
          obtain ⟨w5, g5, e6, t6, R6, re6, ok6⟩ := z σ' re'
          exact ⟨w5, g5, e6, t13.trans t6, R6, re6, ok6⟩
        | rt v => exact z
    · obtain ⟨w2, g2, q1, q2, q3, q4, q5⟩ := hpv
      subst q1
      rw [hn', List.drop_length] at q5
      simp only [forLoop] at q5
      exact (q5.nx fun _ _ _ z => nomatch z).nx q3 q4
end
end MP

set_option maxHeartbeats 1000000
/-! MiniI3: an error made and raised. -/
namespace MP
open PySem PySem.Spec PyProof.Rows L2
/-- what is known of an error's class -/
structure XCl (K : PySem.W.Frag) (mg : Str → Option Value) (c f : Str) (C fI : Addr) (fd : FuncData) : Prop where
  g : mg c = some (.ref C)
  o : OexC K C
  i : PySem.W.findIn K (.ref C) "__init__" = some (some (.ref fI))
  t : PySem.W.typeIn K (.ref fI) = some (.type "function")
  F : ∃ qual params scope q1 q2 q3 q4, FunD K "__init__" qual params [.Assign [.Attribute (.Name "self" q1) f q2] (.Name f q3) q4] scope [] [] fI fd ∧ FnScope ["self", f] ["self", f] scope ∧ scope.names.lookup ("self" : Str) = some .local ∧ scope.names.lookup f = some .local
  b : Binds K fd ["self", f] []
  no : PySem.W.findIn K (.ref C) f = some none
  xf : PySem.W.findIn K (.ref C) "__getattribute__" = some (some (.builtin "BaseException.__getattribute__")) ∧ PySem.W.findIn K (.ref C) "__getattr__" = some none ∧ PySem.W.hasDictIn K C = true
  fx : xfld c = some f
  db : (f == ("__debug__" : Str)) = false ∧ (f == ("__classdict__" : Str)) = false ∧ (c == ("__debug__" : Str)) = false
def spI (K : PySem.W.Frag) (C : Addr) (f : Str) : Sp := fun vs H Q _ => ∃ a y, vs = [.ref a, y] ∧ H a = some (exo a C none) ∧ ∀ dx, H dx = none → dx ≠ a → Q .non (upd (upd H dx (exd dx [(f, y)])) a (exo a C (some dx)))
theorem xinit {P : Program} {w : World} {K : PySem.W.Frag} {mg : Str → Option Value} {base : Heap} {c f : Str} {C fI : Addr} {fd : FuncData} (T : XCl K mg c f C fI fd) : FnOk P w K mg base L2.CX0 1 fI fd ["self", f] (spI K C f) := by
  obtain ⟨qual, params, scope, q1, q2, q3, q4, F, S, l1, l2⟩ := T.F
  refine F.ok S (fun vs H Q E ⟨a, y, e, _⟩ => by rw [e]; rfl) fun cdv A outer s H vs Q E hr ⟨a, y, e, h1, h2⟩ => ?_
  subst e
  refine ⟨_, pss_one (ps_ost (pe_var (i := 0) rfl (.inl l1)) (pe_var (i := 1) rfl (.inl l2) T.db.1 T.db.2.1)), ?_⟩
  exact ⟨y, rfl, .ref a, rfl, a, C, rfl, T.o, T.no, .inl ⟨h1, h2⟩⟩
section
variable {X : Cx} {c f : Str} {C fI : Addr} {fd : FuncData} {p pos : Pos} {e : Expr} {ta : TA}
/-- c(e) -/
theorem x_made (T : XCl X.K X.mg c f C fI fd) (hr : Room 2 X.A) (hg : Gl X c) (ha : PA X [e] ta) (hs : notStar e = true) :
    L2N.PMk X (.Call (.Name c p) [e] [] pos) (fun σ H Q => ta σ H fun vs H1 => ∃ x, vs = [x] ∧ ∀ dx, H1 dx = none → Q (.ref C) (some dx) (upd H1 dx (.xd [(f, x)]))) := by
  intro pins s σ H Q I h
  obtain ⟨nm, q, N, bs, bm, sn, sub, ab, col, dd, k0, k1, k2, k3, k5, hC, hbm⟩ := id T.o.cls
  refine wpAny_Call_Name_kw (ld_glob I hg T.g (PySem.W.callWith_K (h₀ := X.base) I.ok.mod.kin T.o.kC (thn (ha.run pos pins s σ H _ I h) ?_) (star_cons hs) rfl) T.db.2.2)
  rintro us ⟨hp, g, dr, tk, os⟩ ⟨vs, H1, I1, r1, x, rfl, q1⟩
  refine ⟨I1.kIn, ?_⟩
  cases r1 with
  | cons rv rn =>
    rename_i u us'
    cases rn
    show wpAny _ _ (call (.ref C) [u]) _ _ (⟨hp, g, dr, tk, os⟩ : Shared)
    have sz1 : hp.objs.size ≤ hp.objs.size + 1 := Nat.le_succ _
    have new1 : H1 (hp.objs.size + 1) = none := I1.hok.fresh sz1
    have grow : ∀ b o, hp.get? b = some o → ((hp.push (PySem.W.kdv_tup [u])).push (PySem.HandSPX.excO C hp.objs.size)).get? b = some o := fun b o z => by
      refine Heap.get?_push_of_some _ ?_
      exact Heap.get?_push_of_some _ z
    have there : ((hp.push (PySem.W.kdv_tup [u])).push (PySem.HandSPX.excO C hp.objs.size)).get? (hp.objs.size + 1) = some (PySem.HandSPX.excO C hp.objs.size) := by (heap_get)
    have J2 : Inv X pins σ (upd H1 (hp.objs.size + 1) (exo (hp.objs.size + 1) C none)) ⟨(hp.push (PySem.W.kdv_tup [u])).push (PySem.HandSPX.excO C hp.objs.size), g, dr, tk, os⟩ :=
      I1.laid (t' := tk) (h' := (hp.push (PySem.W.kdv_tup [u])).push (PySem.HandSPX.excO C hp.objs.size)) (a := hp.objs.size + 1) (o := exo (hp.objs.size + 1) C none) grow sz1 (exo_ok there)
    have F1 := xinit (P := X.prog) (w := X.w) (base := X.base) T
    have bb := T.b ⟨(hp.push (PySem.W.kdv_tup [u])).push (PySem.HandSPX.excO C hp.objs.size), g, dr, tk, os⟩ [Value.ref (hp.objs.size + 1), u] J2.kIn rfl
    rw [List.append_nil] at bb
    refine wpAny_call (PySem.HandSPX.call_own F.excBase_ValueError (fun Y => PySem.HandSPX.refsVE_contains Y bm hbm) (I1.kIn _ _ hC) (PySem.W.looks_findIn I1.kIn T.i) (fun self => PySem.W.bind_fn I1.kIn self T.t) (by rw [sizeLine_eq]; exact (by decide : 1 ≤ 16777216)) ?_)
    refine codeAny_mono (F1.run _ X.stack _ (upd H1 (hp.objs.size + 1) (exo (hp.objs.size + 1) C none)) ⟨[Value.ref (hp.objs.size + 1), u], []⟩ [Value.ref (hp.objs.size + 1), u] [V.ref (hp.objs.size + 1), x]
      (fun v H2 => v = .non ∧ ∃ dx, H1 dx = none ∧ dx ≠ hp.objs.size + 1 ∧ H2 = upd (upd (upd H1 (hp.objs.size + 1) (exo (hp.objs.size + 1) C none)) dx (exd dx [(f, x)])) (hp.objs.size + 1) (exo (hp.objs.size + 1) C (some dx))) (fun _ _ _ => False)
      (hr.make C [u] []) (J2.env0.make C [u] []) bb (.cons rfl (.cons rv .nil)) ⟨_, x, rfl, upd_same, fun dx n ne => ⟨rfl, dx, by rw [upd_ne ne] at n; exact n, ne, rfl⟩⟩) fun r s' hq => ?_
    cases r with
    | error er => exact hq.elim
    | ok fl =>
      cases fl with
      | next => exact hq.elim
      | brk => exact hq.elim
      | cont => exact hq.elim
      | ret z =>
        obtain ⟨v, H2, os2, bare2, un2, hok2, rv2, rfl, dx, nd, ne, rfl⟩ := hq
        obtain ⟨h2, g2, d2, t2, os'⟩ := s'
        obtain ⟨t0, G, J, kG, ge, hoe, na⟩ := mk_end0 (d2 := d2) (t2 := t2) (d := dx) (fs := [(f, x)]) I1 sz1 grow un2 hok2 os2 bare2 upd_same (by rw [upd_ne ne, upd_same]) nd
        have eH : upd (del (upd (upd (upd H1 (hp.objs.size + 1) (exo (hp.objs.size + 1) C none)) dx (exd dx [(f, x)])) (hp.objs.size + 1) (exo (hp.objs.size + 1) C (some dx))) (hp.objs.size + 1)) dx (.xd [(f, x)]) = upd H1 dx (.xd [(f, x)]) := by
          funext b
          by_cases h1 : b = dx
          · subst h1; rw [upd_same, upd_same]
          · rw [upd_ne h1, upd_ne h1]
            by_cases h2 : b = hp.objs.size + 1
            · subst h2; rw [del_same, new1]
            · rw [del_ne h2, upd_ne h2, upd_ne h1, upd_ne h2]
        rw [eH] at J na
        exact ⟨rv2, hp.objs.size + 1, _, _, ⟨G, g2, d2, t2, os'⟩, _, .ref C, some dx, rfl, J, kG, ge, hoe, ⟨rfl, rfl, fun vs hv => by cases hv; rfl⟩, rfl, rfl, na, rfl, bare2, raises_own T.o.exC T.o.tyC, q1 dx nd⟩
end
section
variable {X : Cx} {C : EC} {E : XK} {p pos pos2 : Pos}
/-- raise c(e) -/
theorem x_rais {c f : Str} {Ca fI : Addr} {fd : FuncData} {e : Expr} {m : MP.E} (hc : X.calm = true) (tk : L2N.Takes X (wE E)) (T : XCl X.K X.mg c f Ca fI fd) (hr : Room 2 X.A) (hg : Gl X c) (ha : SA X C [e] (.cons m .nil)) (hn : ∀ g h, NX (evs C (.cons m .nil) g h)) (hs : notStar e = true) :
    XS X C (.Raise (some (.Call (.Name c p) [e] [] pos)) none pos2) (.rais c (.cons m .nil)) (wE E) := by
  refine PS_mono (L2N.ps_raise hc tk (x_made T hr hg ha hs)) fun D σ H ⟨w, g, at_, re, ok⟩ => ?_
  cases r : evs C (.cons m .nil) g w.h with
  | exc c us h' => exact absurd r (hn g w.h c us h')
  | stuck =>
    have z : ex C (.rais c (.cons m .nil)) g w.h = .stuck := by show (evs C (.cons m .nil) g w.h).bind _ = _; rw [r]; rfl
    rw [z] at ok
    rcases ok with ⟨_, _, z, _⟩ | ⟨_, _, _, z, _⟩ <;> cases z
  | ok vs h1 =>
    have z : ex C (.rais c (.cons m .nil)) g w.h = .exc c vs h1 := by show (evs C (.cons m .nil) g w.h).bind _ = _; rw [r]; rfl
    rw [z] at ok
    rcases ok with ⟨_, _, z, _⟩ | ⟨c', us, h', z, kk⟩
    · cases z
    · cases z
      refine ⟨w, g, at_, re, vs, h1, r, fun w1 e1 t1 R1 xs q1 => ?_⟩
      have hl : vs.length = 1 := evs_len r
      match vs, hl with
      | [v], _ =>
        cases q1 with
        | @cons x _ _ _ q1 q2 =>
          cases q2
          refine ⟨x, rfl, fun dx hd => ?_⟩
          obtain ⟨t2, R2⟩ := to_new (b := C.base) (o := .xd [(f, x)]) R1 hd
          exact kk ⟨w1.r, upd w1.H dx (.xd [(f, x)]), w1.h, w1.res⟩ e1 (t1.trans t2) R2 _ _ ⟨Ca, f, v, dx, x, T.g, rfl, T.fx, rfl, rfl, upd_same, t2.rv q1⟩
end
end MP

set_option maxHeartbeats 1000000
/-! MiniI4: a try over a call; its handler tells the error's word and field. -/
namespace MP
open PySem PySem.Spec PyProof.Rows L2
theorem rv_cut {K : PySem.W.Frag} {w' : Wd} {n : Nat} {x : V} {v : Val} (hb : below n v = true) (q : Rv K w' x v) (hl : ∀ d, Live ⟨w'.r.take n, w'.H, w'.h.take n, w'.res⟩ d → Live w' d) (ht : ∀ a, Live w' a → ∃ xs, w'.H a = some (.lst xs)) :
    Rv K ⟨w'.r.take n, w'.H, w'.h.take n, w'.res⟩ x v := by
  have pure_ : dle 60 v = true → Rv K ⟨w'.r.take n, w'.H, w'.h.take n, w'.res⟩ x v := fun e => Rp.mono (fun _ _ e _ => e) (fun d z => .inl (hl d z)) (fun _ _ e => e) ht (dle_rp (r' := w'.r.take n) 60 e q)
  cases v with
  | ref k =>
    cases q with
    | ref e => exact .ref (take_some.mpr ⟨of_decide_eq_true hb, e⟩)
  | _ => exact pure_ hb

/-- what isinstance asks of an error's class -/
structure XIs (K : PySem.W.Frag) (D : Addr) : Prop where
  c : (PySem.W.clsIn K D).isSome = true
  ga : PySem.W.findIn K (.ref D) "__getattribute__" = some (some (.builtin "BaseException.__getattribute__"))
  gg : PySem.W.findIn K (.ref D) "__getattr__" = some none
  su : PySem.W.subIn K (.ref D) (.type "BaseException") = some true
  hc : PySem.W.findIn K (.ref D) "__class__" = some (some (.builtin "object.__class__"))
  hn : PySem.W.specialIn K (.builtin "object.__class__") "__get__" = some (some (.builtin "getset_descriptor.__get__"))
  ht : PySem.W.takesIn K (.builtin "object.__class__") = some true
  hm : PySem.W.mroIn K D (.type "object") = some true
def rIsX (K : PySem.W.Frag) (cls : Value) (d : Option Addr) (a : Addr) : List V → Hp → VK → Prop := fun xs H Q => ∃ D dd fs b, cls = .ref D ∧ d = some dd ∧ H dd = some (.xd fs) ∧ XIs K D ∧
  ((∃ c cv, xs = [.ref a, c] ∧ (∀ u, RelV c u → u = cv) ∧ PySem.W.kitOne K (.ref D) cv = some b) ∨ (∃ q cs cvs, xs = [.ref a, .ref q] ∧ H q = some (.tup cs) ∧ (∀ us, Vals cs us → us = cvs) ∧ PySem.W.kitAny K (.ref D) cvs = some b)) ∧ Q (.bl b) H
theorem cr_isX {X : Cx} {a : Addr} {oe : Obj} {cls : Value} {d : Option Addr} {pn : List (Addr × Obj)} (hz : L2N.Zn cls d oe) (hf : ∃ vs, oe.data = .fields vs) : CallR (X.suite a ((a, oe) :: pn)) (.builtin "isinstance") (rIsX X.K cls d a) := by
  rintro pins s σ H xs us Q I r ⟨D, dd, fs, b, rfl, rfl, hd, T, e, q⟩
  obtain ⟨hget, _⟩ := I.pin (a, oe) (List.mem_append_left _ List.mem_cons_self)
  have ob : ObjOk X.prog X.w H s.heap dd (.xd fs) := I.hok dd _ hd
  obtain ⟨mA, hns, _⟩ := ob
  obtain ⟨od, ho, _⟩ := lookIn_ns hns
  have J : PySem.W.InstAt s.heap a oe D (some od) := by
    obtain ⟨vs, hv⟩ := hf
    exact ⟨hget, hz.1, (by unfold PySem.W.notCls; rw [hv] <;> rfl), (by rw [hz.2.1]; exact ho)⟩
  have Z := PySem.W.kitx_exc (x := a) (ox := oe) (od := some od) T.c T.ga T.gg T.su T.hc T.hn T.ht T.hm
  rcases e with ⟨c, cv, rfl, hcv, ek⟩ | ⟨qa, cs, cvs, rfl, hq, hcv, ek⟩
  · cases r with
    | cons r1 r2 =>
      cases r2 with
      | cons r2 r3 =>
        cases r3
        cases r1
        have z := hcv _ r2
        subst z
        exact PySem.W.kia_one Z I.kIn J ek (fun z => nomatch z) fun tk => ⟨.bl b, H, I.kept (t' := tk) (fun _ _ z => z), rfl, q⟩
  · cases r with
    | cons r1 r2 =>
      cases r2 with
      | cons r2 r3 =>
        cases r3
        cases r1
        cases r2
        obtain ⟨its, rv, pl, hz2⟩ := I.tuple (.inl (.inl hq))
        have z := hcv _ rv
        subst z
        obtain ⟨o, e1, e2, n, e3⟩ := pl
        obtain ⟨oc, odd, oda, osl⟩ := o
        dsimp only at e2 e3
        subst e2 e3
        exact PySem.W.kia_tup Z I.kIn J e1 ek (fun z => nomatch z) fun tk => ⟨.bl b, H, I.kept (t' := tk) (fun _ _ z => z), rfl, q⟩
/-- what the handler's shape asks: A the error that may come, f its field, R the clause's class, B1, B2 two others -/
structure XHd (K : PySem.W.Frag) (mg : Str → Option Value) (A f R B1 B2 : Str) (CA : Addr) : Prop where
  cl : ∃ fI fd, XCl K mg A f CA fI fd
  is : XIs K CA
  r : ∃ CR, mg R = some (.ref CR) ∧ PySem.W.exmOne K (.ref CA) (.ref CR) = some true
  k1 : PySem.W.kitOne K (.ref CA) (.ref CA) = some true
  k2 : PySem.W.kitOne K (.ref CA) (.type "ValueError") = some true
  k3 : ∃ D1 D2, mg B1 = some (.ref D1) ∧ mg B2 = some (.ref D2) ∧ PySem.W.kitAny K (.ref CA) [.ref D1, .ref D2] = some false
  db : (R == ("__debug__" : Str)) = false ∧ (B1 == ("__debug__" : Str)) = false ∧ (B2 == ("__debug__" : Str)) = false
/-- [tag, e.f], or as a tuple -/
def resE (tp : Bool) (tag : Str) (n f : Str) (r : Expr) : Prop := ∃ j p1 p2 p3 p4, (tp = false ∧ r = .List [.Constant (.str tag) j p1, .Attribute (.Name n p2) f p3] p4) ∨ ∃ k, tp = true ∧ r = .Tuple [.Constant (.str tag) j p1, .Attribute (.Name n p2) f p3] k p4
/-- what stands first: a text, or a text in a list -/
def othE (r : Expr) : Prop := (∃ z j p1 p2, r = .List [.Constant (.str z) j p1] p2) ∨ ∃ z j p1, r = .Constant (.str z) j p1
/-- a made object, seen from a world -/
theorem xd_keep {K : PySem.W.Frag} {b : Nat} {w w' : Wd} {dd : Addr} {fs : List (Str × V)} (R : Rel K w) (t : To K b w w') (h : w.H dd = some (.xd fs)) : w'.H dd = some (.xd fs) := t.keep dd _ h fun z => by
  obtain ⟨xs, e⟩ := R.lst dd z
  rw [h] at e; cases e
section
variable {Y : Cx} {K : PySem.W.Frag} {b : Nat}
def NewO (K : PySem.W.Frag) (b : Nat) (te : TE) : Prop := ∀ (w : Wd) (σ : L2.St) (Q : VK), Rel K w → (∀ w2 v, w2.h = w.h → To K b w w2 → Rel K w2 → Q v w2.H) → te σ w.H Q
def othT : Expr → TE
  | .List [.Constant (.str z) _ _] _ => tLst (tCons (tC (.str z)) tNil)
  | .Constant (.str z) _ _ => tC (.str z)
  | _ => fun _ _ _ => False
theorem oth_ok {r : Expr} (h : othE r) : PE Y r (othT r) ∧ NewO K b (othT r) := by
  rcases h with ⟨z, j, p1, p2, rfl⟩ | ⟨z, j, p1, rfl⟩
  · refine ⟨pe_lst (pa_cons pe_str pa_nil), fun w σ Q R k => ⟨by show 1 ≤ sizeLine; decide, fun p hp => ?_⟩⟩
    obtain ⟨t2, R2⟩ := to_new (b := b) (o := .lst [.str z]) R hp
    exact k ⟨w.r, upd w.H p (.lst [.str z]), w.h, w.res⟩ (.ref p) rfl t2 R2
  · exact ⟨pe_str, fun w σ Q R k => k w _ rfl (To.refl R) R⟩
end
section
variable {X : Cx} {n : Str} {i : Nat} {A f R B1 B2 : Str} {CA a : Addr} {oe : Obj} {cls : Value} {d : Option Addr} {pn : List (Addr × Obj)} {b : Nat}
def ResO (K : PySem.W.Frag) (b i : Nat) (CA : Addr) (f : Str) (tp : Bool) (tag : Str) (a : Addr) (cls : Value) (d : Option Addr) (te : TE) : Prop :=
  ∀ (w : Wd) (σ : L2.St) (dd : Addr) (x : V) (u : Val) (Q : VK), Rel K w → b ≤ w.h.length → cls = .ref CA → d = some dd → σ[i]? = some (some (.ref a)) → w.H dd = some (.xd [(f, x)]) → Rv K w x u → (∀ w2 v, w2.h = w.h → To K b w w2 → Rel K w2 → Rv K w2 v (if tp then .tup [.str tag, u] else .lst [.str tag, u]) → Q v w2.H) → te σ w.H Q
def resT (tp : Bool) (tag : Str) (a : Addr) (cls : Value) (d : Option Addr) (CA : Addr) (f : Str) (i : Nat) : TE :=
  if tp then tTup (tCons (tC (.str tag)) (tCons (tXf a cls d CA f (tVar i)) tNil)) else tLst (tCons (tC (.str tag)) (tCons (tXf a cls d CA f (tVar i)) tNil))
theorem res_pe {fI : Addr} {fd : FuncData} {tp : Bool} {tag : Str} {r : Expr} (T : XCl X.K X.mg A f CA fI fd) (hz : L2N.Zn cls d oe) (hf : ∃ vs, oe.data = .fields vs) (hi : X.N[i]? = some n) (hv : Vis X.env.scope n) (hd : (n == ("__debug__" : Str)) = false) (hcd : (n == ("__classdict__" : Str)) = false)
    (h : resE tp tag n f r) : PE (X.suite a ((a, oe) :: pn)) r (resT tp tag a cls d CA f i) := by
  have xc : XfC X.K CA := ⟨T.xf.1, T.xf.2.1, T.o.exC, T.xf.2.2⟩
  obtain ⟨j, p1, p2, p3, p4, ⟨rfl, rfl⟩ | ⟨k, rfl, rfl⟩⟩ := h
  · have pe1 := pe_xf (pos := p3) xc T.no ⟨hz.1, hz.2.1⟩ hf (pe_var (X := X.suite a ((a, oe) :: pn)) (pos := p2) hi hv hd hcd)
    exact pe_lst (pa_cons pe_str (pa_cons pe1 pa_nil))
  · have pe1 := pe_xf (pos := p3) xc T.no ⟨hz.1, hz.2.1⟩ hf (pe_var (X := X.suite a ((a, oe) :: pn)) (pos := p2) hi hv hd hcd)
    exact pe_tup (pa_cons pe_str (pa_cons pe1 pa_nil))
theorem res_ok {K : PySem.W.Frag} {tp : Bool} {tag : Str} : ResO K b i CA f tp tag a cls d (resT tp tag a cls d CA f i) := by
  rintro w σ dd x u Q R hb rfl rfl hs hd q k
  have lk : ([(f, x)] : List (Str × V)).lookup f = some x := by simp [List.lookup]
  have rl : RvL K w [V.str tag, x] [.str tag, u] := .cons (.str tag) (.cons q .nil)
  unfold resT
  cases tp with
  | true =>
    rw [if_pos rfl]
    refine ⟨.ref a, hs, rfl, rfl, dd, _, x, rfl, hd, lk, by show 2 ≤ sizeLine; decide, fun p hp => ?_⟩
    obtain ⟨w2, h1, h2, h3, h4, h5⟩ := new_tup (b := b) R hp rl
    rw [← h2]
    exact k w2 _ h1 h3 h4 h5
  | false =>
    rw [if_neg (by decide)]
    refine ⟨.ref a, hs, rfl, rfl, dd, _, x, rfl, hd, lk, by show 2 ≤ sizeLine; decide, fun p hp => ?_⟩
    obtain ⟨w2, h1, h2, h3, h4, h5⟩ := new_list (b := b) (bx := false) R hb hp rl (v := .lst [.str tag, u]) (h' := w.h) (by unfold fin; simp only; rw [if_pos (by show 2 ≤ SZ; decide)]; rfl)
    rw [← h2]
    exact k w2 _ h1 h3 h4 h5
def TestO (K : PySem.W.Frag) (b i : Nat) (CA : Addr) (f : Str) (a : Addr) (cls : Value) (d : Option Addr) (tt : TT) : Prop :=
  ∀ (w : Wd) (σ : L2.St) (dd : Addr) (x : V) (Q : Bool → Hp → Prop), Rel K w → cls = .ref CA → d = some dd → σ[i]? = some (some (.ref a)) → w.H dd = some (.xd [(f, x)]) → (∀ w2, w2.h = w.h → To K b w w2 → Rel K w2 → Q true w2.H) → tt σ w.H Q
/-- isinstance(n, A) and isinstance(n, ValueError) and not isinstance(n, (B1, B2)) -/
def isTst (n A B1 B2 : Str) (r : Expr) : Prop := ∃ p1 p2 p3 p4 p5 p6 p7 p8 p9 p10 p11 p12 p13 p14 p15 p16 k, r = .BoolOp .And [.Call (.Name "isinstance" p1) [.Name n p2, .Name A p3] [] p4, .Call (.Name "isinstance" p5) [.Name n p6, .Name "ValueError" p7] [] p8, .UnaryOp .Not (.Call (.Name "isinstance" p9) [.Name n p10, .Tuple [.Name B1 p11, .Name B2 p12] k p13] [] p14) p15] p16
def testT (K : PySem.W.Frag) (i : Nat) (CA D1 D2 : Addr) (a : Addr) (cls : Value) (d : Option Addr) : TT :=
  tAnd (tB (tCB (rIsX K cls d a) (tCons (tVar i) (tCons (tC (.ref CA)) tNil)))) (tAnd (tB (tCB (rIsX K cls d a) (tCons (tVar i) (tCons (tC (.ty "ValueError")) tNil)))) (tNot (tB (tCB (rIsX K cls d a) (tCons (tVar i) (tCons (tTup (tCons (tC (.ref D1)) (tCons (tC (.ref D2)) tNil))) tNil))))))
theorem test_ok {tst : Expr} {D1 D2 : Addr} (T : XHd X.K X.mg A f R B1 B2 CA) (hz : L2N.Zn cls d oe) (hf : ∃ vs, oe.data = .fields vs) (hi : X.N[i]? = some n) (hv : Vis X.env.scope n) (hd : (n == ("__debug__" : Str)) = false) (hcd : (n == ("__classdict__" : Str)) = false)
    (gI : Gl X "isinstance") (mI : X.mg "isinstance" = none) (gV : Gl X "ValueError") (mV : X.mg "ValueError" = none) (gA : Gl X A) (g1 : Gl X B1) (g2 : Gl X B2) (h : isTst n A B1 B2 tst)
    (m1 : X.mg B1 = some (.ref D1)) (m2 : X.mg B2 = some (.ref D2)) : PT (X.suite a ((a, oe) :: pn)) tst (testT X.K i CA D1 D2 a cls d) ∧ TestO X.K b i CA f a cls d (testT X.K i CA D1 D2 a cls d) := by
  obtain ⟨p1, p2, p3, p4, p5, p6, p7, p8, p9, p10, p11, p12, p13, p14, p15, p16, k, rfl⟩ := h
  obtain ⟨fI, fd, TC⟩ := T.cl
  obtain ⟨D1', D2', m1', m2', k3⟩ := T.k3
  rw [m1] at m1'; cases m1'
  rw [m2] at m2'; cases m2'
  have dA := TC.db.2.2
  have cr := cr_isX (X := X) (a := a) (pn := pn) hz hf
  have bI : bootBuiltins ("isinstance" : Str) = some (.builtin "isinstance") := by decide +kernel
  have bV : bootBuiltins ("ValueError" : Str) = some (.type "ValueError") := by decide +kernel
  have pn1 : ∀ p, PE (X.suite a ((a, oe) :: pn)) (.Name n p) (tVar i) := fun p => pe_var (X := X.suite a ((a, oe) :: pn)) hi hv hd hcd
  have pA : ∀ p, PE (X.suite a ((a, oe) :: pn)) (.Name A p) (tC (.ref CA)) := fun p => pe_glob (X := X.suite a ((a, oe) :: pn)) gA TC.g rfl dA
  have p1' : ∀ p, PE (X.suite a ((a, oe) :: pn)) (.Name B1 p) (tC (.ref D1)) := fun p => pe_glob (X := X.suite a ((a, oe) :: pn)) g1 m1 rfl T.db.2.1
  have p2' : ∀ p, PE (X.suite a ((a, oe) :: pn)) (.Name B2 p) (tC (.ref D2)) := fun p => pe_glob (X := X.suite a ((a, oe) :: pn)) g2 m2 rfl T.db.2.2
  have pV : ∀ p, PE (X.suite a ((a, oe) :: pn)) (.Name "ValueError" p) (tC (.ty "ValueError")) := fun p => pe_bltn (X := X.suite a ((a, oe) :: pn)) gV mV bV rfl (by decide) (by decide)
  have i1 := pe_callB (X := X.suite a ((a, oe) :: pn)) (p := p1) (pos := p4) cr gI mI bI (pa_cons (pn1 p2) (pa_cons (pA p3) pa_nil)) (by decide) (by decide)
  have i2 := pe_callB (X := X.suite a ((a, oe) :: pn)) (p := p5) (pos := p8) cr gI mI bI (pa_cons (pn1 p6) (pa_cons (pV p7) pa_nil)) (by decide) (by decide)
  have i3 := pe_callB (X := X.suite a ((a, oe) :: pn)) (p := p9) (pos := p14) cr gI mI bI (pa_cons (pn1 p10) (pa_cons (pe_tup (x1 := k) (pos := p13) (pa_cons (p1' p11) (pa_cons (p2' p12) pa_nil))) pa_nil)) (by decide) (by decide)
  refine ⟨(pw_and (pt_val i1) (pw_and (pt_val i2) (pw_and1 (pt_not (pt_val i3))))).pt, ?_⟩
  rintro w σ dd x Q R rfl rfl hs hx q
  refine ⟨_, hs, CA, dd, _, true, rfl, rfl, hx, T.is, .inl ⟨.ref CA, .ref CA, rfl, fun u hu => hu, T.k1⟩, true, rfl, ?_⟩
  dsimp only
  rw [if_pos rfl]
  refine ⟨_, hs, CA, dd, _, true, rfl, rfl, hx, T.is, .inl ⟨.ty "ValueError", .type "ValueError", rfl, fun u hu => hu, T.k2⟩, true, rfl, ?_⟩
  dsimp only
  rw [if_pos rfl]
  refine ⟨_, hs, by show 2 ≤ sizeLine; decide, fun p hp => ?_⟩
  obtain ⟨t2, R2⟩ := to_new (b := b) (o := .tup [.ref D1, .ref D2]) R hp
  refine ⟨CA, dd, _, false, rfl, rfl, xd_keep R t2 hx, T.is, .inr ⟨p, [.ref D1, .ref D2], [.ref D1, .ref D2], rfl, upd_same, fun us hu => ?_, k3⟩, false, rfl, ?_⟩
  · cases hu with
    | cons r1 r2 =>
      cases r2 with
      | cons r2 r3 => cases r3; cases r1; cases r2; rfl
  · exact q ⟨w.r, upd w.H p (.tup [.ref D1, .ref D2]), w.h, w.res⟩ rfl t2 R2
end
section
variable {X : Cx} {C : EC} {n y x : Str} {i t f k : Nat} {A fl R B1 B2 : Str} {CA : Addr} {fa : Addr} {fd : FuncData} {ps : List Str} {call : Nat → Nat → List Val → MH → Res Val} {p cpos epos np yp yp2 p1 p3 p4 pos' pos : Pos} {e : Expr} {es : List Expr} {mes : Es} {tag : Str} {tp : Bool} {o1 r1 tst : Expr}
theorem st_tri (T : XHd X.K X.mg A fl R B1 B2 CA) (hs : X.stack = X.env :: X.outer) (hf : X.env.frame = some X.env.locals) (hN : X.N.Nodup) (hi : X.N[i]? = some n) (hln : X.env.scope.names.lookup n = some .local) (ht : X.N[t]? = some y) (hly : X.env.scope.names.lookup y = some .local) (hit : i ≠ t)
    (hd : (n == ("__debug__" : Str)) = false) (hcd : (n == ("__classdict__" : Str)) = false) (gI : Gl X "isinstance") (mI : X.mg "isinstance" = none) (gV : Gl X "ValueError") (mV : X.mg "ValueError" = none) (gA : Gl X A) (gR : Gl X R) (g1 : Gl X B1) (g2 : Gl X B2)
    (F : FnG X.prog X.w X.K X.mg X.base (L2N.CX X.prog X.w) k fa fd ps (spX X.K X.mg call f)) (hC : C.call = call C.base) (hr : Room k X.A) (hgd : X.A.guards = some []) (hg : Gl X x) (hm : X.mg x = some (.ref fa)) (hk : PySem.W.keepIn X.K (.ref fa) = true) (hb : Binds X.K fd ps [])
    (ha : ∀ pn xe, PassesOwn (model X.prog X.w) X.A X.env xe → SA (X.tr pn xe) C (e :: es) mes) (hdb : (x == ("__debug__" : Str)) = false) (hns : notStar e = true) (hss : es.all notStar = true)
    (h1 : othE o1) (h2 : isTst n A B1 B2 tst) (h3 : resE tp tag n fl r1) :
    PS X (.Try [.Expr (.Call (.Name x p) (e :: es) [] cpos) epos] [.ExceptHandler (some (.Name R np)) (some n) [.Assign [.Name y yp] o1 p1, .If tst [.Assign [.Name y yp2] r1 p3] [] p4] pos'] [] [] pos) (tMS X.K C (.tri f mes i t A tag tp)) := by
  obtain ⟨CR, mR, exR⟩ := T.r
  obtain ⟨D1, D2, m1, m2, k3⟩ := id T.k3
  obtain ⟨fI, fdI, TC⟩ := T.cl
  have hv : Vis X.env.scope n := .inl hln
  have so1 : swapsWith o1 (some (.Name y yp)) p1.line X.env = pure false := by rcases h1 with ⟨z, j, a, b, rfl⟩ | ⟨z, j, a, rfl⟩ <;> rfl
  have sr1 : swapsWith r1 (some (.Name y yp2)) p3.line X.env = pure false := by obtain ⟨j, a1, a2, a3, a4, ⟨_, rfl⟩ | ⟨kk, _, rfl⟩⟩ := h3 <;> rfl
  refine PS_mono (L2N.ps_try_as (i := i) (c := .ref CR) (tb := fun W => tDrop fun σ H Q => tMA X.K C mes σ H fun vs H1 => spX X.K X.mg call f vs H1 Q fun cls d H' => W cls d σ H')
    (ts := fun a cls d => tSeq (tAsg (othT o1) (gName t)) (tIfS (testT X.K i CA D1 D2 a cls d) (tAsg (resT tp tag a cls d CA fl i) (gName t)) tNext)) (Wout := fun _ _ _ _ => False) hs hf hN hi hln ⟨gR, T.db.1, .inl mR⟩ (fun u s' ⟨_, _, _, _, _, _, _, _, _, _, _, _, _, _, _, _, z⟩ => z.elim)
    (fun W pn xe tk po => pss_one (ps_expr (x_call0 (X := X.tr pn xe) tk F hr hgd hg hm hk hb (ha pn xe po) hdb hns hss) rfl))
    (fun a oe cls d pn hz hfd => pss_cons (ps_set (X := X.suite a ((a, oe) :: pn)) hN ht (.inl hly) (oth_ok (K := X.K) (b := C.base) h1).1 so1 (.inr hly))
      (pss_one (ps_if (test_ok (b := C.base) T hz hfd hi hv hd hcd gI mI gV mV gA g1 g2 h2 m1 m2).1 (pss_one (ps_set (X := X.suite a ((a, oe) :: pn)) hN ht (.inl hly) (res_pe TC hz hfd hi hv hd hcd h3) sr1 (.inr hly))) pss_nil)))) ?_
  rintro D σ H ⟨w, g, at_, re, fl0, h', e0, kk⟩
  have ee : (match evs C mes g w.h with
    | .ok vs h1 => triEnd (C.call f vs h1) g h1 i t A tag tp
    | _ => .stuck) = .ok fl0 h' := e0
  clear e0
  cases r : evs C mes g w.h with
  | exc c us hq => rw [r] at ee; cases ee
  | stuck => rw [r] at ee; cases ee
  | ok vs hh1 =>
    rw [r] at ee
    dsimp only at ee
    refine ⟨w, g, at_, re, vs, hh1, r, fun w1 e1 t1 R1 xs q1 => ⟨C.base, w1, vs, at_.to t1 R1, q1, ?_⟩⟩
    have hbase : C.base ≤ w1.h.length := (at_.to t1 R1).hb
    rw [← hC]
    subst e1
    cases rc : C.call f vs w1.h with
    | stuck => rw [rc] at ee; cases ee
    | ok v hq =>
      rw [rc] at ee
      cases ee
      exact .inl ⟨v, _, rfl, fun w2 f2 t2 R2 x _ => kk w2 f2 (t1.trans t2) R2 σ (re.to (t1.trans t2))⟩
    | exc c us hq =>
      rw [rc] at ee
      unfold triEnd at ee
      split at ee
      · rename_i z; cases z
      · rename_i c' u hq' z
        simp only [Res.exc.injEq] at z
        obtain ⟨rfl, rfl, rfl⟩ := z
        split at ee
        · rename_i hcond
          obtain ⟨rfl, hbl, hig⟩ := hcond
          cases ee
          refine .inr ⟨_, _, _, rfl, fun w2 f2 t2 R2 cls d hx => ?_⟩
          obtain ⟨C', f', u', dd, x', mC, rfl, fx, us1, rfl, hdd, qx⟩ := hx
          rw [TC.g] at mC; cases mC
          rw [TC.fx] at fx; cases fx
          cases us1
          refine ⟨true, exR, fun _ ad had => ?_, fun z => nomatch z⟩
          obtain ⟨t3, R3, hl3⟩ := to_cut (b := C.base) R2 R1 t2 (t2.low _ (Nat.le_refl _) R1.low) hbase
          have qc := rv_cut hbl qx hl3 R2.lst
          have hil : i < σ.length := by rw [re.1]; exact hig
          refine (oth_ok (Y := X) (K := X.K) (b := C.base) h1).2 ⟨w2.r.take w1.h.length, w2.H, w2.h.take w1.h.length, w2.res⟩ _ _ R3 fun w4 v4 h4 t4 R4 => ?_
          have x4 := xd_keep R3 t4 hdd
          have s4 : ((σ.set i (some (.ref ad))).set t (some v4))[i]? = some (some (.ref ad)) := by
            rw [List.getElem?_set_ne (Ne.symm hit), List.getElem?_set_self hil]
          refine (test_ok (X := X) (a := ad) (oe := ⟨.ref CA, some dd, .fields #[.none, .none, .none], #[]⟩) (cls := .ref CA) (d := some dd) (pn := []) (b := C.base) T ⟨rfl, rfl, fun vs hv => by cases hv; rfl⟩ ⟨_, rfl⟩ hi hv hd hcd gI mI gV mV gA g1 g2 h2 m1 m2).2 w4 _ dd x' _ R4 rfl rfl s4 x4 fun w5 h5 t5 R5 => ?_
          rw [if_pos rfl]
          have x5 := xd_keep R4 t5 x4
          refine res_ok (f := fl) (i := i) (CA := CA) (a := ad) (cls := .ref CA) (d := some dd) (b := C.base) (K := X.K) w5 _ dd x' u _ R5 (Nat.le_trans (Nat.le_trans (Nat.le_trans hbase t3.len) t4.len) t5.len) rfl rfl s4 x5 (t5.rv (t4.rv qc)) fun w6 v6 h6 t6 R6 q6 => ?_
          have tt : To X.K C.base w w6 := (((t1.trans t3).trans t4).trans t5).trans t6
          refine kk w6 ?_ tt R6 _ ?_
          · rw [h6, h5, h4]
            show w2.h.take w1.h.length = _
            rw [f2]
          · have re' := re.to tt
            refine ⟨by simp [re'.1], fun j v ej => ?_⟩
            by_cases hj : i = j
            · subst hj
              by_cases hlen : i < (g.set t (some (if tp = true then Val.tup [.str tag, u] else .lst [.str tag, u]))).length
              · rw [List.getElem?_set_self hlen] at ej; cases ej
              · rw [List.getElem?_eq_none (by simpa using hlen)] at ej; cases ej
            · rw [List.getElem?_set_ne hj] at ej ⊢
              by_cases hjt : t = j
              · subst hjt
                by_cases hlt : t < g.length
                · rw [List.getElem?_set_self hlt] at ej
                  cases ej
                  have : t < σ.length := by rw [re.1]; exact hlt
                  refine ⟨v6, ?_, q6⟩
                  rw [List.getElem?_set_self (by simpa using this)]
                · rw [List.getElem?_eq_none (by simpa using hlt)] at ej; cases ej
              · rw [List.getElem?_set_ne hjt] at ej ⊢
                rw [List.getElem?_set_ne hjt, List.getElem?_set_ne hj]
                exact re'.2 j v ej
        · cases ee
      · cases ee
end
end MP

set_option maxHeartbeats 4000000
/-! MiniNX: what never raises, by its text. -/
namespace MP
open PySem
section
variable {α β : Type}
theorem NX.ok {a : α} {h : MH} : NX (.ok a h) := fun _ _ _ z => nomatch z
theorem NX.stuck : NX (.stuck : Res α) := fun _ _ _ z => nomatch z
theorem NX.bind {r : Res α} {f : α → MH → Res β} (h : NX r) (k : ∀ a h, NX (f a h)) : NX (r.bind f) := by
  intro c us h' z
  cases r with
  | ok a h1 => exact k a h1 c us h' z
  | exc c2 us2 h2 => exact h c2 us2 h2 rfl
  | stuck => cases z
theorem NX.ofO {o : Option α} {h : MH} : NX (ofO o h) := by cases o <;> intro _ _ _ z <;> cases z
theorem NX.fin {bx : Bool} {r : RV} {h : MH} : NX (fin bx r h) := by
  intro _ _ _ z
  unfold MP.fin at z
  split at z
  · cases z
  · split at z
    · split at z <;> cases z
    · cases z
theorem NX.wr {b n : Nat} {c : Cell} {ok : Bool} {h : MH} : NX (wr b n c ok h) := by
  intro _ _ _ z
  unfold MP.wr at z
  split at z <;> cases z
theorem NX.comp {f : Val → MH → Res (Option Val)} (k : ∀ x h, NX (f x h)) : ∀ (l : List Val) (h : MH), NX (compLoop f l h)
  | [], h => NX.ok
  | x :: xs, h => NX.bind (k x h) fun r h1 => NX.bind (NX.comp k xs h1) fun _ _ => NX.ok
theorem NX.comp2 {f : Val → MH → Res (List Val)} (k : ∀ x h, NX (f x h)) : ∀ (l : List Val) (h : MH), NX (compLoop2 f l h)
  | [], h => NX.ok
  | x :: xs, h => NX.bind (k x h) fun r h1 => NX.bind (NX.comp2 k xs h1) fun _ _ => NX.ok
theorem NX.forr {f : Val → ME → MH → Res Fl} (k : ∀ x g h, NX (f x g h)) : ∀ (l : List Val) (g : ME) (h : MH), NX (forLoop f l g h)
  | [], g, h => NX.ok
  | x :: xs, g, h => by
    unfold forLoop
    refine NX.bind (k x g h) fun r h1 => ?_
    cases r with
    | nx g => exact NX.forr k xs g h1
    | rt v => exact NX.ok
theorem NX.whl {t : ME → MH → Res Bool} {f : ME → MH → Res Fl} (kt : ∀ g h, NX (t g h)) (k : ∀ g h, NX (f g h)) : ∀ (n : Nat) (g : ME) (h : MH), NX (whlLoop t f n g h)
  | 0, g, h => NX.stuck
  | n + 1, g, h => by
    unfold whlLoop
    refine NX.bind (kt g h) fun b h1 => ?_
    split
    · refine NX.bind (k g h1) fun r h2 => ?_
      cases r with
      | nx g => exact NX.whl kt k n g h2
      | rt v => exact NX.ok
    · exact NX.ok
end
mutual
def nxE (ns : Nat → Bool) : E → Bool
  | .var _ => true
  | .cst _ => true
  | .glb _ _ => true
  | .bin _ _ a b => nxE ns a && nxE ns b
  | .neg a => nxE ns a
  | .not a => nxE ns a
  | .bop _ es => nxEs ns es
  | .cmp _ a b => nxE ns a && nxE ns b
  | .cmp2 _ _ a b c => nxE ns a && nxE ns b && nxE ns c
  | .isn _ a => nxE ns a
  | .isb _ _ a => nxE ns a
  | .ite c a b => nxE ns c && nxE ns a && nxE ns b
  | .call f es => ns f && nxEs ns es
  | .cb _ _ es => nxEs ns es
  | .isi _ a => nxE ns a
  | .idx a i => nxE ns a && nxE ns i
  | .slc _ a _ lo _ hi => nxE ns a && nxE ns lo && nxE ns hi
  | .nil => true
  | .tup es => nxEs ns es
  | .lst _ es => nxEs ns es
  | .dct0 => true
  | .comp _ elt _ it ifs _ => nxE ns elt && nxI ns it && nxEs ns ifs
  | .comp2 _ elt _ it ifs _ it1 ifs1 _ _ => nxE ns elt && nxI ns it && nxEs ns ifs && nxI ns it1 && nxEs ns ifs1
  | .rev _ a => nxE ns a
  | .app o e => nxE ns o && nxE ns e
  | .ext o e => nxE ns o && nxE ns e
  | .pop o => nxE ns o
  | .popAt o i => nxE ns o && nxE ns i
  | .cnt _ _ => true
  | .index _ _ => true
def nxEs (ns : Nat → Bool) : Es → Bool
  | .nil => true
  | .cons e es => nxE ns e && nxEs ns es
def nxI (ns : Nat → Bool) : It → Bool
  | .val e => nxE ns e
  | .rng e => nxE ns e
  | .rng2 a b => nxE ns a && nxE ns b
  | .enu e => nxE ns e
  | .zip a b => nxE ns a && nxE ns b
  | .enz a b => nxE ns a && nxE ns b
end
set_option hygiene false in
local macro_rules
  | `(tactic| exists "nxt", [$ts,*]) => `(tactic| repeat (first | exact NX.ok | exact NX.stuck | exact NX.ofO | exact NX.fin | exact NX.wr | (first $[| exact $ts]*) | refine NX.bind ?_ fun _ _ => ?_ | refine NX.comp (fun _ _ => ?_) _ _ | refine NX.comp2 (fun _ _ => ?_) _ _ | split))
section
variable {C : EC} {ns : Nat → Bool}
mutual
theorem nx_ev (hC : ∀ f vs h, ns f = true → NX (C.call f vs h)) : ∀ (e : E), nxE ns e = true → ∀ g h, NX (ev C e g h)
  | .var _, _, g, h => by simp only [ev]; exists "nxt", [NX.ok]
  | .cst _, _, g, h => by simp only [ev]; exists "nxt", [NX.ok]
  | .glb _ _, _, g, h => by simp only [ev]; exists "nxt", [NX.ok]
  | .bin _ _ a b, k, g, h => by
    simp only [nxE, Bool.and_eq_true] at k
    have i1 := nx_ev hC a k.1
    have i2 := nx_ev hC b k.2
    simp only [ev]; exists "nxt", [i1 _ _, i2 _ _]
  | .neg a, k, g, h => by
    have i1 := nx_ev hC a k
    simp only [ev]; exists "nxt", [i1 _ _]
  | .not a, k, g, h => by
    have i1 := nx_ev hC a k
    simp only [ev]; exists "nxt", [i1 _ _]
  | .bop an es, k, g, h => by
    simp only [ev]
    exact nx_evB hC an es k g h
  | .cmp _ a b, k, g, h => by
    simp only [nxE, Bool.and_eq_true] at k
    have i1 := nx_ev hC a k.1
    have i2 := nx_ev hC b k.2
    simp only [ev]; exists "nxt", [i1 _ _, i2 _ _]
  | .cmp2 _ _ a b c, k, g, h => by
    simp only [nxE, Bool.and_eq_true] at k
    have i1 := nx_ev hC a k.1.1
    have i2 := nx_ev hC b k.1.2
    have i3 := nx_ev hC c k.2
    simp only [ev]; exists "nxt", [i1 _ _, i2 _ _, i3 _ _]
  | .isn _ a, k, g, h => by
    have i1 := nx_ev hC a k
    simp only [ev]; exists "nxt", [i1 _ _]
  | .isb _ _ a, k, g, h => by
    have i1 := nx_ev hC a k
    simp only [ev]; exists "nxt", [i1 _ _]
  | .ite a b c, k, g, h => by
    simp only [nxE, Bool.and_eq_true] at k
    have i1 := nx_ev hC a k.1.1
    have i2 := nx_ev hC b k.1.2
    have i3 := nx_ev hC c k.2
    simp only [ev]; exists "nxt", [i1 _ _, i2 _ _, i3 _ _]
  | .call f es, k, g, h => by
    simp only [nxE, Bool.and_eq_true] at k
    have i1 := nx_evs hC es k.2
    simp only [ev]; exists "nxt", [i1 _ _, hC _ _ _ k.1]
  | .cb _ _ es, k, g, h => by
    have i1 := nx_evs hC es k
    simp only [ev]; exists "nxt", [i1 _ _]
  | .isi _ a, k, g, h => by
    have i1 := nx_ev hC a k
    simp only [ev]; exists "nxt", [i1 _ _]
  | .idx a b, k, g, h => by
    simp only [nxE, Bool.and_eq_true] at k
    have i1 := nx_ev hC a k.1
    have i2 := nx_ev hC b k.2
    simp only [ev]; exists "nxt", [i1 _ _, i2 _ _]
  | .slc _ a _ lo _ hi, k, g, h => by
    simp only [nxE, Bool.and_eq_true] at k
    have i1 := nx_ev hC a k.1.1
    have i2 := nx_ev hC lo k.1.2
    have i3 := nx_ev hC hi k.2
    simp only [ev]; exists "nxt", [i1 _ _, i2 _ _, i3 _ _]
  | .nil, _, g, h => by simp only [ev]; exists "nxt", [NX.ok]
  | .tup es, k, g, h => by
    have i1 := nx_evs hC es k
    simp only [ev]; exists "nxt", [i1 _ _]
  | .lst _ es, k, g, h => by
    have i1 := nx_evs hC es k
    simp only [ev]; exists "nxt", [i1 _ _]
  | .dct0, _, g, h => by simp only [ev]; exists "nxt", [NX.ok]
  | .comp _ elt _ it ifs _, k, g, h => by
    simp only [nxE, Bool.and_eq_true] at k
    have i1 := nx_ev hC elt k.1.1
    have i2 := nx_evI hC it k.1.2
    have i3 := nx_evF hC ifs k.2
    simp only [ev]; exists "nxt", [i1 _ _, i2 _ _, i3 _ _]
  | .comp2 _ elt _ it ifs _ it1 ifs1 _ _, k, g, h => by
    simp only [nxE, Bool.and_eq_true] at k
    have i1 := nx_ev hC elt k.1.1.1.1
    have i2 := nx_evI hC it k.1.1.1.2
    have i3 := nx_evF hC ifs k.1.1.2
    have i4 := nx_evI hC it1 k.1.2
    have i5 := nx_evF hC ifs1 k.2
    simp only [ev]; exists "nxt", [i1 _ _, i2 _ _, i3 _ _, i4 _ _, i5 _ _]
  | .rev _ a, k, g, h => by
    have i1 := nx_ev hC a k
    simp only [ev]; exists "nxt", [i1 _ _]
  | .app a b, k, g, h => by
    simp only [nxE, Bool.and_eq_true] at k
    have i1 := nx_ev hC a k.1
    have i2 := nx_ev hC b k.2
    simp only [ev]; exists "nxt", [i1 _ _, i2 _ _]
  | .ext a b, k, g, h => by
    simp only [nxE, Bool.and_eq_true] at k
    have i1 := nx_ev hC a k.1
    have i2 := nx_ev hC b k.2
    simp only [ev]; exists "nxt", [i1 _ _, i2 _ _]
  | .pop a, k, g, h => by
    have i1 := nx_ev hC a k
    simp only [ev]; exists "nxt", [i1 _ _]
  | .popAt a b, k, g, h => by
    simp only [nxE, Bool.and_eq_true] at k
    have i1 := nx_ev hC a k.1
    have i2 := nx_ev hC b k.2
    simp only [ev]; exists "nxt", [i1 _ _, i2 _ _]
  | .cnt _ _, _, g, h => by simp only [ev]; exists "nxt", [NX.ok]
  | .index _ _, _, g, h => by simp only [ev]; exists "nxt", [NX.ok]
theorem nx_evs (hC : ∀ f vs h, ns f = true → NX (C.call f vs h)) : ∀ (e : Es), nxEs ns e = true → ∀ g h, NX (evs C e g h)
  | .nil, _, g, h => by simp only [evs]; exists "nxt", [NX.ok]
  | .cons e es, k, g, h => by
    simp only [nxEs, Bool.and_eq_true] at k
    have i1 := nx_ev hC e k.1
    have i2 := nx_evs hC es k.2
    simp only [evs]; exists "nxt", [i1 _ _, i2 _ _]
theorem nx_evB (hC : ∀ f vs h, ns f = true → NX (C.call f vs h)) : ∀ (an : Bool) (e : Es), nxEs ns e = true → ∀ g h, NX (evB C an e g h)
  | an, .nil, _, g, h => by simp only [evB]; exists "nxt", [NX.ok]
  | an, .cons e .nil, k, g, h => by
    simp only [nxEs, Bool.and_eq_true] at k
    have i1 := nx_ev hC e k.1
    simp only [evB]; exact i1 _ _
  | an, .cons e (.cons e2 es), k, g, h => by
    simp only [nxEs, Bool.and_eq_true] at k
    have i1 := nx_ev hC e k.1
    have i2 := nx_evB hC an (.cons e2 es) (by simp only [nxEs, Bool.and_eq_true]; exact k.2)
    simp only [evB]; exists "nxt", [i1 _ _, i2 _ _]
theorem nx_evF (hC : ∀ f vs h, ns f = true → NX (C.call f vs h)) : ∀ (e : Es), nxEs ns e = true → ∀ g h, NX (evF C e g h)
  | .nil, _, g, h => by simp only [evF]; exists "nxt", [NX.ok]
  | .cons e es, k, g, h => by
    simp only [nxEs, Bool.and_eq_true] at k
    have i1 := nx_ev hC e k.1
    simp only [evF]; exists "nxt", [i1 _ _]
theorem nx_evI (hC : ∀ f vs h, ns f = true → NX (C.call f vs h)) : ∀ (e : It), nxI ns e = true → ∀ g h, NX (evI C e g h)
  | .val a, k, g, h => by
    have i1 := nx_ev hC a k
    simp only [evI]; exists "nxt", [i1 _ _]
  | .rng a, k, g, h => by
    have i1 := nx_ev hC a k
    simp only [evI]; exists "nxt", [i1 _ _]
  | .rng2 a b, k, g, h => by
    simp only [nxI, Bool.and_eq_true] at k
    have i1 := nx_ev hC a k.1
    have i2 := nx_ev hC b k.2
    simp only [evI]; exists "nxt", [i1 _ _, i2 _ _]
  | .enu a, k, g, h => by
    have i1 := nx_ev hC a k
    simp only [evI]; exists "nxt", [i1 _ _]
  | .zip a b, k, g, h => by
    simp only [nxI, Bool.and_eq_true] at k
    have i1 := nx_ev hC a k.1
    have i2 := nx_ev hC b k.2
    simp only [evI]; exists "nxt", [i1 _ _, i2 _ _]
  | .enz a b, k, g, h => by
    simp only [nxI, Bool.and_eq_true] at k
    have i1 := nx_ev hC a k.1
    have i2 := nx_ev hC b k.2
    simp only [evI]; exists "nxt", [i1 _ _, i2 _ _]
end
end
mutual
def nxS (ns : Nat → Bool) : S → Bool
  | .asg _ e => nxE ns e
  | .par _ es => nxEs ns es
  | .sset o i e => nxE ns o && nxE ns i && nxE ns e
  | .augn _ _ e => nxE ns e
  | .augs a i _ e => nxE ns a && nxE ns i && nxE ns e
  | .iff c a b => nxE ns c && nxSs ns a && nxSs ns b
  | .whl c b => nxE ns c && nxSs ns b
  | .forr _ it b => nxI ns it && nxSs ns b
  | .ret e => nxE ns e
  | .ex e => nxE ns e
  | .pass => true
  | .frz _ => true
  | .rais _ _ => false
  | .tri _ _ _ _ _ _ _ => true
def nxSs (ns : Nat → Bool) : Ss → Bool
  | .nil => true
  | .cons s ss => nxS ns s && nxSs ns ss
end
section
variable {C : EC} {ns : Nat → Bool}
mutual
theorem nx_ex (hC : ∀ f vs h, ns f = true → NX (C.call f vs h)) : ∀ (s : S), nxS ns s = true → ∀ g h, NX (ex C s g h)
  | .asg _ e, k, g, h => by
    have i1 := nx_ev hC e k
    simp only [ex]; exists "nxt", [i1 _ _]
  | .par _ es, k, g, h => by
    have i1 := nx_evs hC es k
    simp only [ex]; exists "nxt", [i1 _ _]
  | .sset a b c, k, g, h => by
    simp only [nxS, Bool.and_eq_true] at k
    have i1 := nx_ev hC a k.1.1
    have i2 := nx_ev hC b k.1.2
    have i3 := nx_ev hC c k.2
    simp only [ex]; exists "nxt", [i1 _ _, i2 _ _, i3 _ _]
  | .augn _ _ e, k, g, h => by
    have i1 := nx_ev hC e k
    simp only [ex]; exists "nxt", [i1 _ _]
  | .augs a b _ c, k, g, h => by
    simp only [nxS, Bool.and_eq_true] at k
    have i1 := nx_ev hC a k.1.1
    have i2 := nx_ev hC b k.1.2
    have i3 := nx_ev hC c k.2
    simp only [ex]; exists "nxt", [i1 _ _, i2 _ _, i3 _ _]
  | .iff c a b, k, g, h => by
    simp only [nxS, Bool.and_eq_true] at k
    have i1 := nx_ev hC c k.1.1
    have i2 := nx_exs hC a k.1.2
    have i3 := nx_exs hC b k.2
    simp only [ex]; exists "nxt", [i1 _ _, i2 _ _, i3 _ _]
  | .whl c b, k, g, h => by
    simp only [nxS, Bool.and_eq_true] at k
    have i1 := nx_ev hC c k.1
    have i2 := nx_exs hC b k.2
    simp only [ex]
    exact NX.whl (fun g h => NX.bind (i1 g h) fun _ _ => NX.ofO) (fun g h => i2 g h) _ _ _
  | .forr _ it b, k, g, h => by
    simp only [nxS, Bool.and_eq_true] at k
    have i1 := nx_evI hC it k.1
    have i2 := nx_exs hC b k.2
    simp only [ex]
    exact NX.bind (i1 g h) fun l h => NX.forr (fun x g h => NX.bind NX.ofO fun g h => i2 g h) _ _ _
  | .ret e, k, g, h => by
    have i1 := nx_ev hC e k
    simp only [ex]; exists "nxt", [i1 _ _]
  | .ex e, k, g, h => by
    have i1 := nx_ev hC e k
    simp only [ex]; exists "nxt", [i1 _ _]
  | .pass, _, g, h => by simp only [ex]; exists "nxt", [NX.ok]
  | .frz _, _, g, h => by simp only [ex]; exists "nxt", [NX.ok]
  | .rais _ _, k, g, h => by cases k
  | .tri f es i t cl tg tp, _, g, h => by
    intro c us h' z
    have z : (match evs C es g h with
      | .ok vs h1 => triEnd (C.call f vs h1) g h1 i t cl tg tp
      | _ => .stuck) = .exc c us h' := z
    split at z
    · unfold triEnd at z
      split at z
      · cases z
      · split at z <;> cases z
      · cases z
    · cases z
theorem nx_exs (hC : ∀ f vs h, ns f = true → NX (C.call f vs h)) : ∀ (s : Ss), nxSs ns s = true → ∀ g h, NX (exs C s g h)
  | .nil, _, g, h => by simp only [exs]; exists "nxt", [NX.ok]
  | .cons s ss, k, g, h => by
    simp only [nxSs, Bool.and_eq_true] at k
    have i1 := nx_ex hC s k.1
    have i2 := nx_exs hC ss k.2
    simp only [exs]
    refine NX.bind (i1 g h) fun r h => ?_
    cases r with
    | nx g => exact i2 g h
    | rt v => exact NX.ok
end
theorem nx_call {P : Nat → Option MDef} {fuel : Nat} (hP : ∀ f D, ns f = true → P f = some D → nxSs ns D.body = true) : ∀ (d base f : Nat) (args : List Val) (h : MH), ns f = true → NX (callM P fuel d base f args h)
  | 0, base, f, args, h, _ => by unfold callM; exact NX.stuck
  | d + 1, base, f, args, h, hf => by
    unfold callM
    cases e : P f with
    | none => exact NX.stuck
    | some D =>
      dsimp only
      split
      · refine NX.bind (nx_exs (fun f vs h q => nx_call hP d _ f vs h q) D.body (hP f D hf e) _ _) fun fl h => ?_
        intro c us h' z
        unfold fnEnd at z
        dsimp only at z
        (repeat' split at z) <;> cases z
      · exact NX.stuck
end
end MP

set_option maxHeartbeats 4000000
/-! MiniJ: the check that a Python tree is what a mini text says; its soundness. -/
namespace MP
open PySem PySem.Spec PyProof.Rows L2
/-- what a text says of errors: the defs that may raise, the classes (with their field), the handlers -/
structure XI where
  xs : List Nat
  nsl : List Nat
  cls : List (Str × Str)
  hds : List (Str × Str × Str × Str × Str)
def XI.no : XI := ⟨[], [], [], []⟩
structure KC where
  N : List Str
  nm : Nat → Option Str
  gl : Str → Option Int
  xi : XI
def visB (sc : Scope) (x : Str) : Bool := match sc.names.lookup x with
  | some .local => true
  | some .cell => true
  | some .free => true
  | _ => false
def locB (fb : Str → Bool) (sc : Scope) (x : Str) : Bool := match sc.names.lookup x with
  | some .local => true
  | some .cell => fb x
  | _ => false
def glB (sc : Scope) (x : Str) : Bool := match sc.names.lookup x with
  | some .globalImplicit => true
  | _ => false
def dbg (x : Str) : Bool := (x == ("__debug__" : Str)) || (x == ("__classdict__" : Str)) || (x == ("__name__" : Str))
def okC : Val → Const → Bool
  | .non, .none => true
  | .bl b, .bool c => b == c
  | .int i, .int j => i == j
  | .str s, .str t => s == t
  | _, _ => false
def biN : Bi → Str
  | .len => "len"
  | .abs => "abs"
  | .min2 => "min"
  | .max2 => "max"
  | .max3 => "max"
  | .min3 => "min"
  | .minL => "min"
  | .maxL => "max"
  | .sum => "sum"
  | .all => "all"
  | .any => "any"
  | .sorted => "sorted"
  | .tuple => "tuple"
  | .list => "list"
  | .repr => "repr"
  | .int => "int"
  | .str => "str"
  | .zipl => "list"
  | .rngl => "list"
  | .sset => "sorted"
  | .sortD => "sorted"
def biOk : Bi → Bool
  | .zipl => false
  | .rngl => false
  | .sset => false
  | _ => true
def isZl : Bi → Bool
  | .zipl => true
  | _ => false
def isRg : Bi → Bool
  | .rngl => true
  | _ => false
def isSs : Bi → Bool
  | .sset => true
  | _ => false
def bNames : List Str := ["len", "abs", "min", "max", "sum", "all", "any", "sorted", "tuple", "list", "repr", "int", "str", "bool", "dict", "range", "zip", "enumerate", "isinstance", "set", "ValueError"]
def notSet : Expr → Bool
  | .Set _ _ _ => false
  | _ => true
mutual
def okTg (kc : KC) (fb : Str → Bool) (sc : Scope) : Tg → Expr → Bool
  | .nm i, .Name x _ => decide (kc.N[i]? = some x) && locB fb sc x
  | .tp ts, .Tuple es _ _ => okTgs kc fb sc ts es
  | _, _ => false
def okTgs (kc : KC) (fb : Str → Bool) (sc : Scope) : List Tg → List Expr → Bool
  | [], [] => true
  | t :: ts, e :: es => okTg kc fb sc t e && notStar e && okTgs kc fb sc ts es
  | _, _ => false
end
def ownOf (kc : KC) (own : List Nat) : List (Str × Nat) := own.map fun i => (kc.N.getD i "", i)
def noIte : E → Bool
  | .ite _ _ _ => false
  | _ => true
def listB : List Str → List Str → Bool
  | [], [] => true
  | x :: xs, y :: ys => x == y && listB xs ys
  | _, _ => false
mutual
def okE (kc : KC) (fb : Str → Bool) (sc : Scope) : E → Expr → Bool
  | .var i, .Name x _ => decide (kc.N[i]? = some x) && visB sc x && !dbg x
  | .cst v, .Constant c _ _ => okC v c
  | .glb y v, .Name x _ => x == y && glB sc x && !dbg x && (match v, kc.gl x with | .int i, some j => i == j | _, _ => false)
  | .bin o _ a b, .BinOp a' op b' _ => decide (op = opOf o) && okE kc fb sc a a' && okE kc fb sc b b'
  | .neg a, .UnaryOp .USub a' _ => okE kc fb sc a a'
  | .not a, .UnaryOp .Not a' _ => okE kc fb sc a a' && noIte a
  | .bop an es, .BoolOp op es' _ => decide (op = bOp an) && okB kc fb sc es es'
  | .cmp o a b, .Compare a' [op] [b'] _ => decide (op = copOf o) && !behindInMarks op b' && okE kc fb sc a a' && okE kc fb sc b b'
  | .cmp2 o p a b c, .Compare a' [op, op2] [b', c'] _ => decide (op = copOf o) && decide (op2 = copOf p) && !lastMarks [op, op2] [b', c'] && okE kc fb sc a a' && okE kc fb sc b b' && okE kc fb sc c c'
  | .isn ng a, .Compare a' [op] [.Constant .none _ _] _ => decide (op = if ng then .IsNot else .Is) && okE kc fb sc a a'
  | .isb ng b a, .Compare a' [op] [.Constant (.bool c) _ _] _ => decide (op = if ng then .IsNot else .Is) && b == c && okE kc fb sc a a'
  | .rev _ a, .Subscript a' (.Slice none none (some (.UnaryOp .USub (.Constant (.int 1) _ _) _)) _) _ => okE kc fb sc a a'
  | .ite c a b, .IfExp c' a' b' _ => okE kc fb sc c c' && noIte c && okE kc fb sc a a' && okE kc fb sc b b'
  | .call f es, .Call (.Name x _) es' [] _ => decide (kc.nm f = some x) && glB sc x && !dbg x && okEs kc fb sc es es'
  | .cb f _ es, .Call (.Name x _) es' [] _ => if isZl f then decide (x = ("list" : Str)) && glB sc x && (match es' with | [.Call (.Name y _) [e, e2] [] _] => decide (y = ("zip" : Str)) && glB sc y && okEs kc fb sc es [e, e2] | _ => false) else if isRg f then decide (x = ("list" : Str)) && glB sc x && (match es' with | [.Call (.Name y _) [e] [] _] => decide (y = ("range" : Str)) && glB sc y && okEs kc fb sc es [e] | _ => false) else if isSs f then decide (x = ("sorted" : Str)) && glB sc x && (match es' with | [.Call (.Name y _) [e] [] _] => decide (y = ("set" : Str)) && glB sc y && okEs kc fb sc es [e] | _ => false) else decide (x = biN f) && biOk f && glB sc x && !es'.isEmpty && okEs kc fb sc es es'
  | .isi ts a, .Call (.Name x _) [a', .Name y _] [] _ => decide (x = ("isinstance" : Str)) && glB sc x && (match ts with | [t] => decide (y = (tyn t : Str)) | _ => false) && glB sc y && okE kc fb sc a a' && notStar a'
  | .isi ts a, .Call (.Name x _) [a', .Tuple [.Name y _, .Name z _] _ _] [] _ => decide (x = ("isinstance" : Str)) && glB sc x && (match ts with | [t, u] => decide (y = (tyn t : Str)) && decide (z = (tyn u : Str)) | _ => false) && glB sc y && glB sc z && okE kc fb sc a a' && notStar a'
  | .slc _ a hl lo hh hi, .Subscript a' (.Slice lo' hi' none _) _ => okE kc fb sc a a' && (match hl, lo' with | true, some e => okE kc fb sc lo e | false, none => true | _, _ => false) && (match hh, hi' with | true, some e => okE kc fb sc hi e | false, none => true | _, _ => false)
  | .idx a i, .Subscript a' i' _ => okE kc fb sc a a' && okE kc fb sc i i' && notSlice i'
  | .tup es, .Tuple es' _ _ => okEs kc fb sc es es' && decide (esLen es ≤ 1000)
  | .lst _ es, .List es' _ => okEs kc fb sc es es'
  | .dct0, .Dict [] [] _ => true
  | .comp _ elt t it ifs own, .ListComp elt' [⟨tg, iter, ifs', asy⟩] scope _ => decide (asy = 0) && blkC kc.N sc scope (ownOf kc own) && okI kc fb sc it tg iter && notSet iter && (tIdx t).all (fun i => own.contains i) &&
      okTg kc (fun x => scope.names.lookup x == some .cell) (relS scope sc) t tg && okF kc (fun x => scope.names.lookup x == some .cell) (relS scope sc) ifs ifs' && okE kc (fun x => scope.names.lookup x == some .cell) (relS scope sc) elt elt'
  | .comp2 _ elt t it ifs t1 it1 ifs1 own own1, .ListComp elt' [⟨tg, iter, ifs', asy⟩, ⟨tg1, iter1, ifs1', asy1⟩] scope _ => decide (asy = 0) && decide (asy1 = 0) && blkC kc.N sc scope (ownOf kc own) && okI kc fb sc it tg iter && notSet iter && notSet iter1 && (tIdx t).all (fun i => own.contains i) && (tIdx t1).all (fun i => own1.contains i) && own1.all (fun i => own.contains i) &&
      okTg kc (fun x => scope.names.lookup x == some .cell) (relS scope sc) t tg && okF kc (fun x => scope.names.lookup x == some .cell) (relS scope sc) ifs ifs' &&
      okI kc (fun x => scope.names.lookup x == some .cell) (relS scope sc) it1 tg1 iter1 && okTg kc (fun x => scope.names.lookup x == some .cell) (relS scope sc) t1 tg1 && okF kc (fun x => scope.names.lookup x == some .cell) (relS scope sc) ifs1 ifs1' && okE kc (fun x => scope.names.lookup x == some .cell) (relS scope sc) elt elt'
  | .app o e, .Call (.Attribute o' m apos) [e'] [] pos => decide (m = ("append" : Str)) && plainBase o' && (apos.endLine == pos.line) && okE kc fb sc o o' && okE kc fb sc e e' && notStar e'
  | .ext o e, .Call (.Attribute o' m apos) [e'] [] pos => decide (m = ("extend" : Str)) && plainBase o' && (apos.endLine == pos.line) && okE kc fb sc o o' && okE kc fb sc e e' && notStar e'
  | .popAt o e, .Call (.Attribute o' m apos) [e'] [] pos => decide (m = ("pop" : Str)) && plainBase o' && (apos.endLine == pos.line) && okE kc fb sc o o' && okE kc fb sc e e' && notStar e'
  | _, _ => false
def okEs (kc : KC) (fb : Str → Bool) (sc : Scope) : Es → List Expr → Bool
  | .nil, [] => true
  | .cons m ms, e :: es => okE kc fb sc m e && notStar e && okEs kc fb sc ms es
  | _, _ => false
def okB (kc : KC) (fb : Str → Bool) (sc : Scope) : Es → List Expr → Bool
  | .cons m .nil, [e] => okE kc fb sc m e && noIte m
  | .cons m ms, e :: es => okE kc fb sc m e && noIte m && okB kc fb sc ms es
  | _, _ => false
def okF (kc : KC) (fb : Str → Bool) (sc : Scope) : Es → List Expr → Bool
  | .nil, [] => true
  | .cons m .nil, [e] => okE kc fb sc m e && noIte m
  | _, _ => false
def okI (kc : KC) (fb : Str → Bool) (sc : Scope) : MP.It → Expr → Expr → Bool
  | .val m, _, e => okE kc fb sc m e
  | .rng m, _, .Call (.Name x _) [e] [] _ => decide (x = ("range" : Str)) && glB sc x && okE kc fb sc m e && notStar e
  | .rng2 m m2, _, .Call (.Name x _) [e, e2] [] _ => decide (x = ("range" : Str)) && glB sc x && okE kc fb sc m e && notStar e && okE kc fb sc m2 e2 && notStar e2
  | .zip m m2, .Tuple _ _ _, .Call (.Name x _) [e, e2] [] _ => decide (x = ("zip" : Str)) && glB sc x && okE kc fb sc m e && notStar e && okE kc fb sc m2 e2 && notStar e2
  | .enu m, .Tuple _ _ _, .Call (.Name x _) [e] [] _ => decide (x = ("enumerate" : Str)) && glB sc x && okE kc fb sc m e && notStar e
  | .enz m m2, .Tuple _ _ _, .Call (.Name x _) [.Call (.Name y _) [e, e2] [] _] [] _ => decide (x = ("enumerate" : Str)) && glB sc x && decide (y = ("zip" : Str)) && glB sc y && okE kc fb sc m e && notStar e && okE kc fb sc m2 e2 && notStar e2
  | _, _, _ => false
end
end MP

set_option maxHeartbeats 4000000
/-! MiniK: the check is sound: expressions. -/
namespace MP
open PySem PySem.Spec PyProof.Rows L2
structure Good (kc : KC) (call : Nat → Nat → List Val → MH → Res Val) (C : EC) (fb : Str → Bool) (sc : Scope) (X : Cx) : Prop where
  hN : X.N = kc.N
  nd : kc.N.Nodup
  hsc : X.env.scope = sc
  knd : sc.kind = .function
  calm : X.calm = true
  hu : X.A.units + 65 < cLine
  hfb : ∀ x, fb x = true → X.fn x = true
  bn : ∀ x ∈ bNames, X.mg x = none
  gl : ∀ x j, kc.gl x = some j → ∃ t, X.mg x = some (.int j t)
  fn : ∀ f x, kc.nm f = some x → ∃ k fa fd ps, FnG X.prog X.w X.K X.mg X.base CX0 k fa fd ps (spF X.K call f) ∧ Room k X.A ∧ X.mg x = some (.ref fa) ∧ PySem.W.keepIn X.K (.ref fa) = true ∧ Binds X.K fd ps []
  hC : C.call = call C.base
  hp : PassesOwn (model X.prog X.w) X.A X.env X.xe
  gd : X.A.guards = some []
  sm : ∃ o, X.base.get? sysModules = some o
/-- .. with what statements ask of errors -/
structure GoodS (kc : KC) (call : Nat → Nat → List Val → MH → Res Val) (C : EC) (fb : Str → Bool) (sc : Scope) (X : Cx) : Prop extends Good kc call C fb sc X where
  stk : X.stack = X.env :: X.outer
  frm : X.env.frame = some X.env.locals
  xc : ∀ c f, (c, f) ∈ kc.xi.cls → ∃ CA fI fd, XCl X.K X.mg c f CA fI fd
  xh : ∀ A f R B1 B2, (A, f, R, B1, B2) ∈ kc.xi.hds → ∃ CA, XHd X.K X.mg A f R B1 B2 CA
  xf : ∀ f x, kc.nm f = some x → f ∈ kc.xi.xs → ∃ k fa fd ps, FnG X.prog X.w X.K X.mg X.base (L2N.CX X.prog X.w) k fa fd ps (spX X.K X.mg call f) ∧ Room k X.A ∧ X.mg x = some (.ref fa) ∧ PySem.W.keepIn X.K (.ref fa) = true ∧ Binds X.K fd ps []
  r2 : Room 2 X.A
section
variable {kc : KC} {call : Nat → Nat → List Val → MH → Res Val} {C : EC} {fb : Str → Bool} {sc : Scope} {X : Cx}
theorem Good.gl' (G : Good kc call C fb sc X) {x : Str} (h : glB sc x = true) : Gl X x := by
  show X.env.scope.names.lookup x = some .globalImplicit
  rw [G.hsc]
  unfold glB at h
  split at h
  · assumption
  · cases h
theorem Good.vis (G : Good kc call C fb sc X) {x : Str} (h : visB sc x = true) : Vis X.env.scope x := by
  rw [G.hsc]
  unfold visB at h
  split at h
  · exact .inl (by assumption)
  · exact .inr (.inl (by assumption))
  · exact .inr (.inr (by assumption))
  · cases h
theorem Good.loc (G : Good kc call C fb sc X) {x : Str} (h : locB fb sc x = true) : Loc X.env.scope x ∧ (X.fn x = true ∨ X.env.scope.names.lookup x = some .local) := by
  rw [G.hsc]
  unfold locB at h
  split at h
  · rename_i e; exact ⟨.inl e, .inr e⟩
  · rename_i e; exact ⟨.inr e, .inl (G.hfb x h)⟩
  · cases h
theorem Good.tr (G : Good kc call C fb sc X) {pn : List (Addr × Obj)} {xe : Value → Shared → Prop} (po : PassesOwn (model X.prog X.w) X.A X.env xe) : Good kc call C fb sc (X.tr pn xe) where
  hN := G.hN
  nd := G.nd
  hsc := G.hsc
  knd := G.knd
  calm := G.calm
  hu := G.hu
  hfb := G.hfb
  bn := G.bn
  gl := G.gl
  fn := G.fn
  hC := G.hC
  hp := po
  gd := G.gd
  sm := G.sm
theorem Good.blk (G : Good kc call C fb sc X) {s : Shared} {H : Hp} {D : Addr} {cl : List (Str × Addr)} {fp : List Addr} {scope : Scope} (hk : scope.kind = .function) :
    Good kc call C (fun x => scope.names.lookup x == some .cell) (relS scope sc) (X.blk s H scope (compEnvC scope cl D X.env) fp) where
  hN := G.hN
  nd := G.nd
  hsc := by rw [← G.hsc]; rfl
  knd := hk
  calm := G.calm
  hu := G.hu
  hfb := fun x h => h
  bn := G.bn
  gl := G.gl
  fn := G.fn
  hC := G.hC
  hp := PassesOwn.never
  gd := G.gd
  sm := G.sm
theorem notdbg {x : Str} (h : dbg x = false) : (x == ("__debug__" : Str)) = false ∧ (x == ("__classdict__" : Str)) = false ∧ x ≠ "__name__" := by
  unfold dbg at h
  rw [Bool.or_eq_false_iff, Bool.or_eq_false_iff] at h
  exact ⟨h.1.1, h.1.2, fun e => by rw [e] at h; simp at h⟩
theorem c_ok {v : Val} {c : Const} {k : Nat} {p : Pos} (h : okC v c = true) : SE X C (.Constant c k p) (.cst v) := by
  unfold okC at h
  split at h
  · exact s_cst pe_non fun _ => .non
  · rw [beq_iff_eq] at h; subst h; exact s_cst pe_bl fun _ => .bl _
  · rw [beq_iff_eq] at h; subst h; exact s_cst pe_int fun _ => .int _
  · rw [beq_iff_eq] at h; subst h; exact s_cst pe_str fun _ => .str _
  · cases h
theorem blkC_kind {N : List Str} {sc scope : Scope} {own : List (Str × Nat)} (h : blkC N sc scope own = true) : scope.kind = .function := (blkOk_by h).kind
theorem ownOf_snd (kc : KC) : ∀ own : List Nat, (ownOf kc own).map (·.2) = own
  | [] => rfl
  | i :: own => by show i :: (ownOf kc own).map (·.2) = i :: own; rw [ownOf_snd kc own]
theorem set_plain {iter : Expr} {env : Env} (h : notSet iter = true) : ∀ x, foldedSetIterable iter env x = pure x := by
  intro x
  cases iter <;> first | rfl | cases h
mutual
theorem okTg_s (G : Good kc call C fb sc X) : ∀ (t : Tg) (e : Expr), okTg kc fb sc t e = true → PG X e (gM X.K t)
  | .nm i, e, h => by
    cases e with
    | Name x p =>
      simp only [okTg, Bool.and_eq_true, decide_eq_true_eq] at h
      obtain ⟨h1, h2⟩ := G.loc h.2
      exact g_nm (by rw [G.hN]; exact G.nd) (by rw [G.hN]; exact h.1) h1 h2
    | _ => simp [okTg] at h
  | .tp ts, e, h => by
    cases e with
    | Tuple es k p =>
      simp only [okTg] at h
      obtain ⟨a, b, c⟩ := okTgs_s G ts es h
      exact g_tp G.calm a b c
    | _ => simp [okTg] at h
theorem okTgs_s (G : Good kc call C fb sc X) : ∀ (ts : List Tg) (es : List Expr), okTgs kc fb sc ts es = true → PGs X es (gMs X.K ts) ∧ es.length = ts.length ∧ es.all notStar = true
  | [], es, h => by
    cases es with
    | nil => exact ⟨g_nil, rfl, rfl⟩
    | cons e es => simp [okTgs] at h
  | t :: ts, es, h => by
    cases es with
    | nil => simp [okTgs] at h
    | cons e es =>
      simp only [okTgs, Bool.and_eq_true] at h
      obtain ⟨a, b, c⟩ := okTgs_s G ts es h.2
      exact ⟨g_cons (okTg_s G t e h.1.1) a h.1.2, by simp [b], by rw [List.all_cons, h.1.2, c]; rfl⟩
end
/-- what stands for a mini expression: its value, and its test -/
structure Both (X : Cx) (C : EC) (e : Expr) (m : E) : Prop where
  se : SE X C e m
  st : noIte m = true → ST X C e m
theorem Both.pl {e : Expr} {m : E} (h : SE X C e m) (p : plainTest e = true) : Both X C e m := ⟨h, fun _ => t_plain h p⟩
theorem bi_ok (G : Good kc call C fb sc X) {f : Bi} {bx : Bool} {x : Str} {p pos : Pos} {e : Expr} {es : List Expr} {mes : Es} (hx : x = biN f) (hf : biOk f = true) (hg : Gl X x) (ha : SA X C (e :: es) mes) (hs : notStar e = true) (hss : es.all notStar = true) :
    SE X C (.Call (.Name x p) (e :: es) [] pos) (.cb f bx mes) := by
  subst hx
  cases f with
  | len => exact s_cbB cb_len hg (G.bn _ (by decide)) (by decide +kernel) ha (by decide) (by decide) hs hss
  | abs => exact s_cbB cb_abs hg (G.bn _ (by decide)) (by decide +kernel) ha (by decide) (by decide) hs hss
  | min2 => exact s_cbB (cb_min2 G.calm) hg (G.bn _ (by decide)) (by decide +kernel) ha (by decide) (by decide) hs hss
  | max2 => exact s_cbB (cb_max2 G.calm) hg (G.bn _ (by decide)) (by decide +kernel) ha (by decide) (by decide) hs hss
  | max3 => exact s_cbB (cb_max3 G.calm) hg (G.bn _ (by decide)) (by decide +kernel) ha (by decide) (by decide) hs hss
  | min3 => exact s_cbB (cb_min3 G.calm) hg (G.bn _ (by decide)) (by decide +kernel) ha (by decide) (by decide) hs hss
  | minL => exact s_cbB (cb_minL G.calm G.hu) hg (G.bn _ (by decide)) (by decide +kernel) ha (by decide) (by decide) hs hss
  | maxL => exact s_cbB (cb_maxL G.calm) hg (G.bn _ (by decide)) (by decide +kernel) ha (by decide) (by decide) hs hss
  | sum => exact s_cbB (cb_sum G.calm) hg (G.bn _ (by decide)) (by decide +kernel) ha (by decide) (by decide) hs hss
  | all => exact s_cbB (cb_all G.calm) hg (G.bn _ (by decide)) (by decide +kernel) ha (by decide) (by decide) hs hss
  | any => exact s_cbB (cb_any G.calm) hg (G.bn _ (by decide)) (by decide +kernel) ha (by decide) (by decide) hs hss
  | sorted => exact s_cbB cb_sorted hg (G.bn _ (by decide)) (by decide +kernel) ha (by decide) (by decide) hs hss
  | tuple => exact s_cbT cb_tuple hg (G.bn _ (by decide)) (by decide +kernel) ha (by decide) (by decide) hs hss
  | list => exact s_cbT cb_list hg (G.bn _ (by decide)) (by decide +kernel) ha (by decide) (by decide) hs hss
  | repr => exact s_cbB (cb_repr G.gd G.hu G.sm) hg (G.bn _ (by decide)) (by decide +kernel) ha (by decide) (by decide) hs hss
  | int => exact s_cbT cb_int hg (G.bn _ (by decide)) (by decide +kernel) ha (by decide) (by decide) hs hss
  | str => exact s_cbT cb_str hg (G.bn _ (by decide)) (by decide +kernel) ha (by decide) (by decide) hs hss
  | zipl => cases hf
  | rngl => cases hf
  | sset => cases hf
  | sortD => exact s_cbB (cb_sortD G.hu) hg (G.bn _ (by decide)) (by decide +kernel) ha (by decide) (by decide) hs hss
theorem ty_mem (t : Ty) : (tyn t : Str) ∈ bNames := by cases t <;> decide
abbrev PE_ (kc : KC) (call : Nat → Nat → List Val → MH → Res Val) (C : EC) (m : E) : Prop := ∀ (e : Expr) (fb : Str → Bool) (sc : Scope) (X : Cx), Good kc call C fb sc X → okE kc fb sc m e = true → Both X C e m
abbrev PEs_ (kc : KC) (call : Nat → Nat → List Val → MH → Res Val) (C : EC) (m : Es) : Prop := ∀ (es : List Expr) (fb : Str → Bool) (sc : Scope) (X : Cx), Good kc call C fb sc X → okEs kc fb sc m es = true → SA X C es m ∧ es.all notStar = true
abbrev PB_ (kc : KC) (call : Nat → Nat → List Val → MH → Res Val) (C : EC) (m : Es) : Prop := ∀ (an : Bool) (es : List Expr) (fb : Str → Bool) (sc : Scope) (X : Cx), Good kc call C fb sc X → okB kc fb sc m es = true → SB X C an es m ∧ SW X C an es m
abbrev PF_ (kc : KC) (call : Nat → Nat → List Val → MH → Res Val) (C : EC) (m : Es) : Prop := ∀ (es : List Expr) (fb : Str → Bool) (sc : Scope) (X : Cx), Good kc call C fb sc X → okF kc fb sc m es = true → PTs X es (tMF X.K C m)
abbrev PI_ (kc : KC) (call : Nat → Nat → List Val → MH → Res Val) (C : EC) (m : MP.It) : Prop := ∀ (tg iter : Expr) (fb : Str → Bool) (sc : Scope) (X : Cx), Good kc call C fb sc X → okI kc fb sc m tg iter = true → PI X tg iter (tMI X.K C m)
theorem okE_s_var (i : Nat)  : PE_ kc call C (.var i) := fun e fb sc X G h => by
    cases e with
    | Name x p =>
      simp only [okE, Bool.and_eq_true, decide_eq_true_eq, Bool.not_eq_true'] at h
      obtain ⟨h1, h2, _⟩ := notdbg h.2
      exact .pl (s_var (by rw [G.hN]; exact h.1.1) (G.vis h.1.2) h1 h2) rfl
    | _ => simp [okE] at h
theorem okE_s_cst (v : Val)  : PE_ kc call C (.cst v) := fun e fb sc X G h => by
    cases e with
    | Constant c k p =>
      simp only [okE] at h
      exact .pl (c_ok h) rfl
    | _ => simp [okE] at h
theorem okE_s_glb (y : Str) (v : Val)  : PE_ kc call C (.glb y v) := fun e fb sc X G h => by
    cases e with
    | Name x p =>
      simp only [okE, Bool.and_eq_true, Bool.not_eq_true'] at h
      obtain ⟨⟨⟨h0, h1⟩, h2⟩, h3⟩ := h
      split at h3
      · rename_i i j hj
        rw [beq_iff_eq] at h3
        subst h3
        obtain ⟨t, ht⟩ := G.gl x i hj
        exact .pl (s_glb (y := .int i) (pe_glob (G.gl' h1) ht ⟨t, rfl⟩ (notdbg h2).1) fun _ => .int _) rfl
      · cases h3
    | _ => simp [okE] at h
theorem okE_s_bin (o : Bop) (bx : Bool) (a : E) (b : E) (ih_okE_s_a : PE_ kc call C a) (ih_okE_s_b : PE_ kc call C b) : PE_ kc call C (.bin o bx a b) := fun e fb sc X G h => by
    cases e with
    | BinOp a' op b' p =>
      simp only [okE, Bool.and_eq_true, decide_eq_true_eq] at h
      obtain ⟨⟨rfl, h1⟩, h2⟩ := h
      exact .pl (s_bin (ih_okE_s_a a' fb sc X G h1).se (ih_okE_s_b b' fb sc X G h2).se) rfl
    | _ => simp [okE] at h
theorem okE_s_neg (a : E) (ih_okE_s_a : PE_ kc call C a) : PE_ kc call C (.neg a) := fun e fb sc X G h => by
    cases e with
    | UnaryOp op a' p =>
      cases op with
      | USub => simp only [okE] at h; exact .pl (s_neg (ih_okE_s_a a' fb sc X G h).se) rfl
      | _ => simp [okE] at h
    | _ => simp [okE] at h
theorem okE_s_not (a : E) (ih_okE_s_a : PE_ kc call C a) : PE_ kc call C (.not a) := fun e fb sc X G h => by
    cases e with
    | UnaryOp op a' p =>
      cases op with
      | Not =>
        simp only [okE, Bool.and_eq_true] at h
        have k := ih_okE_s_a a' fb sc X G h.1
        exact ⟨s_not k.se, fun _ => t_not (k.st h.2)⟩
      | _ => simp [okE] at h
    | _ => simp [okE] at h
theorem okE_s_bop (an : Bool) (es : Es) (ih_okB_s_es : PB_ kc call C es) : PE_ kc call C (.bop an es) := fun e fb sc X G h => by
    cases e with
    | BoolOp op es' p =>
      simp only [okE, Bool.and_eq_true, decide_eq_true_eq] at h
      obtain ⟨rfl, h1⟩ := h
      obtain ⟨k1, k2⟩ := ih_okB_s_es an es' fb sc X G h1
      exact ⟨s_bop k1, fun _ => t_bop k2⟩
    | _ => simp [okE] at h
theorem okE_s_cmp (o : Cop) (a : E) (b : E) (ih_okE_s_a : PE_ kc call C a) (ih_okE_s_b : PE_ kc call C b) : PE_ kc call C (.cmp o a b) := fun e fb sc X G h => by
    cases e with
    | Compare a' ops bs p =>
      cases ops with
      | nil => simp [okE] at h
      | cons op ops =>
        cases ops with
        | cons _ _ => simp [okE] at h
        | nil =>
          cases bs with
          | nil => simp [okE] at h
          | cons b' bs =>
            cases bs with
            | cons _ _ => simp [okE] at h
            | nil =>
              simp only [okE, Bool.and_eq_true, decide_eq_true_eq, Bool.not_eq_true'] at h
              obtain ⟨⟨⟨rfl, h1⟩, h2⟩, h3⟩ := h
              have ka := (ih_okE_s_a a' fb sc X G h2).se
              have kb := (ih_okE_s_b b' fb sc X G h3).se
              exact ⟨s_cmp G.hu ka kb h1, fun _ => t_cmp G.hu ka kb h1⟩
    | _ => simp [okE] at h
theorem okE_s_cmp2 (o : Cop) (p : Cop) (a : E) (b : E) (c : E) (ih_okE_s_a : PE_ kc call C a) (ih_okE_s_b : PE_ kc call C b) (ih_okE_s_c : PE_ kc call C c) : PE_ kc call C (.cmp2 o p a b c) := fun e fb sc X G h => by
    cases e with
    | Compare a' ops bs pp =>
      rcases ops with _ | ⟨op, _ | ⟨op2, _ | ⟨_, _⟩⟩⟩ <;> try (simp [okE] at h; done)
      rcases bs with _ | ⟨b', _ | ⟨c', _ | ⟨_, _⟩⟩⟩ <;> try (simp [okE] at h; done)
      simp only [okE, Bool.and_eq_true, decide_eq_true_eq, Bool.not_eq_true'] at h
      obtain ⟨⟨⟨⟨⟨rfl, rfl⟩, h1⟩, h2⟩, h3⟩, h4⟩ := h
      have ka := (ih_okE_s_a a' fb sc X G h2).se
      have kb := (ih_okE_s_b b' fb sc X G h3).se
      have kc' := (ih_okE_s_c c' fb sc X G h4).se
      exact ⟨s_cmp2 G.hu ka kb kc' h1, fun _ => t_cmp2 G.hu ka kb kc' h1⟩
    | _ => simp [okE] at h
theorem okE_s_isn (ng : Bool) (a : E) (ih_okE_s_a : PE_ kc call C a) : PE_ kc call C (.isn ng a) := fun e fb sc X G h => by
    cases e with
    | Compare a' ops bs pp =>
      rcases ops with _ | ⟨op, _ | ⟨_, _⟩⟩ <;> try (simp [okE] at h; done)
      rcases bs with _ | ⟨b', _ | ⟨_, _⟩⟩ <;> try (simp [okE] at h; done)
      cases b' with
      | Constant c k p =>
        cases c with
        | none =>
          simp only [okE, Bool.and_eq_true, decide_eq_true_eq] at h
          obtain ⟨rfl, h1⟩ := h
          have ka := (ih_okE_s_a a' fb sc X G h1).se
          cases ng with
          | true => exact ⟨s_isnn ka, fun _ => t_isnn ka⟩
          | false => exact ⟨s_isn ka, fun _ => t_isn ka⟩
        | _ => simp [okE] at h
      | _ => simp [okE] at h
    | _ => simp [okE] at h
theorem okE_s_isb (ng : Bool) (c : Bool) (a : E) (ih_okE_s_a : PE_ kc call C a) : PE_ kc call C (.isb ng c a) := fun e fb sc X G h => by
    cases e with
    | Compare a' ops bs pp =>
      rcases ops with _ | ⟨op, _ | ⟨_, _⟩⟩ <;> try (simp [okE] at h; done)
      rcases bs with _ | ⟨b', _ | ⟨_, _⟩⟩ <;> try (simp [okE] at h; done)
      cases b' with
      | Constant c' k p =>
        cases c' with
        | bool c' =>
          simp only [okE, Bool.and_eq_true, decide_eq_true_eq, beq_iff_eq] at h
          obtain ⟨⟨rfl, rfl⟩, h1⟩ := h
          have ka := (ih_okE_s_a a' fb sc X G h1).se
          cases ng with
          | true => exact ⟨s_isb1 ka, fun _ => t_isb1 ka⟩
          | false => exact ⟨s_isb0 ka, fun _ => t_isb0 ka⟩
        | _ => simp [okE] at h
      | _ => simp [okE] at h
    | _ => simp [okE] at h
theorem okE_s_ite (c : E) (a : E) (b : E) (ih_okE_s_c : PE_ kc call C c) (ih_okE_s_a : PE_ kc call C a) (ih_okE_s_b : PE_ kc call C b) : PE_ kc call C (.ite c a b) := fun e fb sc X G h => by
    cases e with
    | IfExp c' a' b' p =>
      simp only [okE, Bool.and_eq_true] at h
      obtain ⟨⟨⟨h1, h2⟩, h3⟩, h4⟩ := h
      exact ⟨s_ite ((ih_okE_s_c c' fb sc X G h1).st h2) (ih_okE_s_a a' fb sc X G h3).se (ih_okE_s_b b' fb sc X G h4).se, fun h => by cases h⟩
    | _ => simp [okE] at h
theorem okE_s_call (f : Nat) (es : Es) (ih_okEs_s_es : PEs_ kc call C es) : PE_ kc call C (.call f es) := fun e fb sc X G h => by
    cases e with
    | Call fn args kws p =>
      cases fn with
      | Name x px =>
        cases kws with
        | cons _ _ => simp [okE] at h
        | nil =>
          simp only [okE, Bool.and_eq_true, decide_eq_true_eq, Bool.not_eq_true'] at h
          obtain ⟨⟨⟨h1, h2⟩, h3⟩, h4⟩ := h
          obtain ⟨k, fa, fd, ps, F, hr, hm, hk, hb⟩ := G.fn f x h1
          obtain ⟨a, b⟩ := ih_okEs_s_es args fb sc X G h4
          refine .pl ?_ rfl
          cases args with
          | nil =>
            cases es with
            | nil => exact s_call0 F G.hC hr G.gd (G.gl' h2) hm hk hb (notdbg h3).1
            | cons _ _ => simp [okEs] at h4
          | cons e0 args =>
            rw [List.all_cons, Bool.and_eq_true] at b
            exact s_call F G.hC hr G.gd (G.gl' h2) hm hk hb a (notdbg h3).1 b.1 b.2
      | _ => simp [okE] at h
    | _ => simp [okE] at h
theorem okE_s_cb (f : Bi) (bx : Bool) (es : Es) (ih_okEs_s_es : PEs_ kc call C es) : PE_ kc call C (.cb f bx es) := fun e fb sc X G h => by
    cases e with
    | Call fn args kws p =>
      cases fn with
      | Name x px =>
        cases kws with
        | cons _ _ => simp [okE] at h
        | nil =>
          simp only [okE] at h
          by_cases hz : isZl f = true
          · rw [if_pos hz] at h
            cases f with
            | zipl =>
              simp only [Bool.and_eq_true, decide_eq_true_eq] at h
              obtain ⟨⟨rfl, h2⟩, h3⟩ := h
              split at h3
              · simp only [Bool.and_eq_true, decide_eq_true_eq] at h3
                obtain ⟨⟨rfl, h4⟩, h5⟩ := h3
                obtain ⟨a, b⟩ := ih_okEs_s_es _ fb sc X G h5
                simp only [List.all_cons, List.all_nil, Bool.and_eq_true] at b
                exact .pl (s_lz G.calm (G.gl' h2) (G.bn _ (by decide)) (G.gl' h4) (G.bn _ (by decide)) a b.1 b.2.1) rfl
              · cases h3
            | _ => cases hz
          rw [if_neg hz] at h
          by_cases hz2 : isRg f = true
          · rw [if_pos hz2] at h
            cases f with
            | rngl =>
              simp only [Bool.and_eq_true, decide_eq_true_eq] at h
              obtain ⟨⟨rfl, h2⟩, h3⟩ := h
              split at h3
              · simp only [Bool.and_eq_true, decide_eq_true_eq] at h3
                obtain ⟨⟨rfl, h4⟩, h5⟩ := h3
                obtain ⟨a, b⟩ := ih_okEs_s_es _ fb sc X G h5
                simp only [List.all_cons, List.all_nil, Bool.and_eq_true] at b
                exact .pl (s_rg G.calm (G.gl' h2) (G.bn _ (by decide)) (G.gl' h4) (G.bn _ (by decide)) a b.1) rfl
              · cases h3
            | _ => cases hz2
          rw [if_neg hz2] at h
          by_cases hz3 : isSs f = true
          · rw [if_pos hz3] at h
            cases f with
            | sset =>
              simp only [Bool.and_eq_true, decide_eq_true_eq] at h
              obtain ⟨⟨rfl, h2⟩, h3⟩ := h
              split at h3
              · simp only [Bool.and_eq_true, decide_eq_true_eq] at h3
                obtain ⟨⟨rfl, h4⟩, h5⟩ := h3
                obtain ⟨a, b⟩ := ih_okEs_s_es _ fb sc X G h5
                simp only [List.all_cons, List.all_nil, Bool.and_eq_true] at b
                exact .pl (s_sset G.calm (G.gl' h2) (G.bn _ (by decide)) (G.gl' h4) (G.bn _ (by decide)) a b.1) rfl
              · cases h3
            | _ => cases hz3
          rw [if_neg hz3] at h
          simp only [Bool.and_eq_true, decide_eq_true_eq, Bool.not_eq_true'] at h
          obtain ⟨⟨⟨⟨h1, h2⟩, h3⟩, h4⟩, h5⟩ := h
          obtain ⟨a, b⟩ := ih_okEs_s_es args fb sc X G h5
          cases args with
          | nil => simp at h4
          | cons e0 args =>
            rw [List.all_cons, Bool.and_eq_true] at b
            exact .pl (bi_ok G h1 h2 (G.gl' h3) a b.1 b.2) rfl
      | _ => simp [okE] at h
    | _ => simp [okE] at h
theorem okE_s_isi (ts : List Ty) (a : E) (ih_okE_s_a : PE_ kc call C a) : PE_ kc call C (.isi ts a) := fun e fb sc X G h => by
    cases e with
    | Call fn args kws p =>
      cases fn with
      | Name x px =>
        rcases kws with _ | ⟨_, _⟩ <;> try (simp [okE] at h; done)
        rcases args with _ | ⟨a', _ | ⟨y', _ | ⟨_, _⟩⟩⟩ <;> try (simp [okE] at h; done)
        cases y' with
        | Name y py =>
          simp only [okE, Bool.and_eq_true, decide_eq_true_eq] at h
          obtain ⟨⟨⟨⟨⟨rfl, h2⟩, h3⟩, h4⟩, h5⟩, h6⟩ := h
          rcases ts with _ | ⟨t, _ | ⟨_, _⟩⟩
          · cases h3
          case cons.cons => cases h3
          have h3 : y = (tyn t : Str) := by simpa using h3
          subst h3
          exact .pl (s_isi1 (G.gl' h2) (G.bn _ (by decide)) (G.gl' h4) (G.bn _ (ty_mem t)) (ih_okE_s_a a' fb sc X G h5).se h6) rfl
        | Tuple es k pt =>
          rcases es with _ | ⟨e1, _ | ⟨e2, _ | ⟨_, _⟩⟩⟩
          · simp [okE] at h
          · simp [okE] at h
          · cases e1 with
            | Name y py =>
              cases e2 with
              | Name z pz =>
                simp only [okE, Bool.and_eq_true, decide_eq_true_eq] at h
                obtain ⟨⟨⟨⟨⟨⟨rfl, h2⟩, h3⟩, h4⟩, h4'⟩, h5⟩, h6⟩ := h
                rcases ts with _ | ⟨t, _ | ⟨t2, _ | ⟨_, _⟩⟩⟩
                · cases h3
                · cases h3
                case cons.cons.cons => cases h3
                have h3 : y = (tyn t : Str) ∧ z = (tyn t2 : Str) := by simpa using h3
                obtain ⟨rfl, rfl⟩ := h3
                exact .pl (s_isi2 (G.gl' h2) (G.bn _ (by decide)) (G.gl' h4) (G.bn _ (ty_mem t)) (G.gl' h4') (G.bn _ (ty_mem t2)) (ih_okE_s_a a' fb sc X G h5).se h6) rfl
              | _ => simp [okE] at h
            | _ => simp [okE] at h
          · simp [okE] at h
        | _ => simp [okE] at h
      | _ => simp [okE] at h
    | _ => simp [okE] at h
theorem okE_s_idx (a : E) (i : E) (ih_okE_s_a : PE_ kc call C a) (ih_okE_s_i : PE_ kc call C i) : PE_ kc call C (.idx a i) := fun e fb sc X G h => by
    cases e with
    | Subscript a' i' p =>
      simp only [okE, Bool.and_eq_true] at h
      exact .pl (s_idx (ih_okE_s_a a' fb sc X G h.1.1).se (ih_okE_s_i i' fb sc X G h.1.2).se (plainIx h.2)) rfl
    | _ => simp [okE] at h
theorem okE_s_slc (bx : Bool) (a : E) (hl : Bool) (lo : E) (hh : Bool) (hi : E) (ih_okE_s_lo : PE_ kc call C lo) (ih_okE_s_hi : PE_ kc call C hi) (ih_okE_s_a : PE_ kc call C a) : PE_ kc call C (.slc bx a hl lo hh hi) := fun e fb sc X G h => by
    cases e with
    | Subscript a' i' p =>
      cases i' with
      | Slice lo' hi' st p2 =>
        cases st with
        | some _ => simp [okE] at h
        | none =>
          simp only [okE, Bool.and_eq_true] at h
          obtain ⟨⟨h1, h2⟩, h3⟩ := h
          have p1 : PO X lo' (tMO X.K C hl lo) := by
            split at h2
            · exact o_some (ih_okE_s_lo _ fb sc X G h2).se
            · exact o_none
            · cases h2
          have p2 : PO X hi' (tMO X.K C hh hi) := by
            split at h3
            · exact o_some (ih_okE_s_hi _ fb sc X G h3).se
            · exact o_none
            · cases h3
          exact .pl (s_slc (ih_okE_s_a a' fb sc X G h1).se p1 p2) rfl
      | _ => simp [okE] at h
    | _ => simp [okE] at h
theorem okE_s_nil   : PE_ kc call C (.nil) := fun e fb sc X G h => by cases e <;> simp [okE] at h
theorem okE_s_tup (es : Es) (ih_okEs_s_es : PEs_ kc call C es) : PE_ kc call C (.tup es) := fun e fb sc X G h => by
    cases e with
    | Tuple es' k p =>
      simp only [okE, Bool.and_eq_true, decide_eq_true_eq] at h
      exact .pl (s_tup (ih_okEs_s_es es' fb sc X G h.1).1 h.2) rfl
    | _ => simp [okE] at h
theorem okE_s_lst (bx : Bool) (es : Es) (ih_okEs_s_es : PEs_ kc call C es) : PE_ kc call C (.lst bx es) := fun e fb sc X G h => by
    cases e with
    | List es' p =>
      simp only [okE] at h
      exact .pl (s_lst (ih_okEs_s_es es' fb sc X G h).1) rfl
    | _ => simp [okE] at h
theorem okE_s_dct0   : PE_ kc call C (.dct0) := fun e fb sc X G h => by
    cases e with
    | Dict ks vs p =>
      rcases ks with _ | ⟨_, _⟩ <;> rcases vs with _ | ⟨_, _⟩ <;> try (simp [okE] at h; done)
      exact .pl s_dct0 rfl
    | _ => simp [okE] at h
theorem okE_s_comp (bx : Bool) (elt : E) (t : Tg) (it : MP.It) (ifs : Es) (own : List Nat) (ih_okI_s_it : PI_ kc call C it) (ih_okF_s_ifs : PF_ kc call C ifs) (ih_okE_s_elt : PE_ kc call C elt) : PE_ kc call C (.comp bx elt t it ifs own) := fun e fb sc X G h => by
    cases e with
    | ListComp elt' gens scope p =>
      rcases gens with _ | ⟨⟨tg, iter, ifs', asy⟩, _ | ⟨_, _⟩⟩ <;> try (simp [okE] at h; done)
      simp only [okE, Bool.and_eq_true, decide_eq_true_eq] at h
      obtain ⟨⟨⟨⟨⟨⟨⟨rfl, h1⟩, h2⟩, h3⟩, h4⟩, h5⟩, h6⟩, h7⟩ := h
      have hk := blkC_kind h1
      have hb := blkOk_by h1
      refine .pl ?_ rfl
      have key := s_lc (X := X) (C := C) (pos := p) (bx := bx) (ows := ownOf kc own) G.calm (by rw [G.hN]; exact G.nd) (ih_okI_s_it tg iter fb sc X G h2) (by rw [G.hN, G.hsc]; exact hb)
        (fun s H D cl fp => okTg_s (G.blk hk) t tg h5) (fun s H D cl fp => ih_okF_s_ifs ifs' _ _ _ (G.blk hk) h6) (fun s H D cl fp => (ih_okE_s_elt elt' _ _ _ (G.blk hk) h7).se) (set_plain h3)
        (fun i hi => by rw [ownOf_snd]; simpa using List.all_eq_true.mp h4 i hi)
      rw [ownOf_snd] at key
      exact key
    | _ => simp [okE] at h
theorem okE_s_comp2 (bx : Bool) (elt : E) (t : Tg) (it : MP.It) (ifs : Es) (t1 : Tg) (it1 : MP.It) (ifs1 : Es) (own own1 : List Nat) (iI : PI_ kc call C it) (iF : PF_ kc call C ifs) (iI1 : PI_ kc call C it1) (iF1 : PF_ kc call C ifs1) (iE : PE_ kc call C elt) : PE_ kc call C (.comp2 bx elt t it ifs t1 it1 ifs1 own own1) := fun e fb sc X G h => by
    cases e with
    | ListComp elt' gens scope p =>
      rcases gens with _ | ⟨⟨tg, iter, ifs', asy⟩, _ | ⟨⟨tg1, iter1, ifs1', asy1⟩, _ | ⟨_, _⟩⟩⟩ <;> try (simp [okE] at h; done)
      simp only [okE, Bool.and_eq_true, decide_eq_true_eq] at h
      obtain ⟨⟨⟨⟨⟨⟨⟨⟨⟨⟨⟨⟨⟨⟨rfl, rfl⟩, h1⟩, h2⟩, h3⟩, h3'⟩, h4⟩, h4'⟩, h4''⟩, h5⟩, h6⟩, h7⟩, h8⟩, h9⟩, h10⟩ := h
      have hk := blkC_kind h1
      have hb := blkOk_by h1
      refine .pl ?_ rfl
      have key := s_lc2 (X := X) (C := C) (pos := p) (bx := bx) (ows := ownOf kc own) (own1 := own1) G.calm (by rw [G.hN]; exact G.nd) (iI tg iter fb sc X G h2) (by rw [G.hN, G.hsc]; exact hb)
        (fun s H D cl fp => okTg_s (G.blk hk) t tg h5) (fun s H D cl fp => iF ifs' _ _ _ (G.blk hk) h6) (fun s H D cl fp => iI1 tg1 iter1 _ _ _ (G.blk hk) h7) (fun s H D cl fp => okTg_s (G.blk hk) t1 tg1 h8) (fun s H D cl fp => iF1 ifs1' _ _ _ (G.blk hk) h9) (fun s H D cl fp => (iE elt' _ _ _ (G.blk hk) h10).se) (set_plain h3) (fun env => set_plain h3')
        (fun i hi => by rw [ownOf_snd]; simpa using List.all_eq_true.mp h4'' i hi) (fun i hi => by rw [ownOf_snd]; simpa using List.all_eq_true.mp h4 i hi) (fun i hi => by simpa using List.all_eq_true.mp h4' i hi)
      rw [ownOf_snd] at key
      exact key
    | _ => simp [okE] at h
theorem okE_s_rev (bx : Bool) (a : E) (ih_okE_s_a : PE_ kc call C a) : PE_ kc call C (.rev bx a) := fun e fb sc X G h => by
    cases e with
    | Subscript a' i p =>
      cases i with
      | Slice lo hi st p2 =>
        rcases lo with _ | lo <;> rcases hi with _ | hi <;> rcases st with _ | st <;> try (exact Bool.noConfusion h)
        cases st with
        | UnaryOp op b p3 =>
          cases op <;> try (exact Bool.noConfusion h)
          cases b with
          | Constant c k p4 =>
            cases c with
            | int n =>
              by_cases hn : n = 1
              · subst hn
                exact .pl (s_rev (ih_okE_s_a a' fb sc X G h).se) rfl
              · simp [okE, hn] at h
            | _ => exact Bool.noConfusion h
          | _ => exact Bool.noConfusion h
        | _ => exact Bool.noConfusion h
      | _ => exact Bool.noConfusion h
    | _ => exact Bool.noConfusion h
theorem okE_s_app (o : E) (a : E) (ih_okE_s_o : PE_ kc call C o) (ih_okE_s_a : PE_ kc call C a) : PE_ kc call C (.app o a) := fun e fb sc X G h => by
    cases e with
    | Call fn args kws p =>
      cases fn with
      | Attribute o' m ap =>
        rcases kws with _ | ⟨_, _⟩ <;> try (simp [okE] at h; done)
        rcases args with _ | ⟨a', _ | ⟨_, _⟩⟩ <;> try (simp [okE] at h; done)
        simp only [okE, Bool.and_eq_true, decide_eq_true_eq] at h
        obtain ⟨⟨⟨⟨⟨rfl, h2⟩, h3⟩, h4⟩, h5⟩, h6⟩ := h
        exact .pl (s_app (ih_okE_s_o o' fb sc X G h4).se (ih_okE_s_a a' fb sc X G h5).se h6 h2 h3) rfl
      | _ => simp [okE] at h
    | _ => simp [okE] at h
theorem okE_s_ext (o : E) (a : E) (ih_okE_s_o : PE_ kc call C o) (ih_okE_s_a : PE_ kc call C a) : PE_ kc call C (.ext o a) := fun e fb sc X G h => by
    cases e with
    | Call fn args kws p =>
      cases fn with
      | Attribute o' m ap =>
        rcases kws with _ | ⟨_, _⟩ <;> try (simp [okE] at h; done)
        rcases args with _ | ⟨a', _ | ⟨_, _⟩⟩ <;> try (simp [okE] at h; done)
        simp only [okE, Bool.and_eq_true, decide_eq_true_eq] at h
        obtain ⟨⟨⟨⟨⟨rfl, h2⟩, h3⟩, h4⟩, h5⟩, h6⟩ := h
        exact .pl (s_ext (ih_okE_s_o o' fb sc X G h4).se (ih_okE_s_a a' fb sc X G h5).se h6 h2 h3) rfl
      | _ => simp [okE] at h
    | _ => simp [okE] at h
theorem okE_s_pop (z0 : E)  : PE_ kc call C (.pop z0) := fun e fb sc X G h => by cases e <;> simp [okE] at h
theorem okE_s_popAt (o : E) (a : E) (ih_okE_s_o : PE_ kc call C o) (ih_okE_s_a : PE_ kc call C a) : PE_ kc call C (.popAt o a) := fun e fb sc X G h => by
    cases e with
    | Call fn args kws p =>
      cases fn with
      | Attribute o' m ap =>
        rcases kws with _ | ⟨_, _⟩ <;> try (simp [okE] at h; done)
        rcases args with _ | ⟨a', _ | ⟨_, _⟩⟩ <;> try (simp [okE] at h; done)
        simp only [okE, Bool.and_eq_true, decide_eq_true_eq] at h
        obtain ⟨⟨⟨⟨⟨rfl, h2⟩, h3⟩, h4⟩, h5⟩, h6⟩ := h
        exact .pl (s_popAt (ih_okE_s_o o' fb sc X G h4).se (ih_okE_s_a a' fb sc X G h5).se h6 h2 h3) rfl
      | _ => simp [okE] at h
    | _ => simp [okE] at h
theorem okE_s_cnt (z0 : E) (z1 : E)  : PE_ kc call C (.cnt z0 z1) := fun e fb sc X G h => by cases e <;> simp [okE] at h
theorem okE_s_index (z0 : E) (z1 : E)  : PE_ kc call C (.index z0 z1) := fun e fb sc X G h => by cases e <;> simp [okE] at h
theorem okEs_s_nil   : PEs_ kc call C (.nil) := fun es fb sc X G h => by
    cases es with
    | nil => exact ⟨s_nil, rfl⟩
    | cons _ _ => simp [okEs] at h
theorem okEs_s_cons (m : E) (ms : Es) (ih_okEs_s_ms : PEs_ kc call C ms) (ih_okE_s_m : PE_ kc call C m) : PEs_ kc call C (.cons m ms) := fun es fb sc X G h => by
    cases es with
    | nil => simp [okEs] at h
    | cons e es =>
      simp only [okEs, Bool.and_eq_true] at h
      obtain ⟨a, b⟩ := ih_okEs_s_ms es fb sc X G h.2
      exact ⟨s_cons (ih_okE_s_m e fb sc X G h.1.1).se a h.1.2, by rw [List.all_cons, h.1.2, b]; rfl⟩
theorem okB_s_nil   : PB_ kc call C (.nil) := fun an es fb sc X G h => by cases es <;> simp [okB] at h
theorem okB_s_cons (m : E) (ms : Es) (ih_okB_s_ms : PB_ kc call C ms) (ih_okE_s_m : PE_ kc call C m) : PB_ kc call C (.cons m ms) := fun an es fb sc X G h => by
    have ih := ih_okB_s_ms an
    have ie := ih_okE_s_m
    rcases es with _ | ⟨e, es⟩
    · cases ms <;> simp [okB] at h
    · cases ms with
      | nil =>
        cases es with
        | nil =>
          simp only [okB, Bool.and_eq_true] at h
          have k := ie e fb sc X G h.1
          exact ⟨s_b1 k.se, t_b1 (k.st h.2)⟩
        | cons e2 es => simp [okB] at h
      | cons m2 ms =>
        cases es with
        | nil => simp [okB] at h
        | cons e2 es =>
          have h' : (okE kc fb sc m e = true ∧ noIte m = true) ∧ okB kc fb sc (.cons m2 ms) (e2 :: es) = true := by
            simpa only [okB, Bool.and_eq_true] using h
          have k := ie e fb sc X G h'.1.1
          obtain ⟨a, b⟩ := ih (e2 :: es) fb sc X G h'.2
          exact ⟨s_bn k.se a, t_bn (k.st h'.1.2) b⟩
theorem okF_s_nil   : PF_ kc call C (.nil) := fun es fb sc X G h => by
    cases es with
    | nil => exact f_nil
    | cons _ _ => simp [okF] at h
theorem okF_s_cons (m : E) (ms : Es) (ih_okE_s_m : PE_ kc call C m) : PF_ kc call C (.cons m ms) := fun es fb sc X G h => by
    cases ms with
    | nil =>
      rcases es with _ | ⟨e, _ | ⟨e2, es⟩⟩
      · simp [okF] at h
      · simp only [okF, Bool.and_eq_true] at h
        exact f_one ((ih_okE_s_m e fb sc X G h.1).st h.2)
      · simp [okF] at h
    | cons _ _ => cases es <;> simp [okF] at h
theorem okI_s_val (m : E) (ih_okE_s_m : PE_ kc call C m) : PI_ kc call C (.val m) := fun tg iter fb sc X G h => by
    simp only [okI] at h
    exact i_val (ih_okE_s_m iter fb sc X G h).se
theorem okI_s_rng (m : E) (ih_okE_s_m : PE_ kc call C m) : PI_ kc call C (.rng m) := fun tg iter fb sc X G h => by
    cases iter with
    | Call fn args kws p =>
      cases fn with
      | Name x px =>
        rcases args with _ | ⟨a', _ | ⟨_, _⟩⟩ <;> rcases kws with _ | ⟨_, _⟩ <;> try (exact Bool.noConfusion h)
        simp only [okI, Bool.and_eq_true, decide_eq_true_eq] at h
        obtain ⟨⟨⟨rfl, h2⟩, h3⟩, h4⟩ := h
        exact i_rng (G.gl' h2) (G.bn _ (by decide)) (ih_okE_s_m a' fb sc X G h3).se h4
      | _ => simp [okI] at h
    | _ => simp [okI] at h
theorem okI_s_rng2 (m : E) (m2 : E) (ih_okE_s_m : PE_ kc call C m) (ih_okE_s_m2 : PE_ kc call C m2) : PI_ kc call C (.rng2 m m2) := fun tg iter fb sc X G h => by
    cases iter with
    | Call fn args kws p =>
      cases fn with
      | Name x px =>
        rcases args with _ | ⟨a', _ | ⟨b', _ | ⟨_, _⟩⟩⟩ <;> rcases kws with _ | ⟨_, _⟩ <;> try (exact Bool.noConfusion h)
        simp only [okI, Bool.and_eq_true, decide_eq_true_eq] at h
        obtain ⟨⟨⟨⟨⟨rfl, h2⟩, h3⟩, h4⟩, h5⟩, h6⟩ := h
        exact i_rng2 (G.gl' h2) (G.bn _ (by decide)) (ih_okE_s_m a' fb sc X G h3).se (ih_okE_s_m2 b' fb sc X G h5).se h4 h6
      | _ => simp [okI] at h
    | _ => simp [okI] at h
theorem okI_s_zip (m : E) (m2 : E) (ih_okE_s_m : PE_ kc call C m) (ih_okE_s_m2 : PE_ kc call C m2) : PI_ kc call C (.zip m m2) := fun tg iter fb sc X G h => by
    cases tg with
    | Tuple es k pt =>
      cases iter with
      | Call fn args kws p =>
        cases fn with
        | Name x px =>
          rcases args with _ | ⟨a', _ | ⟨b', _ | ⟨_, _⟩⟩⟩ <;> rcases kws with _ | ⟨_, _⟩ <;> try (exact Bool.noConfusion h)
          simp only [okI, Bool.and_eq_true, decide_eq_true_eq] at h
          obtain ⟨⟨⟨⟨⟨rfl, h2⟩, h3⟩, h4⟩, h5⟩, h6⟩ := h
          exact i_zip (G.gl' h2) (G.bn _ (by decide)) (ih_okE_s_m a' fb sc X G h3).se (ih_okE_s_m2 b' fb sc X G h5).se h4 h6
        | _ => simp [okI] at h
      | _ => simp [okI] at h
    | _ => simp [okI] at h
theorem okI_s_enu (m : E) (ih : PE_ kc call C m) : PI_ kc call C (.enu m) := fun tg iter fb sc X G h => by
    cases tg with
    | Tuple es k pt =>
      cases iter with
      | Call fn args kws p =>
        cases fn with
        | Name x px =>
          rcases args with _ | ⟨a', _ | ⟨_, _⟩⟩ <;> rcases kws with _ | ⟨_, _⟩ <;> try (exact Bool.noConfusion h)
          simp only [okI, Bool.and_eq_true, decide_eq_true_eq] at h
          obtain ⟨⟨⟨rfl, h2⟩, h3⟩, h4⟩ := h
          exact i_enu (G.gl' h2) (G.bn _ (by decide)) (ih a' fb sc X G h3).se h4
        | _ => simp [okI] at h
      | _ => simp [okI] at h
    | _ => simp [okI] at h
theorem okI_s_enz (m : E) (m2 : E) (ih_okE_s_m : PE_ kc call C m) (ih_okE_s_m2 : PE_ kc call C m2) : PI_ kc call C (.enz m m2) := fun tg iter fb sc X G h => by
    cases tg with
    | Tuple es k pt =>
      cases iter with
      | Call fn args kws p =>
        cases fn with
        | Name x px =>
          cases args with
          | nil => exact Bool.noConfusion h
          | cons a' rest =>
            cases a' with
            | Call fn2 args2 kws2 p2 =>
              cases fn2 with
              | Name y py =>
                rcases args2 with _ | ⟨a2, _ | ⟨b2, _ | ⟨_, _⟩⟩⟩ <;> rcases kws2 with _ | ⟨_, _⟩ <;> rcases rest with _ | ⟨_, _⟩ <;> rcases kws with _ | ⟨_, _⟩ <;> try (exact Bool.noConfusion h)
                simp only [okI, Bool.and_eq_true, decide_eq_true_eq] at h
                obtain ⟨⟨⟨⟨⟨⟨⟨rfl, h2⟩, rfl⟩, h2'⟩, h3⟩, h4⟩, h5⟩, h6⟩ := h
                exact i_enz (G.gl' h2) (G.bn _ (by decide)) (G.gl' h2') (G.bn _ (by decide)) (ih_okE_s_m a2 fb sc X G h3).se (ih_okE_s_m2 b2 fb sc X G h5).se h4 h6
              | _ => exact Bool.noConfusion h
            | _ => exact Bool.noConfusion h
        | _ => simp [okI] at h
      | _ => simp [okI] at h
    | _ => simp [okI] at h
mutual
theorem okE_s : ∀ (m : E), PE_ kc call C m
  | .var i => okE_s_var i 
  | .cst v => okE_s_cst v 
  | .glb y v => okE_s_glb y v 
  | .bin o bx a b => okE_s_bin o bx a b (okE_s a) (okE_s b)
  | .neg a => okE_s_neg a (okE_s a)
  | .not a => okE_s_not a (okE_s a)
  | .bop an es => okE_s_bop an es (okB_s es)
  | .cmp o a b => okE_s_cmp o a b (okE_s a) (okE_s b)
  | .cmp2 o p a b c => okE_s_cmp2 o p a b c (okE_s a) (okE_s b) (okE_s c)
  | .isn ng a => okE_s_isn ng a (okE_s a)
  | .isb z0 z1 z2 => okE_s_isb z0 z1 z2 (okE_s z2)
  | .ite c a b => okE_s_ite c a b (okE_s c) (okE_s a) (okE_s b)
  | .call f es => okE_s_call f es (okEs_s es)
  | .cb f bx es => okE_s_cb f bx es (okEs_s es)
  | .isi ts a => okE_s_isi ts a (okE_s a)
  | .idx a i => okE_s_idx a i (okE_s a) (okE_s i)
  | .slc bx a hl lo hh hi => okE_s_slc bx a hl lo hh hi (okE_s lo) (okE_s hi) (okE_s a)
  | .nil => okE_s_nil  
  | .tup es => okE_s_tup es (okEs_s es)
  | .lst bx es => okE_s_lst bx es (okEs_s es)
  | .dct0 => okE_s_dct0  
  | .comp bx elt t it ifs own => okE_s_comp bx elt t it ifs own (okI_s it) (okF_s ifs) (okE_s elt)
  | .comp2 bx elt t it ifs t1 it1 ifs1 own own1 => okE_s_comp2 bx elt t it ifs t1 it1 ifs1 own own1 (okI_s it) (okF_s ifs) (okI_s it1) (okF_s ifs1) (okE_s elt)
  | .rev z0 z1 => okE_s_rev z0 z1 (okE_s z1)
  | .app o a => okE_s_app o a (okE_s o) (okE_s a)
  | .ext o a => okE_s_ext o a (okE_s o) (okE_s a)
  | .pop z0 => okE_s_pop z0 
  | .popAt o a => okE_s_popAt o a (okE_s o) (okE_s a)
  | .cnt z0 z1 => okE_s_cnt z0 z1 
  | .index z0 z1 => okE_s_index z0 z1 
theorem okEs_s : ∀ (m : Es), PEs_ kc call C m
  | .nil => okEs_s_nil  
  | .cons m ms => okEs_s_cons m ms (okEs_s ms) (okE_s m)
theorem okB_s : ∀ (m : Es), PB_ kc call C m
  | .nil => okB_s_nil  
  | .cons m ms => okB_s_cons m ms (okB_s ms) (okE_s m)
theorem okF_s : ∀ (m : Es), PF_ kc call C m
  | .nil => okF_s_nil  
  | .cons m ms => okF_s_cons m ms (okE_s m)
theorem okI_s : ∀ (m : MP.It), PI_ kc call C m
  | .val m => okI_s_val m (okE_s m)
  | .rng m => okI_s_rng m (okE_s m)
  | .rng2 m m2 => okI_s_rng2 m m2 (okE_s m) (okE_s m2)
  | .zip m m2 => okI_s_zip m m2 (okE_s m) (okE_s m2)
  | .enu m => okI_s_enu m (okE_s m)
  | .enz z0 z1 => okI_s_enz z0 z1 (okE_s z0) (okE_s z1)
end
end
end MP

set_option maxHeartbeats 4000000
/-! MiniL: the check of statements, and of defs. -/
namespace MP
open PySem PySem.Spec PyProof.Rows L2
def isStar : Expr → Bool
  | .Starred _ _ => true
  | _ => false
def swN (sc : Scope) (ts : List Expr) : List Str :=
  ts.filterMap fun
    | .Name id pos => if sc.names.lookup id == some .local && pos.line == (ts.head?.map (·.pos.line)).getD 0 then some id else none
    | _ => none
def swS (sc : Scope) (ts vs : List Expr) : Option (Option (List Str)) :=
  if (!(ts.length == 2 || ts.length == 3) || vs.length != ts.length) = true then some none else
  if vs.any isStar = true then some none else
  if ((swN sc ts).length != ts.length || (swN sc ts).eraseDups.length != (swN sc ts).length) = true then some none else
  if vs.all (foldedForSure 8) = true then some none else if vs.all (constantsAlone 8) = true then none else some (some (swN sc ts))
theorem blk_fun {env : Env} (hk : env.scope.kind = .function) : env.blockKind = .function := by
  unfold Env.blockKind
  rw [hk]
  decide
theorem swS_ok {env : Env} {ts vs : List Expr} {k k2 : Nat} {p p2 : Pos} {r : Option (List Str)} (hk : env.scope.kind = .function) (h : swS env.scope ts vs = some r) : swappedStores [.Tuple ts k p] (.Tuple vs k2 p2) env = pure r := by
  have hb := blk_fun hk
  unfold swappedStores
  simp only [hb]
  change (if (!(ts.length == 2 || ts.length == 3) || vs.length != ts.length || ScopeKind.function != ScopeKind.function) = true then (pure none : Sem (Option (List Str))) else
    if vs.any isStar = true then pure none else
    if ((swN env.scope ts).length != ts.length || (swN env.scope ts).eraseDups.length != (swN env.scope ts).length) = true then pure none else
    if vs.all (foldedForSure 8) = true then pure none else if vs.all (constantsAlone 8) = true then (do unsupported "assign.tuple-of-constant-expressions:order-of-the-stores"; pure (some (swN env.scope ts))) else pure (some (swN env.scope ts))) = pure r
  have hf : (ScopeKind.function != ScopeKind.function) = false := by decide
  rw [hf, Bool.or_false]
  unfold swS at h
  split at h
  · rename_i c; cases h; rw [if_pos c]
  · rename_i c
    rw [if_neg c]
    split at h
    · rename_i c; cases h; rw [if_pos c]
    · rename_i c
      rw [if_neg c]
      split at h
      · rename_i c; cases h; rw [if_pos c]
      · rename_i c
        rw [if_neg c]
        split at h
        · rename_i c; cases h; rw [if_pos c]
        · rename_i c
          rw [if_neg c]
          split at h
          · cases h
          · rename_i c; cases h; rw [if_neg c]
/-- what the swap of a comprehension's store says -/
def swB (sc : Scope) (e tg : Expr) : Bool := match e, tg with
  | .ListComp _ _ scope _, .Name t pos => sc.names.lookup t == some .local && pos.line == e.pos.line && !(scope.names.any fun (n, k) => n == t && (k == .local || k == .cell))
  | _, _ => false
def oddComp : Expr → Bool
  | .SetComp _ _ _ _ => true
  | .DictComp _ _ _ _ _ => true
  | _ => false
theorem swB_ok {env : Env} {e tg : Expr} {l : Nat} (hk : env.scope.kind = .function) (ho : oddComp e = false) : swapsWith e (some tg) l env = pure (swB env.scope e tg) := by
  have hb := blk_fun hk
  unfold swapsWith
  cases e <;> first | rfl | (cases ho; done) | skip
  cases tg <;> first | rfl | skip
  simp only [hb]
  rfl
variable {kc : KC} {call : Nat → Nat → List Val → MH → Res Val} {C : EC} {fb : Str → Bool} {sc : Scope} {X : Cx}
def twoTup (t e : Expr) : Bool := match t, e with
  | .Tuple _ _ _, .Tuple _ _ _ => true
  | .List _ _, .Tuple _ _ _ => true
  | _, _ => false
/-- names that a pair is stored into, in order -/
def parB (kc : KC) (is : List Nat) (ts : List Expr) (names : List Str) (sc : Scope) : Bool := match is, ts, names with
  | [i, j], [.Name x _, .Name y _], [x', y'] => x == x' && y == y' && decide (kc.N[i]? = some x) && decide (kc.N[j]? = some y) && decide (i ≠ j) && decide (sc.names.lookup x = some .local) && decide (sc.names.lookup y = some .local)
  | [i, j, k], [.Name x _, .Name y _, .Name z _], [x', y', z'] => x == x' && y == y' && z == z' && decide (kc.N[i]? = some x) && decide (kc.N[j]? = some y) && decide (kc.N[k]? = some z) && decide (i ≠ j) && decide (i ≠ k) && decide (j ≠ k) &&
      decide (sc.names.lookup x = some .local) && decide (sc.names.lookup y = some .local) && decide (sc.names.lookup z = some .local)
  | _, _, _ => false
def othB : Expr → Bool
  | .List [.Constant (.str _) _ _] _ => true
  | .Constant (.str _) _ _ => true
  | _ => false
theorem othB_ok {r : Expr} (h : othB r = true) : othE r := by
  unfold othB at h
  split at h
  · exact .inl ⟨_, _, _, _, rfl⟩
  · exact .inr ⟨_, _, _, rfl⟩
  · cases h
def resB (tp : Bool) (tag n f : Str) (r : Expr) : Bool := match r with
  | .List [.Constant (.str z) _ _, .Attribute (.Name m _) g _] _ => !tp && z == tag && m == n && g == f
  | .Tuple [.Constant (.str z) _ _, .Attribute (.Name m _) g _] _ _ => tp && z == tag && m == n && g == f
  | _ => false
theorem resB_ok {tp : Bool} {tag n f : Str} {r : Expr} (h : resB tp tag n f r = true) : resE tp tag n f r := by
  unfold resB at h
  split at h
  · simp only [Bool.and_eq_true, Bool.not_eq_true', beq_iff_eq] at h
    obtain ⟨⟨⟨h0, rfl⟩, rfl⟩, rfl⟩ := h
    exact ⟨_, _, _, _, _, .inl ⟨h0, rfl⟩⟩
  · simp only [Bool.and_eq_true, beq_iff_eq] at h
    obtain ⟨⟨⟨h0, rfl⟩, rfl⟩, rfl⟩ := h
    exact ⟨_, _, _, _, _, .inr ⟨_, h0, rfl⟩⟩
  · cases h
/-- the test of a handler; the two other classes -/
def tstB (n cl : Str) (r : Expr) : Option (Str × Str) := match r with
  | .BoolOp .And [.Call (.Name a1 _) [.Name n1 _, .Name c1 _] [] _, .Call (.Name a2 _) [.Name n2 _, .Name v2 _] [] _, .UnaryOp .Not (.Call (.Name a3 _) [.Name n3 _, .Tuple [.Name B1 _, .Name B2 _] _ _] [] _) _] _ =>
      if a1 = ("isinstance" : Str) ∧ a2 = ("isinstance" : Str) ∧ a3 = ("isinstance" : Str) ∧ n1 = n ∧ n2 = n ∧ n3 = n ∧ c1 = cl ∧ v2 = ("ValueError" : Str) then some (B1, B2) else none
  | _ => none
theorem tstB_ok {n cl B1 B2 : Str} {r : Expr} (h : tstB n cl r = some (B1, B2)) : isTst n cl B1 B2 r := by
  unfold tstB at h
  split at h
  · split at h
    · rename_i c
      obtain ⟨rfl, rfl, rfl, rfl, rfl, rfl, rfl, rfl⟩ := c
      cases h
      exact ⟨_, _, _, _, _, _, _, _, _, _, _, _, _, _, _, _, _, rfl⟩
    · cases h
  · cases h
def hdB (kc : KC) (sc : Scope) (cl tg : Str) (tp : Bool) (n R : Str) (o1 tst r1 : Expr) : Bool := match tstB n cl tst, xfld cl with
  | some (B1, B2), some f => decide ((cl, f, R, B1, B2) ∈ kc.xi.hds) && glB sc B1 && glB sc B2 && othB o1 && resB tp tg n f r1
  | _, _ => false
def triB (kc : KC) (fb : Str → Bool) (sc : Scope) (f : Nat) (es : Es) (i t : Nat) (cl tg : Str) (tp : Bool) : Stmt → Bool
  | .Try [.Expr (.Call (.Name x _) es' [] _) _] [.ExceptHandler (some (.Name R _)) (some n) [.Assign [.Name y _] o1 _, .If tst [.Assign [.Name y2 _] r1 _] [] _] _] [] [] _ =>
      decide (kc.nm f = some x) && decide (f ∈ kc.xi.xs) && glB sc x && !dbg x && okEs kc fb sc es es' && !es'.isEmpty && decide (kc.N[i]? = some n) && decide (kc.N[t]? = some y) && y == y2 && decide (i ≠ t) && decide (sc.names.lookup n = some .local) && decide (sc.names.lookup y = some .local) && !dbg n &&
        glB sc "isinstance" && glB sc "ValueError" && glB sc cl && glB sc R && hdB kc sc cl tg tp n R o1 tst r1
  | _ => false
mutual
def okS (kc : KC) (fb : Str → Bool) (sc : Scope) : S → Stmt → Bool
  | .asg t m, .Assign [tg] e _ => okTg kc fb sc t tg && okE kc fb sc m e && notStar tg && !twoTup tg e && !oddComp e && (!swB sc e tg || (match t, tg, m with
      | .nm j, .Name y _, .comp _ _ _ _ _ _ => decide (kc.N[j]? = some y) && decide (sc.names.lookup y = some .local)
      | .nm j, .Name y _, .comp2 _ _ _ _ _ _ _ _ _ _ => decide (kc.N[j]? = some y) && decide (sc.names.lookup y = some .local)
      | _, _, _ => false))
  | .par is es, .Assign [.Tuple ts k p] (.Tuple vs k2 p2) _ => okEs kc fb sc es vs && decide (esLen es ≤ 1000) && (match swS sc ts vs with
      | some none => okTg kc fb sc (.tp (is.map .nm)) (.Tuple ts k p)
      | some (some names) => parB kc is ts names sc
      | none => false)
  | .sset o i m, .Assign [.Subscript o' i' _] e _ => okE kc fb sc o o' && okE kc fb sc i i' && okE kc fb sc m e && !isComp e && notSlice i'
  | .augn i op m, .AugAssign (.Name x _) op' e _ => decide (kc.N[i]? = some x) && locB fb sc x && decide (op' = opOf op) && decide (op = .add ∨ op = .sub) && okE kc fb sc m e
  | .augs o i op m, .AugAssign (.Subscript o' i' _) op' e _ => okE kc fb sc o o' && okE kc fb sc i i' && notSlice i' && decide (op' = opOf op) && decide (op = .add ∨ op = .sub) && okE kc fb sc m e
  | .iff c a b, .If c' a' b' _ => okE kc fb sc c c' && noIte c && okSs kc fb sc a a' && okSs kc fb sc b b'
  | .whl c b, .While c' b' [] _ => okE kc fb sc c c' && noIte c && okSs kc fb sc b b'
  | .forr t it b, .For tg iter b' [] _ => okI kc fb sc it tg iter && okTg kc fb sc t tg && notSet iter && okSs kc fb sc b b'
  | .ret m, .Return (some e) _ => okE kc fb sc m e
  | .ret (.cst .non), .Return none _ => true
  | .ex m, .Expr e _ => okE kc fb sc m e && !isComp e
  | .pass, .Pass _ => true
  | .rais _ _, .Raise _ _ _ => true
  | .tri f es i t cl tg tp, st => triB kc fb sc f es i t cl tg tp st
  | _, _ => false
def okSs (kc : KC) (fb : Str → Bool) (sc : Scope) : Ss → List Stmt → Bool
  | .nil, [] => true
  | .cons (.frz _) ms, sts => okSs kc fb sc ms sts
  | .cons m ms, st :: sts => okS kc fb sc m st && okSs kc fb sc ms sts
  | _, _ => false
end
theorem st_comp {bx : Bool} {elt : E} {t : Tg} {it : MP.It} {ifs : Es} {own : List Nat} {e : Expr} {j : Nat} {y : Str} {py pos : Pos} (G : Good kc call C fb sc X) (h : okE kc fb sc (.comp bx elt t it ifs own) e = true) (hsw : swB sc e (.Name y py) = true)
    (h1 : kc.N[j]? = some y) (h2 : sc.names.lookup y = some .local) : SS X C (.Assign [.Name y py] e pos) (.asg (.nm j) (.comp bx elt t it ifs own)) := by
  cases e with
  | ListComp elt' gens scope p =>
    rcases gens with _ | ⟨⟨tg, iter, ifs', asy⟩, _ | ⟨_, _⟩⟩ <;> try (simp [okE] at h; done)
    simp only [okE, Bool.and_eq_true, decide_eq_true_eq] at h
    obtain ⟨⟨⟨⟨⟨⟨⟨rfl, h1'⟩, h2'⟩, h3⟩, h4⟩, h5⟩, h6⟩, h7⟩ := h
    have hk := blkC_kind h1'
    have hb := blkOk_by h1'
    have hN : X.N.Nodup := by rw [G.hN]; exact G.nd
    have key := st_setLc (X := X) (C := C) (pos := p) (spos := pos) (py := py) (j := j) (y := y) (bx := bx) (ows := ownOf kc own) G.calm hN (by rw [G.hN]; exact h1) (by rw [G.hsc]; exact h2)
      (by rw [swB_ok (by rw [G.hsc]; exact G.knd) rfl, G.hsc, hsw]) (okI_s it tg iter fb sc X G h2') (by rw [G.hN, G.hsc]; exact hb)
      (fun s H D cl fp => okTg_s (G.blk hk) t tg h5) (fun s H D cl fp => okF_s ifs ifs' _ _ _ (G.blk hk) h6) (fun s H D cl fp => (okE_s elt elt' _ _ _ (G.blk hk) h7).se) (set_plain h3)
      (fun i hi => by rw [ownOf_snd]; simpa using List.all_eq_true.mp h4 i hi)
    rw [ownOf_snd] at key
    exact key
  | _ => simp [okE] at h
theorem st_comp2 {bx : Bool} {elt : E} {t t1 : Tg} {it it1 : MP.It} {ifs ifs1 : Es} {own own1 : List Nat} {e : Expr} {j : Nat} {y : Str} {py pos : Pos} (G : Good kc call C fb sc X) (h : okE kc fb sc (.comp2 bx elt t it ifs t1 it1 ifs1 own own1) e = true) (hsw : swB sc e (.Name y py) = true)
    (h1 : kc.N[j]? = some y) (h2 : sc.names.lookup y = some .local) : SS X C (.Assign [.Name y py] e pos) (.asg (.nm j) (.comp2 bx elt t it ifs t1 it1 ifs1 own own1)) := by
  cases e with
  | ListComp elt' gens scope p =>
    rcases gens with _ | ⟨⟨tg, iter, ifs', asy⟩, _ | ⟨⟨tg1, iter1, ifs1', asy1⟩, _ | ⟨_, _⟩⟩⟩ <;> try (simp [okE] at h; done)
    simp only [okE, Bool.and_eq_true, decide_eq_true_eq] at h
    obtain ⟨⟨⟨⟨⟨⟨⟨⟨⟨⟨⟨⟨⟨⟨rfl, rfl⟩, h1'⟩, h2'⟩, h3⟩, h3'⟩, h4⟩, h4'⟩, h4''⟩, h5⟩, h6⟩, h7⟩, h8⟩, h9⟩, h10⟩ := h
    have hk := blkC_kind h1'
    have hb := blkOk_by h1'
    have hN : X.N.Nodup := by rw [G.hN]; exact G.nd
    have key := st_setLc2 (X := X) (C := C) (pos := p) (spos := pos) (py := py) (j := j) (y := y) (bx := bx) (ows := ownOf kc own) (own1 := own1) (by rw [G.hN]; exact h1) (by rw [G.hsc]; exact h2)
      (by rw [swB_ok (by rw [G.hsc]; exact G.knd) rfl, G.hsc, hsw]) G.calm hN (okI_s it tg iter fb sc X G h2') (by rw [G.hN, G.hsc]; exact hb)
      (fun s H D cl fp => okTg_s (G.blk hk) t tg h5) (fun s H D cl fp => okF_s ifs ifs' _ _ _ (G.blk hk) h6) (fun s H D cl fp => okI_s it1 tg1 iter1 _ _ _ (G.blk hk) h7) (fun s H D cl fp => okTg_s (G.blk hk) t1 tg1 h8) (fun s H D cl fp => okF_s ifs1 ifs1' _ _ _ (G.blk hk) h9) (fun s H D cl fp => (okE_s elt elt' _ _ _ (G.blk hk) h10).se) (set_plain h3) (fun env => set_plain h3')
      (fun i hi => by rw [ownOf_snd]; simpa using List.all_eq_true.mp h4'' i hi) (fun i hi => by rw [ownOf_snd]; simpa using List.all_eq_true.mp h4 i hi) (fun i hi => by simpa using List.all_eq_true.mp h4' i hi)
    rw [ownOf_snd] at key
    exact key
  | _ => simp [okE] at h
theorem nt_sw {tg e : Expr} {env : Env} (h : twoTup tg e = false) : swappedStores [tg] e env = pure none := by
  unfold swappedStores
  cases tg <;> cases e <;> first | rfl | cases h
abbrev PS_ (kc : KC) (call : Nat → Nat → List Val → MH → Res Val) (C : EC) (m : S) : Prop := ∀ (e : Stmt) (fb : Str → Bool) (sc : Scope) (X : Cx), GoodS kc call C fb sc X → okS kc fb sc m e = true → SS X C e m
abbrev PSs_ (kc : KC) (call : Nat → Nat → List Val → MH → Res Val) (C : EC) (m : Ss) : Prop := ∀ (e : List Stmt) (fb : Str → Bool) (sc : Scope) (X : Cx), GoodS kc call C fb sc X → okSs kc fb sc m e = true → SSs X C e m
theorem okS_asg (t : Tg) (m : E) : PS_ kc call C (.asg t m) := fun st fb sc X GS h => by
  have G := GS.toGood
  cases st with
  | Assign tgs e pos =>
    rcases tgs with _ | ⟨tg, _ | ⟨_, _⟩⟩ <;> try (exact Bool.noConfusion h)
    simp only [okS, Bool.and_eq_true, Bool.not_eq_true'] at h
    obtain ⟨⟨⟨⟨⟨h1, h2⟩, h3⟩, h4⟩, h5⟩, h6⟩ := h
    have hsw := swB_ok (tg := tg) (l := pos.line) (env := X.env) (by rw [G.hsc]; exact G.knd) h5
    rw [G.hsc] at hsw
    by_cases z : swB sc e tg = true
    · rw [z] at h6
      simp only [Bool.not_true, Bool.false_or] at h6
      split at h6
      · simp only [Bool.and_eq_true, decide_eq_true_eq] at h6
        exact st_comp G h2 z h6.1 h6.2
      · simp only [Bool.and_eq_true, decide_eq_true_eq] at h6
        exact st_comp2 G h2 z h6.1 h6.2
      · cases h6
    · rw [Bool.not_eq_true] at z
      rw [z] at hsw
      exact st_asg (okE_s m e fb sc X G h2).se (okTg_s G t tg h1) hsw (nt_sw h4) h3
  | _ => exact Bool.noConfusion h
theorem okS_par (is : List Nat) (es : Es) : PS_ kc call C (.par is es) := fun st fb sc X GS h => by
  have G := GS.toGood
  cases st with
  | Assign tgs e pos =>
    rcases tgs with _ | ⟨tg, _ | ⟨_, _⟩⟩ <;> try (exact Bool.noConfusion h)
    · cases tg with
      | Tuple ts k p =>
        cases e with
        | Tuple vs k2 p2 =>
          simp only [okS, Bool.and_eq_true, decide_eq_true_eq] at h
          obtain ⟨⟨h1, h2⟩, h3⟩ := h
          have ha := (okEs_s es vs fb sc X G h1).1
          have hN : X.N.Nodup := by rw [G.hN]; exact G.nd
          split at h3
          · rename_i hs
            exact st_parT (okTg_s G _ _ h3) ha h2 (swS_ok (by rw [G.hsc]; exact G.knd) (by rw [G.hsc]; exact hs))
          · rename_i names hs
            have hw := swS_ok (k := k) (k2 := k2) (p := p) (p2 := p2) (env := X.env) (by rw [G.hsc]; exact G.knd) (by rw [G.hsc]; exact hs)
            unfold parB at h3
            split at h3
            · simp only [Bool.and_eq_true, decide_eq_true_eq, beq_iff_eq] at h3
              obtain ⟨⟨⟨⟨⟨⟨rfl, rfl⟩, a1⟩, a2⟩, a3⟩, a4⟩, a5⟩ := h3
              have hl : vs.length = 2 := by
                unfold swS at hs
                split at hs
                · cases hs
                · rename_i c
                  simp at c
                  exact c
              rcases vs with _ | ⟨v1, _ | ⟨v2, _ | ⟨_, _⟩⟩⟩ <;> try (simp at hl; done)
              exact st_par2 G.calm hN (by rw [G.hN]; exact a1) (by rw [G.hN]; exact a2) a3 (by rw [G.hsc]; exact a4) (by rw [G.hsc]; exact a5) ha hw
            · simp only [Bool.and_eq_true, decide_eq_true_eq, beq_iff_eq] at h3
              obtain ⟨⟨⟨⟨⟨⟨⟨⟨⟨⟨⟨rfl, rfl⟩, rfl⟩, a1⟩, a2⟩, a3⟩, a4⟩, a5⟩, a6⟩, a7⟩, a8⟩, a9⟩ := h3
              have hl : vs.length = 3 := by
                unfold swS at hs
                split at hs
                · cases hs
                · rename_i c
                  simp at c
                  exact c
              rcases vs with _ | ⟨v1, _ | ⟨v2, _ | ⟨v3, _ | ⟨_, _⟩⟩⟩⟩ <;> try (simp at hl; done)
              exact st_par3 G.calm hN (by rw [G.hN]; exact a1) (by rw [G.hN]; exact a2) (by rw [G.hN]; exact a3) a4 a5 a6 (by rw [G.hsc]; exact a7) (by rw [G.hsc]; exact a8) (by rw [G.hsc]; exact a9) ha hw
            · cases h3
          · cases h3
        | _ => exact Bool.noConfusion h
      | _ => exact Bool.noConfusion h
    · cases tg <;> exact Bool.noConfusion h
  | _ => exact Bool.noConfusion h
theorem okS_sset (o i m : E) : PS_ kc call C (.sset o i m) := fun st fb sc X GS h => by
  have G := GS.toGood
  cases st with
  | Assign tgs e pos =>
    rcases tgs with _ | ⟨tg, _ | ⟨_, _⟩⟩
    · exact Bool.noConfusion h
    · cases tg with
      | Subscript o' i' p =>
        simp only [okS, Bool.and_eq_true, Bool.not_eq_true'] at h
        obtain ⟨⟨⟨⟨h1, h2⟩, h3⟩, h4⟩, h5⟩ := h
        exact st_sset (okE_s o o' fb sc X G h1).se (okE_s i i' fb sc X G h2).se (okE_s m e fb sc X G h3).se h4 h5
      | _ => exact Bool.noConfusion h
    · cases tg <;> exact Bool.noConfusion h
  | _ => exact Bool.noConfusion h
theorem okS_augn (i : Nat) (op : Bop) (m : E) : PS_ kc call C (.augn i op m) := fun st fb sc X GS h => by
  have G := GS.toGood
  cases st with
  | AugAssign tg op' e pos =>
    cases tg with
    | Name x p =>
      simp only [okS, Bool.and_eq_true, decide_eq_true_eq] at h
      obtain ⟨⟨⟨⟨h1, h2⟩, rfl⟩, h4⟩, h5⟩ := h
      obtain ⟨a, b⟩ := G.loc h2
      exact st_augn (by rw [G.hN]; exact G.nd) (by rw [G.hN]; exact h1) a b (okE_s m e fb sc X G h5).se h4
    | _ => exact Bool.noConfusion h
  | _ => exact Bool.noConfusion h
theorem okS_augs (o i : E) (op : Bop) (m : E) : PS_ kc call C (.augs o i op m) := fun st fb sc X GS h => by
  have G := GS.toGood
  cases st with
  | AugAssign tg op' e pos =>
    cases tg with
    | Subscript o' i' p =>
      simp only [okS, Bool.and_eq_true, decide_eq_true_eq] at h
      obtain ⟨⟨⟨⟨⟨h1, h2⟩, h3⟩, rfl⟩, h4⟩, h5⟩ := h
      exact st_augs (okE_s o o' fb sc X G h1).se (okE_s i i' fb sc X G h2).se (okE_s m e fb sc X G h5).se h3 h4
    | _ => exact Bool.noConfusion h
  | _ => exact Bool.noConfusion h
theorem okS_iff (c : E) (a b : Ss) (ia : PSs_ kc call C a) (ib : PSs_ kc call C b) : PS_ kc call C (.iff c a b) := fun st fb sc X GS h => by
  have G := GS.toGood
  cases st with
  | If c' a' b' pos =>
    simp only [okS, Bool.and_eq_true] at h
    obtain ⟨⟨⟨h1, h2⟩, h3⟩, h4⟩ := h
    exact st_iff ((okE_s c c' fb sc X G h1).st h2) (ia a' fb sc X GS h3) (ib b' fb sc X GS h4)
  | _ => exact Bool.noConfusion h
theorem okS_whl (c : E) (b : Ss) (ib : PSs_ kc call C b) : PS_ kc call C (.whl c b) := fun st fb sc X GS h => by
  have G := GS.toGood
  cases st with
  | While c' b' o' pos =>
    cases o' with
    | cons _ _ => exact Bool.noConfusion h
    | nil =>
      simp only [okS, Bool.and_eq_true] at h
      exact st_whl G.hp ((okE_s c c' fb sc X G h.1.1).st h.1.2) (ib b' fb sc X GS h.2)
  | _ => exact Bool.noConfusion h
theorem okS_forr (t : Tg) (it : MP.It) (b : Ss) (ib : PSs_ kc call C b) : PS_ kc call C (.forr t it b) := fun st fb sc X GS h => by
  have G := GS.toGood
  cases st with
  | For tg iter b' o' pos =>
    cases o' with
    | cons _ _ => exact Bool.noConfusion h
    | nil =>
      simp only [okS, Bool.and_eq_true] at h
      exact st_for G.hp G.calm (okI_s it tg iter fb sc X G h.1.1.1) (okTg_s G t tg h.1.1.2) (ib b' fb sc X GS h.2) (set_plain h.1.2)
  | _ => exact Bool.noConfusion h
theorem okS_ret (m : E) : PS_ kc call C (.ret m) := fun st fb sc X GS h => by
  have G := GS.toGood
  cases st with
  | Return o pos =>
    cases o with
    | some e => simp only [okS] at h; exact st_ret (okE_s m e fb sc X G h).se
    | none =>
      cases m with
      | cst v => cases v <;> first | exact st_retN | exact Bool.noConfusion h
      | _ => exact Bool.noConfusion h
  | _ => cases m with
    | cst v => cases v <;> exact Bool.noConfusion h
    | _ => exact Bool.noConfusion h
theorem okS_ex (m : E) : PS_ kc call C (.ex m) := fun st fb sc X GS h => by
  have G := GS.toGood
  cases st with
  | Expr e pos =>
    simp only [okS, Bool.and_eq_true, Bool.not_eq_true'] at h
    exact st_ex (okE_s m e fb sc X G h.1).se h.2
  | _ => exact Bool.noConfusion h
theorem okS_pass : PS_ kc call C .pass := fun st fb sc X GS h => by
  have G := GS.toGood
  cases st with
  | Pass pos => exact st_pass
  | _ => exact Bool.noConfusion h
theorem no_rais {c : Str} {es : Es} {g : ME} {h : MH} {K : PySem.W.Frag} {b : Nat} {w : Wd} {D : Ends} (q : OKS K b w (ex C (.rais c es) g h) D) : False := by
  obtain ⟨v, h', e, _⟩ := q
  have e : ((evs C es g h).bind fun vs h => (.exc c vs h : Res Fl)) = .ok v h' := e
  obtain ⟨_, _, _, e2⟩ := bind_eq_ok e
  cases e2
theorem okS_rais (c : Str) (es : Es) : PS_ kc call C (.rais c es) := fun st fb sc X GS h => by
  have G := GS.toGood
  refine ⟨fun pins s σ H D I t => ?_⟩
  obtain ⟨w, g, _, _, ok⟩ := t
  exact (no_rais ok).elim
theorem dbg2 {x : Str} (h : dbg x = false) : (x == ("__debug__" : Str)) = false ∧ (x == ("__classdict__" : Str)) = false := by
  unfold dbg at h
  simp only [Bool.or_eq_false_iff] at h
  exact ⟨h.1.1, h.1.2⟩
theorem hd_ok {kc : KC} {sc : Scope} {cl tg : Str} {tp : Bool} {n R : Str} {o1 tst r1 : Expr} (h : hdB kc sc cl tg tp n R o1 tst r1 = true) : ∃ f B1 B2, (cl, f, R, B1, B2) ∈ kc.xi.hds ∧ glB sc B1 = true ∧ glB sc B2 = true ∧ othE o1 ∧ isTst n cl B1 B2 tst ∧ resE tp tg n f r1 := by
  unfold hdB at h
  split at h
  · rename_i B1 B2 f h1 h2
    simp only [Bool.and_eq_true, decide_eq_true_eq] at h
    obtain ⟨⟨⟨⟨m, g1⟩, g2⟩, o⟩, r⟩ := h
    exact ⟨f, B1, B2, m, g1, g2, othB_ok o, tstB_ok h1, resB_ok r⟩
  · cases h
theorem okS_tri (f : Nat) (es : Es) (i t : Nat) (cl tg : Str) (tp : Bool) : PS_ kc call C (.tri f es i t cl tg tp) := fun st fb sc X GS h => by
  have G := GS.toGood
  have h : triB kc fb sc f es i t cl tg tp st = true := h
  unfold triB at h
  split at h
  · rename_i x px es' cp ep R pR n y py o1 p1 tst y2 py2 r1 p3 p4 p5 p6 hh
    simp only [Bool.and_eq_true, decide_eq_true_eq, Bool.not_eq_true', beq_iff_eq] at h
    obtain ⟨⟨⟨⟨⟨⟨⟨⟨⟨⟨⟨⟨⟨⟨⟨⟨⟨c1, c2⟩, c3⟩, c4⟩, c5⟩, c6⟩, c7⟩, c8⟩, c9⟩, c10⟩, c11⟩, c12⟩, c13⟩, c14⟩, c15⟩, c16⟩, c17⟩, c18⟩ := h
    subst c9
    obtain ⟨f', B1, B2, m, g1, g2, o, ts, re⟩ := hd_ok c18
    obtain ⟨CA, T⟩ := GS.xh _ _ _ _ _ m
    obtain ⟨k, fa, fd, ps, F, hr, hm, hk, hb⟩ := GS.xf f x c1 c2
    cases es' with
    | nil => simp at c6
    | cons e0 es' =>
      have hss := (okEs_s es (e0 :: es') fb sc X G c5).2
      rw [List.all_cons, Bool.and_eq_true] at hss
      exact st_tri T GS.stk GS.frm (by rw [G.hN]; exact G.nd) (by rw [G.hN]; exact c7) (by rw [G.hsc]; exact c11) (by rw [G.hN]; exact c8) (by rw [G.hsc]; exact c12) c10 (dbg2 c13).1 (dbg2 c13).2 (G.gl' c14) (G.bn _ (by decide)) (G.gl' c15) (G.bn _ (by decide)) (G.gl' c16) (G.gl' c17) (G.gl' g1) (G.gl' g2)
        F G.hC hr G.gd (G.gl' c3) hm hk hb (fun pn xe po => (okEs_s es (e0 :: es') fb sc (X.tr pn xe) (G.tr po) c5).1) (dbg2 c4).1 hss.1 hss.2 o ts re
  · cases h
theorem okSs_nil : PSs_ kc call C .nil := fun st fb sc X GS h => by
  have G := GS.toGood
  cases st with
  | nil => exact b_nil
  | cons _ _ => exact Bool.noConfusion h
theorem okSs_frz (i : Nat) (ms : Ss) (ih : PSs_ kc call C ms) : PSs_ kc call C (.cons (.frz i) ms) := fun st fb sc X GS h => by
  have G := GS.toGood
  have h' : okSs kc fb sc ms st = true := by cases st <;> exact h
  exact b_frz (ih st fb sc X GS h')
theorem okSs_cons (m : S) (ms : Ss) (im : PS_ kc call C m) (ih : PSs_ kc call C ms) (hm : ∀ i, m ≠ .frz i) : PSs_ kc call C (.cons m ms) := fun st fb sc X GS h => by
  have G := GS.toGood
  cases st with
  | nil => cases m <;> first | exact Bool.noConfusion h | exact (hm _ rfl).elim
  | cons st sts =>
    have h' : okS kc fb sc m st = true ∧ okSs kc fb sc ms sts = true := by
      cases m <;> first | exact (hm _ rfl).elim | (simpa only [okSs, Bool.and_eq_true] using h)
    exact b_cons (im st fb sc X GS h'.1) (ih sts fb sc X GS h'.2)
mutual
theorem okS_s : ∀ (m : S), PS_ kc call C m
  | .asg t m => okS_asg t m
  | .par is es => okS_par is es
  | .sset o i m => okS_sset o i m
  | .augn i op m => okS_augn i op m
  | .augs o i op m => okS_augs o i op m
  | .iff c a b => okS_iff c a b (okSs_s a) (okSs_s b)
  | .whl c b => okS_whl c b (okSs_s b)
  | .forr t it b => okS_forr t it b (okSs_s b)
  | .ret m => okS_ret m
  | .ex m => okS_ex m
  | .pass => okS_pass
  | .frz i => fun st fb sc X GS h => by cases st <;> exact Bool.noConfusion h
  | .rais c es => okS_rais c es
  | .tri f es i t cl tg tp => okS_tri f es i t cl tg tp
theorem okSs_s : ∀ (m : Ss), PSs_ kc call C m
  | .nil => okSs_nil
  | .cons (.frz i) ms => okSs_frz i ms (okSs_s ms)
  | .cons (.asg t m) ms => okSs_cons _ ms (okS_asg t m) (okSs_s ms) (fun _ z => nomatch z)
  | .cons (.par is es) ms => okSs_cons _ ms (okS_par is es) (okSs_s ms) (fun _ z => nomatch z)
  | .cons (.sset o i m) ms => okSs_cons _ ms (okS_sset o i m) (okSs_s ms) (fun _ z => nomatch z)
  | .cons (.augn i op m) ms => okSs_cons _ ms (okS_augn i op m) (okSs_s ms) (fun _ z => nomatch z)
  | .cons (.augs o i op m) ms => okSs_cons _ ms (okS_augs o i op m) (okSs_s ms) (fun _ z => nomatch z)
  | .cons (.iff c a b) ms => okSs_cons _ ms (okS_iff c a b (okSs_s a) (okSs_s b)) (okSs_s ms) (fun _ z => nomatch z)
  | .cons (.whl c b) ms => okSs_cons _ ms (okS_whl c b (okSs_s b)) (okSs_s ms) (fun _ z => nomatch z)
  | .cons (.forr t it b) ms => okSs_cons _ ms (okS_forr t it b (okSs_s b)) (okSs_s ms) (fun _ z => nomatch z)
  | .cons (.ret m) ms => okSs_cons _ ms (okS_ret m) (okSs_s ms) (fun _ z => nomatch z)
  | .cons (.ex m) ms => okSs_cons _ ms (okS_ex m) (okSs_s ms) (fun _ z => nomatch z)
  | .cons .pass ms => okSs_cons _ ms okS_pass (okSs_s ms) (fun _ z => nomatch z)
  | .cons (.rais c es) ms => okSs_cons _ ms (okS_rais c es) (okSs_s ms) (fun _ z => nomatch z)
  | .cons (.tri f es i t cl tg tp) ms => okSs_cons _ ms (okS_tri f es i t cl tg tp) (okSs_s ms) (fun _ z => nomatch z)
end
end MP

set_option maxHeartbeats 4000000
/-! MiniL2: the check of a def that may raise. -/
namespace MP
open PySem PySem.Spec PyProof.Rows L2
def rcB (kc : KC) (fb : Str → Bool) (sc : Scope) (ns : Nat → Bool) (f : Nat) (es : Es) : Expr → Bool
  | .Call (.Name x _) es' [] _ => decide (kc.nm f = some x) && decide (f ∈ kc.xi.xs) && glB sc x && !dbg x && okEs kc fb sc es es' && !es'.isEmpty && nxEs ns es
  | _ => false
def raB (kc : KC) (fb : Str → Bool) (sc : Scope) (ns : Nat → Bool) (c : Str) (m : MP.E) : Stmt → Bool
  | .Raise (some (.Call (.Name x _) [e] [] _)) none _ => decide (x = c) && (match xfld c with | some f => decide ((c, f) ∈ kc.xi.cls) | none => false) && glB sc c && okEs kc fb sc (.cons m .nil) [e] && nxE ns m
  | _ => false
def exB (kc : KC) (fb : Str → Bool) (sc : Scope) (ns : Nat → Bool) (f : Nat) (es : Es) : Stmt → Bool
  | .Expr e _ => rcB kc fb sc ns f es e
  | _ => false
def reB (kc : KC) (fb : Str → Bool) (sc : Scope) (ns : Nat → Bool) (f : Nat) (es : Es) : Stmt → Bool
  | .Return (some e) _ => rcB kc fb sc ns f es e
  | _ => false
def asB (kc : KC) (fb : Str → Bool) (sc : Scope) (ns : Nat → Bool) (t : Tg) (f : Nat) (es : Es) : Stmt → Bool
  | .Assign [tg] e _ => rcB kc fb sc ns f es e && okTg kc fb sc t tg && notStar tg
  | _ => false
mutual
def okX (kc : KC) (fb : Str → Bool) (sc : Scope) (ns : Nat → Bool) : S → Stmt → Bool
  | .rais c es, st => (match es with | .cons m .nil => raB kc fb sc ns c m st | _ => false)
  | .ex m, st => (match m with | .call f es => exB kc fb sc ns f es st | _ => false)
  | .ret m, st => (match m with | .call f es => reB kc fb sc ns f es st | _ => false)
  | .asg t m, st => (match m with | .call f es => asB kc fb sc ns t f es st | _ => false)
  | .iff c a b, .If c' a' b' _ => okE kc fb sc c c' && noIte c && nxE ns c && okXs kc fb sc ns a a' && okXs kc fb sc ns b b'
  | .forr t it b, .For tg iter b' [] _ => okI kc fb sc it tg iter && nxI ns it && okTg kc fb sc t tg && notSet iter && okXs kc fb sc ns b b'
  | _, _ => false
def okXs (kc : KC) (fb : Str → Bool) (sc : Scope) (ns : Nat → Bool) : Ss → List Stmt → Bool
  | .nil, [] => true
  | .cons m ms, st :: sts => ((okS kc fb sc m st && nxS ns m) || okX kc fb sc ns m st) && okXs kc fb sc ns ms sts
  | _, _ => false
end
section
variable {kc : KC} {call : Nat → Nat → List Val → MH → Res Val} {C : EC} {fb : Str → Bool} {sc : Scope} {X : Cx} {ns : Nat → Bool} {E : XK}
theorem rc_s {f : Nat} {es : Es} {e : Expr} (GS : GoodS kc call C fb sc X) (tk : L2N.Takes X (wE E)) (hn : ∀ f vs h, ns f = true → NX (C.call f vs h)) (h : rcB kc fb sc ns f es e = true) : XE1 X C e f es (wE E) ∧ isComp e = false ∧ (∃ a b c d, e = .Call a b c d) := by
  have G := GS.toGood
  unfold rcB at h
  split at h
  · rename_i x px es' p
    simp only [Bool.and_eq_true, decide_eq_true_eq, Bool.not_eq_true'] at h
    obtain ⟨⟨⟨⟨⟨⟨c1, c2⟩, c3⟩, c4⟩, c5⟩, c6⟩, c7⟩ := h
    obtain ⟨k, fa, fd, ps, F, hr, hm, hk, hb⟩ := GS.xf f x c1 c2
    cases es' with
    | nil => simp at c6
    | cons e0 es' =>
      obtain ⟨sa, hss⟩ := okEs_s es (e0 :: es') fb sc X G c5
      rw [List.all_cons, Bool.and_eq_true] at hss
      exact ⟨x_call tk F G.hC hr G.gd (G.gl' c3) hm hk hb sa (fun g h => nx_evs hn es c7 g h) (dbg2 c4).1 hss.1 hss.2, rfl, _, _, _, _, rfl⟩
  · cases h
theorem ra_s {c : Str} {m : MP.E} {st : Stmt} (GS : GoodS kc call C fb sc X) (tk : L2N.Takes X (wE E)) (hn : ∀ f vs h, ns f = true → NX (C.call f vs h)) (h : raB kc fb sc ns c m st = true) : XS X C st (.rais c (.cons m .nil)) (wE E) := by
  have G := GS.toGood
  unfold raB at h
  split at h
  · rename_i x px e p p2
    simp only [Bool.and_eq_true, decide_eq_true_eq] at h
    obtain ⟨⟨⟨⟨rfl, c2⟩, c3⟩, c4⟩, c5⟩ := h
    split at c2
    · rename_i f hf
      obtain ⟨CA, fI, fd, T⟩ := GS.xc _ _ (of_decide_eq_true c2)
      obtain ⟨sa, hss⟩ := okEs_s _ _ fb sc X G c4
      simp only [List.all_cons, List.all_nil, Bool.and_eq_true] at hss
      exact x_rais G.calm tk T GS.r2 (G.gl' c3) sa (fun g h => nx_evs hn (.cons m .nil) (by simp only [nxEs, Bool.and_eq_true]; exact ⟨c5, trivial⟩) g h) hss.1
    · cases c2
  · cases h
theorem ex_s {f : Nat} {es : Es} {st : Stmt} (GS : GoodS kc call C fb sc X) (tk : L2N.Takes X (wE E)) (hn : ∀ f vs h, ns f = true → NX (C.call f vs h)) (h : exB kc fb sc ns f es st = true) : XS X C st (.ex (.call f es)) (wE E) := by
  unfold exB at h
  split at h
  · obtain ⟨a, b, _⟩ := rc_s GS tk hn h
    exact x_ex a b
  · cases h
theorem re_s {f : Nat} {es : Es} {st : Stmt} (GS : GoodS kc call C fb sc X) (tk : L2N.Takes X (wE E)) (hn : ∀ f vs h, ns f = true → NX (C.call f vs h)) (h : reB kc fb sc ns f es st = true) : XS X C st (.ret (.call f es)) (wE E) := by
  unfold reB at h
  split at h
  · obtain ⟨a, b, _⟩ := rc_s GS tk hn h
    exact x_ret a
  · cases h
theorem two_call {a : Expr} {b : List Expr} {c : List Keyword} {d : Pos} (tg : Expr) : twoTup tg (.Call a b c d) = false := by cases tg <;> rfl
theorem as_s {t : Tg} {f : Nat} {es : Es} {st : Stmt} (GS : GoodS kc call C fb sc X) (tk : L2N.Takes X (wE E)) (hn : ∀ f vs h, ns f = true → NX (C.call f vs h)) (h : asB kc fb sc ns t f es st = true) : XS X C st (.asg t (.call f es)) (wE E) := by
  have G := GS.toGood
  unfold asB at h
  split at h
  · simp only [Bool.and_eq_true] at h
    obtain ⟨a, b, q1, q2, q3, q4, rfl⟩ := rc_s GS tk hn h.1.1
    exact x_asg a (okTg_s G t _ h.1.2) (swapsS_plain rfl) (nt_sw (two_call _)) h.2
  · cases h
mutual
theorem okX_s (hn : ∀ f vs h, ns f = true → NX (C.call f vs h)) : ∀ (m : S) (st : Stmt) (fb : Str → Bool) (sc : Scope) (X : Cx) (E : XK), GoodS kc call C fb sc X → PassesOwn (model X.prog X.w) X.A X.env X.xe → L2N.Takes X (wE E) → okX kc fb sc ns m st = true → XS X C st m (wE E)
  | .rais c es, st, fb, sc, X, E, GS, hp, tk, h => by
    match es, h with
    | .cons m .nil, h => exact ra_s GS tk hn h
    | .nil, h => exact Bool.noConfusion h
    | .cons _ (.cons _ _), h => exact Bool.noConfusion h
  | .ex m, st, fb, sc, X, E, GS, hp, tk, h => by
    cases m with
    | call f es => exact ex_s GS tk hn h
    | _ => exact Bool.noConfusion h
  | .ret m, st, fb, sc, X, E, GS, hp, tk, h => by
    cases m with
    | call f es => exact re_s GS tk hn h
    | _ => exact Bool.noConfusion h
  | .asg t m, st, fb, sc, X, E, GS, hp, tk, h => by
    cases m with
    | call f es => exact as_s GS tk hn h
    | _ => exact Bool.noConfusion h
  | .iff c a b, st, fb, sc, X, E, GS, hp, tk, h => by
    have G := GS.toGood
    cases st with
    | If c' a' b' pos =>
      simp only [okX, Bool.and_eq_true] at h
      obtain ⟨⟨⟨⟨h1, h2⟩, h3⟩, h4⟩, h5⟩ := h
      exact x_iff ((okE_s c c' fb sc X G h1).st h2) (fun g h => nx_ev hn c h3 g h) (okXs_s hn a a' fb sc X E GS hp tk h4) (okXs_s hn b b' fb sc X E GS hp tk h5)
    | _ => exact Bool.noConfusion h
  | .forr t it b, st, fb, sc, X, E, GS, hp, tk, h => by
    have G := GS.toGood
    cases st with
    | For tg iter b' o' pos =>
      cases o' with
      | cons _ _ => exact Bool.noConfusion h
      | nil =>
        simp only [okX, Bool.and_eq_true] at h
        obtain ⟨⟨⟨⟨h1, h2⟩, h3⟩, h4⟩, h5⟩ := h
        exact x_for hp G.calm (okI_s it tg iter fb sc X G h1) (fun g h => nx_evI hn it h2 g h) (okTg_s G t tg h3) (okXs_s hn b b' fb sc X E GS hp tk h5) (set_plain h4)
    | _ => exact Bool.noConfusion h
  | .par _ _, st, fb, sc, X, E, GS, hp, tk, h => by cases st <;> exact Bool.noConfusion h
  | .sset _ _ _, st, fb, sc, X, E, GS, hp, tk, h => by cases st <;> exact Bool.noConfusion h
  | .augn _ _ _, st, fb, sc, X, E, GS, hp, tk, h => by cases st <;> exact Bool.noConfusion h
  | .augs _ _ _ _, st, fb, sc, X, E, GS, hp, tk, h => by cases st <;> exact Bool.noConfusion h
  | .whl _ _, st, fb, sc, X, E, GS, hp, tk, h => by cases st <;> exact Bool.noConfusion h
  | .pass, st, fb, sc, X, E, GS, hp, tk, h => by cases st <;> exact Bool.noConfusion h
  | .frz _, st, fb, sc, X, E, GS, hp, tk, h => by cases st <;> exact Bool.noConfusion h
  | .tri _ _ _ _ _ _ _, st, fb, sc, X, E, GS, hp, tk, h => by cases st <;> exact Bool.noConfusion h
theorem okXs_s (hn : ∀ f vs h, ns f = true → NX (C.call f vs h)) : ∀ (m : Ss) (st : List Stmt) (fb : Str → Bool) (sc : Scope) (X : Cx) (E : XK), GoodS kc call C fb sc X → PassesOwn (model X.prog X.w) X.A X.env X.xe → L2N.Takes X (wE E) → okXs kc fb sc ns m st = true → XSs X C st m E
  | .nil, st, fb, sc, X, E, GS, hp, tk, h => by
    cases st with
    | nil => exact xs_nil
    | cons _ _ => exact Bool.noConfusion h
  | .cons m ms, st, fb, sc, X, E, GS, hp, tk, h => by
    cases st with
    | nil => exact Bool.noConfusion h
    | cons st sts =>
      simp only [okXs, Bool.and_eq_true, Bool.or_eq_true] at h
      have tl := okXs_s hn ms sts fb sc X E GS hp tk h.2
      rcases h.1 with z | z
      · exact xs_pl (okS_s m st fb sc X GS z.1) (fun g h => nx_ex hn m z.2 g h) tl
      · exact xs_cons (okX_s hn m st fb sc X E GS hp tk z) tl
end
end
end MP

set_option maxHeartbeats 4000000
/-! MiniM: a program of defs: each keeps its promise. -/
namespace MP
open PySem PySem.Spec PyProof.Rows L2
/-- a def: its place in the mini program, its slots' names (the parameters first) and its statement -/
structure DefI where
  x : Str
  N : List Str
  st : Stmt
/-- what is checked of a def -/
structure DefOk (nm : Nat → Option Str) (gl : Str → Option Int) (xi : XI) (D : MDef) (I : DefI) : Prop where
  sc : FnScope I.N (I.N.take D.np) (defScope I.st)
  np : D.np ≤ I.N.length
  nl : I.N.length = D.np + D.nl
  body : okSs ⟨I.N, nm, gl, xi⟩ (fun _ => true) (defScope I.st) D.body (defBody I.st) = true
def XI.ns (xi : XI) (f : Nat) : Bool := decide (f ∈ xi.nsl)
/-- .. of one that may raise -/
structure DefX (nm : Nat → Option Str) (gl : Str → Option Int) (xi : XI) (D : MDef) (I : DefI) : Prop where
  kp : D.keep = false
  body : okXs ⟨I.N, nm, gl, xi⟩ (fun _ => true) (defScope I.st) xi.ns D.body (defBody I.st) = true
abbrev FnP (K : PySem.W.Frag) (I : DefI) (f : Addr) (fd : FuncData) : Prop := FunD K I.x I.x (defArgs I.st) (defBody I.st) (defScope I.st) [] [] f fd
/-- the program behind the top -/
structure Prog (K : PySem.W.Frag) (mg : Str → Option Value) (gl : Str → Option Int) (xi : XI) (P : Nat → Option MDef) (tb : Nat → Option DefI) : Prop where
  bn : ∀ x ∈ bNames, mg x = none
  gs : ∀ x j, gl x = some j → ∃ t, mg x = some (.int j t)
  fn : ∀ f I, tb f = some I → ∃ D fa fd, P f = some D ∧ DefOk (fun f => (tb f).map (·.x)) gl xi D I ∧ FnP K I fa fd ∧ mg I.x = some (.ref fa) ∧ Binds K fd (I.N.take D.np) []
  xc : ∀ c f, (c, f) ∈ xi.cls → ∃ CA fI fd, XCl K mg c f CA fI fd
  xh : ∀ A f R B1 B2, (A, f, R, B1, B2) ∈ xi.hds → ∃ CA, XHd K mg A f R B1 B2 CA
  xf : ∀ f I D, f ∈ xi.xs → tb f = some I → P f = some D → DefX (fun f => (tb f).map (·.x)) gl xi D I
  xn : ∀ f D, xi.ns f = true → P f = some D → nxSs xi.ns D.body = true
theorem RelE_start {K : PySem.W.Frag} {w : Wd} {vs : List V} {args : List Val} {N : List Str} {nl : Nat} (q : RvL K w vs args) (h : N.length = args.length + nl) : RelE K w (L2.start N vs) (args.map some ++ List.replicate nl none) := by
  have hl := q.length
  refine ⟨?_, fun i v e => ?_⟩
  · unfold L2.start
    simp only [List.length_append, List.length_map, List.length_replicate]
    omega
  · by_cases hi : i < args.length
    · rw [List.getElem?_append_left (by simpa using hi), List.getElem?_map] at e
      cases e1 : args[i]? with
      | none => rw [e1] at e; cases e
      | some u =>
        rw [e1] at e
        simp only [Option.map_some, Option.some.injEq] at e
        subst e
        obtain ⟨x, e2, r⟩ := RpL.get q e1
        refine ⟨x, ?_, r⟩
        unfold L2.start
        rw [List.getElem?_append_left (by rw [List.length_map, hl]; exact hi), List.getElem?_map, e2]
        rfl
    · rw [List.getElem?_append_right (by simpa using Nat.le_of_not_lt hi), List.getElem?_replicate] at e
      split at e <;> cases e
def flV : Fl → Val
  | .nx _ => .non
  | .rt u => u
theorem fnEnd_eq (keep : Bool) (n : Nat) (fl : Fl) (h : MH) : fnEnd keep n fl h = if keep = true then .ok (flV fl) h else if below n (flV fl) = true then .ok (flV fl) (h.take n) else .stuck := by
  cases fl <;> rfl
theorem fns {Pr : Program} {w0 : World} {K : PySem.W.Frag} {mg : Str → Option Value} {gl : Str → Option Int} {xi : XI} {base : Heap} {P : Nat → Option MDef} {tb : Nat → Option DefI} (G : Prog K mg gl xi P tb) (sm : ∃ o, base.get? sysModules = some o) (fuel : Nat) :
    ∀ (d : Nat), (∀ (f : Nat) (I : DefI) (D : MDef) (fa : Addr) (fd : FuncData), tb f = some I → P f = some D → DefOk (fun f => (tb f).map (·.x)) gl xi D I → FnP K I fa fd → FnG Pr w0 K mg base CX0 (d + 3) fa fd (I.N.take D.np) (spF K (callM P fuel d) f)) ∧
      (∀ (f : Nat) (I : DefI) (D : MDef) (fa : Addr) (fd : FuncData), f ∈ xi.xs → tb f = some I → P f = some D → DefOk (fun f => (tb f).map (·.x)) gl xi D I → FnP K I fa fd → FnG Pr w0 K mg base (L2N.CX Pr w0) (d + 3) fa fd (I.N.take D.np) (spX K mg (callM P fuel d) f)) := by
  intro d
  induction d with
  | zero =>
    refine ⟨fun f I D fa fd hI hP hD hF => ?_, fun f I D fa fd hx hI hP hD hF => ?_⟩
    · have no : ∀ vs H Q E, ¬ spF K (callM P fuel 0) f vs H Q E := by
        rintro vs H Q E ⟨b, w, args, _, _, v, h', e, _⟩
        unfold callM at e
        cases e
      exact ⟨fun vs H Q E h => (no vs H Q E h).elim, fun A outer s H args us vs Q E hr hg he hb hv h => (no vs H Q E h).elim⟩
    · have no : ∀ vs H Q E, ¬ spX K mg (callM P fuel 0) f vs H Q E := by
        rintro vs H Q E ⟨b, w, args, _, _, ⟨v, h', e, _⟩ | ⟨c, us, h', e, _⟩⟩ <;> (unfold callM at e; cases e)
      exact ⟨fun vs H Q E h => (no vs H Q E h).elim, fun A outer s H args us vs Q E hr hg he hb hv h => (no vs H Q E h).elim⟩
  | succ d ih =>
    have good : ∀ (X : Cx) (C : EC) (I : DefI) (D : MDef), DefOk (fun f => (tb f).map (·.x)) gl xi D I → X.N = I.N → X.env.scope = defScope I.st → X.calm = true → X.prog = Pr → X.w = w0 → X.K = K → X.mg = mg → X.base = base → Room (d + 3) X.A → (∀ x, X.fn x = true) → C.call = callM P fuel d C.base →
        PassesOwn (model X.prog X.w) X.A X.env X.xe → X.A.guards = some [] → X.stack = X.env :: X.outer → X.env.frame = some X.env.locals → GoodS ⟨I.N, fun f => (tb f).map (·.x), gl, xi⟩ (callM P fuel d) C (fun _ => true) (defScope I.st) X := by
      intro X C I D hD hN hsc hcalm h1 h2 h3 h4 h5 hr hfn hC hp hgd hst hfr
      subst h1 h2 h3 h4 h5
      exact {
        hN := hN, nd := hD.sc.nd, hsc := hsc, knd := hD.sc.kind, calm := hcalm
        hu := by have := hr.un; omega
        hfb := fun x _ => hfn x
        bn := G.bn, gl := G.gs
        fn := fun f' x' e' => by
          cases hI' : tb f' with
          | none => simp only [hI'] at e'; cases e'
          | some I' =>
            simp only [hI', Option.map_some, Option.some.injEq] at e'
            subst e'
            obtain ⟨D', fa', fd', p', q', r', s', t'⟩ := G.fn f' I' hI'
            exact ⟨d + 3, fa', fd', _, ih.1 f' I' D' fa' fd' hI' p' q' r', hr, s', r'.kp, t'⟩
        hC := hC
        hp := hp
        gd := hgd
        sm := sm
        stk := hst
        frm := hfr
        xc := G.xc
        xh := G.xh
        xf := fun f' x' e' hx' => by
          cases hI' : tb f' with
          | none => simp only [hI'] at e'; cases e'
          | some I' =>
            simp only [hI', Option.map_some, Option.some.injEq] at e'
            subst e'
            obtain ⟨D', fa', fd', p', q', r', s', t'⟩ := G.fn f' I' hI'
            exact ⟨d + 3, fa', fd', _, ih.2 f' I' D' fa' fd' hx' hI' p' q' r', hr, s', r'.kp, t'⟩
        r2 := hr.mono (by omega) }
    refine ⟨fun f I D fa fd hI hP hD hF => ?_, fun f I D fa fd hx hI hP hD hF => ?_⟩
    · have hlen : ∀ {b : Nat} {args : List Val} {h : MH} {v : Val} {h' : MH}, callM P fuel (d + 1) b f args h = .ok v h' → args.length = D.np := fun {b args h v h'} e => by
        unfold callM at e
        simp only [hP] at e
        split at e
        · assumption
        · cases e
      refine FnG.of hF hD.sc (fun vs H Q E ⟨b, w, args, _, q, v, h', e, _⟩ => ?_) (fun cdv A outer s H vs Q E hgd hr ⟨b, w, args, at_, q, ok⟩ => ?_)
      · rw [q.length, hlen e, List.length_take, Nat.min_eq_left hD.np]
      · obtain ⟨v, h', e, k⟩ := ok
        have hl := hlen e
        unfold callM at e
        simp only [hP, if_pos hl] at e
        let C : EC := ⟨callM P fuel d (if D.keep then b else w.h.length), if D.keep then b else w.h.length, fuel⟩
        obtain ⟨fl, h1, e1, e2⟩ := bind_eq_ok e
        have Gd := good (cxOf CX0 Pr w0 K mg base I.N I.x (defScope I.st) fa cdv A outer s H E).nox C I D hD rfl rfl rfl rfl rfl rfl rfl rfl hr (fun _ => rfl) rfl PassesOwn.never hgd rfl rfl
        refine ⟨tMSs K C D.body, PSs.nox (okSs_s D.body (defBody I.st) _ _ _ Gd hD.body), ?_⟩
        refine ⟨w, args.map some ++ List.replicate D.nl none, ?_, RelE_start q (by rw [hl]; exact hD.nl), fl, h1, e1, fun w' e3 t R => ?_⟩
        · refine ⟨at_.hH, at_.rel, ?_⟩
          show (if D.keep then b else w.h.length) ≤ w.h.length
          split
          · exact at_.hb
          · exact Nat.le_refl _
        · have key : ∀ x, Rv K w' x (flV fl) → Q x w'.H := fun x rx => by
            rw [fnEnd_eq] at e2
            by_cases hk : D.keep = true
            · rw [if_pos hk] at e2
              cases e2
              exact k w' e3 (by have : C.base = b := if_pos hk; rw [← this]; exact t) R x rx
            · have hc : C.base = w.h.length := if_neg hk
              rw [if_neg hk] at e2
              by_cases hb : below w.h.length (flV fl) = true
              · rw [if_pos hb] at e2
                cases e2
                rw [hc] at t
                obtain ⟨t2, R2, hl2⟩ := to_cut R at_.rel t (t.low _ (Nat.le_refl _) at_.rel.low) at_.hb
                refine k ⟨w'.r.take w.h.length, w'.H, w'.h.take w.h.length, w'.res⟩ (by rw [← e3]) t2 R2 x ?_
                exact rv_cut hb rx hl2 R.lst
              · rw [if_neg hb] at e2
                cases e2
          cases fl with
          | nx g => exact fun σ' _ => key .non .non
          | rt u => exact fun x rx => key x rx
    · have DX := G.xf f I D hx hI hP
      have ne : xi.xs ≠ [] := fun z => by rw [z] at hx; cases hx
      have hlen : ∀ {b : Nat} {args : List Val} {h : MH}, callM P fuel (d + 1) b f args h ≠ .stuck → args.length = D.np := fun {b args h} e => by
        unfold callM at e
        simp only [hP] at e
        split at e
        · assumption
        · exact absurd rfl e
      have ns : ∀ {b : Nat} {w : Wd} {args : List Val} {Q : VK} {E : XK}, OKX K mg b w.h.length w (callM P fuel (d + 1) b f args w.h) Q E → callM P fuel (d + 1) b f args w.h ≠ .stuck := fun {b w args Q E} ok z => by
        rw [z] at ok
        rcases ok with ⟨_, _, z, _⟩ | ⟨_, _, _, z, _⟩ <;> cases z
      refine FnG.of hF hD.sc (fun vs H Q E ⟨b, w, args, _, q, ok⟩ => ?_) (fun cdv A outer s H vs Q E hgd hr ⟨b, w, args, at_, q, ok⟩ => ?_)
      · rw [q.length, hlen (ns ok), List.length_take, Nat.min_eq_left hD.np]
      · have hl := hlen (ns ok)
        unfold callM at ok
        simp only [hP, if_pos hl, DX.kp, if_neg (show ¬ (false = true) by decide)] at ok
        let C : EC := ⟨callM P fuel d w.h.length, w.h.length, fuel⟩
        have hp : PassesOwn (model Pr w0) (cxOf (L2N.CX Pr w0) Pr w0 K mg base I.N I.x (defScope I.st) fa cdv A outer s H E).A (cxOf (L2N.CX Pr w0) Pr w0 K mg base I.N I.x (defScope I.st) fa cdv A outer s H E).env (cxOf (L2N.CX Pr w0) Pr w0 K mg base I.N I.x (defScope I.st) fa cdv A outer s H E).xe :=
          passes_of (X := cxOf (L2N.CX Pr w0) Pr w0 K mg base I.N I.x (defScope I.st) fa cdv A outer s H E) rfl
        have Gd := good (cxOf (L2N.CX Pr w0) Pr w0 K mg base I.N I.x (defScope I.st) fa cdv A outer s H E) C I D hD rfl rfl rfl rfl rfl rfl rfl rfl hr (fun _ => rfl) rfl hp hgd rfl rfl
        have tk : L2N.Takes (cxOf (L2N.CX Pr w0) Pr w0 K mg base I.N I.x (defScope I.st) fa cdv A outer s H E) (wE E) := L2N.takes_of rfl rfl rfl rfl
        refine ⟨tMSsX K mg C D.body E, okXs_s (ns := xi.ns) (fun f' vs' h' z => nx_call (fun f2 D2 z2 e2 => G.xn f2 D2 z2 e2) d _ f' vs' h' z) D.body (defBody I.st) _ _ _ E Gd hp tk DX.body, ?_⟩
        refine ⟨w, args.map some ++ List.replicate D.nl none, ⟨at_.hH, at_.rel, Nat.le_refl _⟩, RelE_start q (by rw [hl]; exact hD.nl), ?_⟩
        have ok2 : OKX K mg b w.h.length w ((exs C D.body (args.map some ++ List.replicate D.nl none) w.h).bind (fnEnd false w.h.length)) Q E := ok
        cases r : exs C D.body (args.map some ++ List.replicate D.nl none) w.h with
        | stuck => rw [r] at ok2; rcases ok2 with ⟨_, _, z, _⟩ | ⟨_, _, _, z, _⟩ <;> cases z
        | exc c us h' =>
          rw [r] at ok2
          rcases ok2 with ⟨_, _, z, _⟩ | ⟨c', us', h2, z, kk⟩
          · cases z
          · simp only [Res.bind, Res.exc.injEq] at z
            obtain ⟨rfl, rfl, rfl⟩ := z
            exact .inr ⟨_, _, _, rfl, kk⟩
        | ok fl h1 =>
          rw [r] at ok2
          rcases ok2 with ⟨v, h', e2, k⟩ | ⟨c, us, h', e2, _⟩
          · have e2 : fnEnd false w.h.length fl h1 = .ok v h' := e2
            refine .inl ⟨fl, h1, rfl, fun w' e3 t R => ?_⟩
            have key : ∀ x, Rv K w' x (flV fl) → Q x w'.H := fun x rx => by
              rw [fnEnd_eq, if_neg (by decide)] at e2
              by_cases hb : below w.h.length (flV fl) = true
              · rw [if_pos hb] at e2
                cases e2
                obtain ⟨t2, R2, hl2⟩ := to_cut R at_.rel t (t.low _ (Nat.le_refl _) at_.rel.low) at_.hb
                refine k ⟨w'.r.take w.h.length, w'.H, w'.h.take w.h.length, w'.res⟩ (by rw [← e3]) t2 R2 x ?_
                exact rv_cut hb rx hl2 R.lst
              · rw [if_neg hb] at e2
                cases e2
            cases fl with
            | nx g => exact fun σ' _ => key .non .non
            | rt u => exact fun x rx => key x rx
          · have e2 : fnEnd false w.h.length fl h1 = .exc c us h' := e2
            rw [fnEnd_eq, if_neg (by decide)] at e2
            split at e2 <;> cases e2
end MP

set_option maxHeartbeats 4000000
/-! MiniN: a law's end. -/
namespace MP
open PySem PySem.Spec PyProof.Rows L2
/-- what is tracked at the law's call: the script, if the text does not know it -/
def scrH (K : PySem.W.Frag) (a : Addr) (vs : List Value) (ns : List Int) : Hp := fun b =>
  if b = a ∧ K.lookup a = none then some (.frz { cls := .type "list", data := .seq vs.toArray } (.lst (ns.map V.int))) else none
theorem scrH_none {K : PySem.W.Frag} {a b : Addr} {vs : List Value} {ns : List Int} (h : b ≠ a ∨ K.lookup a ≠ none) : scrH K a vs ns b = none := if_neg fun z => h.elim (fun y => y z.1) fun y => y z.2
theorem scrH_some {K : PySem.W.Frag} {a b : Addr} {vs : List Value} {ns : List Int} {u : HO} (h : scrH K a vs ns b = some u) : b = a ∧ K.lookup a = none ∧ u = .frz { cls := .type "list", data := .seq vs.toArray } (.lst (ns.map V.int)) := by
  unfold scrH at h
  split at h
  · rename_i z; cases h; exact ⟨z.1, z.2, rfl⟩
  · cases h
/-- the law's promise in mini: it answers True -/
def Told (P : Nat → Option MDef) (f d : Nat) (ns : List Int) : Prop := ∃ fuel h', callM P fuel d 0 f [.scr ns] [] = .ok (.bl true) h'
theorem law_callG {P : Program} {w : World} {K : PySem.W.Frag} {mg mb : Str → Option Value} {k : Nat} {fa a : Addr} {fd : FuncData} {x : Str} {sp : Sp} {s1 : Shared} {vs : List Value} {ns : List Int}
    (kin : K.In s1.heap) (gns : s1.heap.Ns mainGlobals mg) (bns : s1.heap.Ns builtinsNs mb) (boot : ∀ x : Str, x ≠ "__name__" → mb x = bootBuiltins x) (nl : s1.heap.NoLimit) (ng : s1.gens = #[])
    (obj : s1.heap.get? a = some { cls := .type "list", data := .seq vs.toArray }) (hin : IntsAre vs ns) (len : ns.length ≤ sizeLine) (room : Room k callerA)
    (hsm : ∃ o, s1.heap.get? sysModules = some o ∧ o.cls = .type "dict") (F : ∀ base : Heap, (∃ o, base.get? sysModules = some o) → FnG P w K mg base CX0 k fa fd [x] sp) (bt : ∀ (s : Shared) (u : Value), BindsTo s fd ⟨[u], []⟩ [(x, u)])
    (want : sp [.ref a] (scrH K a vs ns) (fun v _ => v = .bl true) fun _ _ _ => False) :
    codeAny (model P w) callerA (.call (.ref fa) ⟨[.ref a], []⟩) (fun r s' => r = .ok (.ret (.bool true)) ∧ OldK s1.heap s'.heap ∧ s'.os = s1.os ∧ AllBare s'.gens) s1 := by
  let H := scrH K a vs ns
  have free : ∀ {b : Addr} {o : Obj} {es : Array DictEntry} {n : Nat}, s1.heap.get? b = some o → o.data = .dict es n → H b = none := by
    intro b o es n e d
    apply scrH_none
    left
    rintro rfl
    rw [obj] at e
    cases e
    cases d
  have stay : ∀ {b : Addr} {o : Obj}, s1.heap.get? b = some o → H b = none → (hidT s1.heap H).get? b = some o := fun e n => hidT_get e n
  have nsT : ∀ {b : Addr} {m : Str → Option Value}, s1.heap.Ns b m → (hidT s1.heap H).Ns b m := by
    rintro b m ⟨o, es, n, e, d, r⟩
    exact ⟨o, es, n, stay e (free e d), d, r⟩
  have kinT : K.In (hidT s1.heap H) := by
    intro b o e
    refine stay (kin b o e) ?_
    by_cases q : b = a
    · subst q; exact scrH_none (.inr (by rw [e]; simp))
    · exact scrH_none (.inl q)
  have nlT : (hidT s1.heap H).NoLimit := by
    obtain ⟨mc, p, q⟩ := nl
    exact ⟨mc, nsT p, q⟩
  have hok : HOk P w H s1.heap := by
    intro b u e
    obtain ⟨rfl, _, rfl⟩ := scrH_some e
    exact ⟨obj, by rw [List.length_map]; exact len, vs, 0, vals_ints hin, obj⟩
  have e0 : Env0 P w K mg (hidT s1.heap H) callerA [] s1 H := ⟨rfl, ⟨kinT, nsT gns, ⟨mb, nsT bns, boot⟩, nlT⟩, fun b o e => of_hidT e, Nat.le_of_eq (hidT_size _ _), trivial, fun b z => (List.not_mem_nil z).elim, hok, .of_eq ng⟩
  have smT : ∃ o, (hidT s1.heap H).get? sysModules = some o := by
    obtain ⟨o, e, c⟩ := hsm
    refine ⟨o, stay e (scrH_none (.inl ?_))⟩
    rintro rfl
    rw [obj] at e
    cases e
    exact absurd (show Value.type "list" = Value.type "dict" from c) (by decide)
  refine codeAny_mono ((F (hidT s1.heap H) smT).go callerA [] s1 H ⟨[.ref a], []⟩ [.ref a] [.ref a] _ _ room rfl e0 (bt s1 (.ref a)) (.cons rfl .nil) want) ?_
  rintro (e | fl) s' z
  · exact z.elim
  · cases fl with
    | next => exact z.elim
    | brk => exact z.elim
    | cont => exact z.elim
    | ret u =>
      obtain ⟨v, H', os, bare, un, hok', rv, q⟩ := z
      cases (show v = .bl true from q)
      cases (show u = Value.bool true from rv)
      refine ⟨rfl, OldK.of_keep fun b o e => ?_, os, bare⟩
      cases hb : H b with
      | none => exact un.keep b o e hb List.not_mem_nil List.not_mem_nil
      | some y =>
        obtain ⟨rfl, _, rfl⟩ := scrH_some hb
        rw [obj] at e
        cases e
        exact (hok' _ _ (un.frzs _ _ _ hb)).1
theorem scr_told {P : Nat → Option MDef} {K : PySem.W.Frag} {fuel d f : Nat} {a : Addr} {vs : List Value} {ns : List Int} {h' : MH} (kv : K.lookup a ≠ none → ∀ G : Hp, SqL K G a (ns.map V.int)) (e : callM P fuel d 0 f [.scr ns] [] = .ok (.bl true) h') :
    spF K (callM P fuel d) f [.ref a] (scrH K a vs ns) (fun v _ => v = .bl true) fun _ _ _ => False := by
  refine ⟨0, ⟨[], scrH K a vs ns, [], []⟩, [.scr ns], ⟨rfl, ⟨rfl, ?_, ?_, ?_, ?_⟩, Nat.le_refl _⟩, .cons ?_ .nil, .bl true, h', e, fun w' _ _ _ x q => by cases q; rfl⟩
  · intro i j b c d e1; cases e1
  · intro i c b e1; cases e1
  · intro b z; cases z
  · intro b z; cases z
  · refine .scr ?_
    by_cases hk : K.lookup a = none
    · refine .inl ⟨.inr ⟨_, if_pos ⟨rfl, hk⟩⟩, ?_⟩
      rintro (⟨i, c, z, _⟩ | z)
      · cases z
      · cases z
    · exact .inr (kv hk)
/-- a law: the program behind the top, and what it tells in mini -/
theorem law_end {l : PySem.W.OpenLaw} {n d f : Nat} {q : Program} {loose : List Str} {XP : (Str → Option Value) → Heap → Prop} {YP : World → Heap → Prop} {D : DefRec} {x : Str} {P : Nat → Option MDef} {tb : Nat → Option DefI} {gl : Str → Option Int} {xi : XI} {I : DefI}
    (hn : l.most = some n) (hz : n ≤ sizeLine) (hd : D.params.defaults = []) (room : Room (d + 3) callerA) (hI : tb f = some I) (hp : ∀ m, P f = some m → I.N.take m.np = [x])
    (F : ∀ (w : World) (mg : Str → Option Value) (fa : Addr) (h : Heap), YP w h → h.Ns mainGlobals mg → mg D.name = some (.ref fa) → (∃ o, h.get? sysModules = some o ∧ o.cls = .type "dict") ∧ ∃ K : PySem.W.Frag, K.In h ∧ Prog K mg gl xi P tb ∧ mg I.x = some (.ref fa) ∧ ∀ fd, FnP K I fa fd → ∀ (s : Shared) (u : Value), BindsTo s fd ⟨[u], []⟩ [(x, u)])
    (told : ∀ ns : List Int, ns.length ≤ n → Told P f d ns) : PySem.W.WalkO q loose XP YP l.row.toRowW D [] (fun f vs => PySem.call f vs) := by
  refine Att.attach_call hn hd fun w s0 s1 mg mb fa o pm cd doc a vs ns G Y ho hod hcd hmg obj hin len ng => ?_
  obtain ⟨hsm, K, kin, pr, hmI, bt⟩ := F w mg fa _ Y G.T.g hmg
  obtain ⟨m, fa', fd, hP, ok, fn, hm, _⟩ := pr.fn f I hI
  rw [hm] at hmI
  cases hmI
  obtain ⟨fuel, h', e⟩ := told ns len
  have e1 := hp m hP
  refine law_callG (sp := spF K (callM P fuel d) f) kin G.T.g G.T.b G.T.builtins G.T.nolimit ng obj hin (Nat.le_trans len hz) room hsm (fun base hb => ?_) (bt fd fn) (scr_told ?_ e)
  · have := (fns (Pr := l.prog) (w0 := w) (base := base) pr hb fuel d).1 f I m fa fd hI hP ok fn
    rwa [e1] at this
  · intro hk G
    cases hk' : K.lookup a with
    | none => exact absurd hk' hk
    | some ob =>
      have z := kin a ob hk'
      rw [obj] at z
      cases z
      exact .inr ⟨_, vs.toArray, _, hk', rfl, rfl, rfl, by have := hin.length; rw [List.size_toArray]; omega, by simpa using vals_ints hin⟩
end MP

set_option maxHeartbeats 4000000
/-! MiniO: the program behind the top, from the facts that the head tells. -/
namespace MP
open PySem PySem.Spec PyProof.Rows L2
/-- a table of defs -/
abbrev Tab := List (Nat × MDef × DefI)
def Tab.prog (T : Tab) (f : Nat) : Option MDef := (T.lookup f).map (·.1)
def Tab.defs (T : Tab) (f : Nat) : Option DefI := (T.lookup f).map (·.2)
def Tab.nm (T : Tab) (f : Nat) : Option Str := (T.defs f).map (·.x)
def glO (gs : List (Str × Int)) (x : Str) : Option Int := gs.lookup x
def datum (I : DefI) : He.DefD := ⟨(I.x, none), I.x, I.x, defArgs I.st, defBody I.st, defScope I.st, [], []⟩
/-- an error's class: its name, its field, its __init__ -/
structure ClsI where
  c : Str
  f : Str
  st : Stmt
structure XT where
  xs : List Nat
  nsl : List Nat
  cl : List ClsI
  hds : List (Str × Str × Str × Str × Str)
def XT.xi (X : XT) : XI := ⟨X.xs, X.nsl, X.cl.map fun c => (c.c, c.f), X.hds⟩
def XT.no : XT := ⟨[], [], [], []⟩
def cdatum (I : ClsI) : He.DefD := ⟨(I.c, some "__init__"), "__init__", I.c ++ (".__init__" : Str), defArgs I.st, defBody I.st, defScope I.st, [], []⟩
def Tab.fn (T : Tab) (X : XT) : List He.DefD := T.map (fun p => datum p.2.2) ++ X.cl.map cdatum
def Tab.fa (T : Tab) (gs : List (Str × Int)) (X : XT) : List He.Fa := bNames.map .free ++ (T.map (fun p => .glo p.2.2.x) ++ gs.map fun p => .int p.1 p.2) ++ (X.cl.map (fun c => .glo c.c) ++ X.hds.flatMap fun h => [.glo h.1, .glo h.2.2.1, .glo h.2.2.2.1, .glo h.2.2.2.2])
/-- what is checked of one def -/
structure Chk (T : Tab) (gs : List (Str × Int)) (X : XT) (p : Nat × MDef × DefI) : Prop where
  ok : DefOk T.nm (glO gs) X.xi p.2.1 p.2.2
  bd : ∀ (kV doc pm : Value) (an : Option Addr) (cdv ct : Value) (us : List Value), us.length = (p.2.2.N.take p.2.1.np).length → bindArgs (PySem.W.fnOf p.2.2.x p.2.2.x (defArgs p.2.2.st) (defBody p.2.2.st) (defScope p.2.2.st) .none kV doc pm an cdv ct) ⟨us, []⟩ = pure ((p.2.2.N.take p.2.1.np).zip us)
/-- .. of an error's class -/
structure ClsOk (I : ClsI) : Prop where
  body : ∃ q1 q2 q3 q4, defBody I.st = [.Assign [.Attribute (.Name "self" q1) I.f q2] (.Name I.f q3) q4]
  sc : FnScope ["self", I.f] ["self", I.f] (defScope I.st)
  l1 : (defScope I.st).names.lookup ("self" : Str) = some .local
  l2 : (defScope I.st).names.lookup I.f = some .local
  fx : xfld I.c = some I.f
  db : (I.f == ("__debug__" : Str)) = false ∧ (I.f == ("__classdict__" : Str)) = false ∧ (I.c == ("__debug__" : Str)) = false
  bd : ∀ (kV doc pm : Value) (an : Option Addr) (cdv ct : Value) (us : List Value), us.length = (["self", I.f] : List Str).length → bindArgs (PySem.W.fnOf "__init__" (I.c ++ (".__init__" : Str)) (defArgs I.st) (defBody I.st) (defScope I.st) .none kV doc pm an cdv ct) ⟨us, []⟩ = pure ((["self", I.f] : List Str).zip us)
structure ChkX (T : Tab) (gs : List (Str × Int)) (X : XT) : Prop where
  xf : ∀ p ∈ T, p.1 ∈ X.xs → DefX T.nm (glO gs) X.xi p.2.1 p.2.2
  xn : ∀ p ∈ T, X.xi.ns p.1 = true → nxSs X.xi.ns p.2.1.body = true
  cl : ∀ c ∈ X.cl, ClsOk c
  hm : ∀ h ∈ X.hds, (h.1, h.2.1) ∈ X.xi.cls ∧ (h.2.2.1 == ("__debug__" : Str)) = false ∧ (h.2.2.2.1 == ("__debug__" : Str)) = false ∧ (h.2.2.2.2 == ("__debug__" : Str)) = false
theorem chkX_no {T : Tab} {gs : List (Str × Int)} : ChkX T gs XT.no := ⟨(fun _ _ z => nomatch z), (fun _ _ z => nomatch z), (fun _ z => nomatch z), (fun _ z => nomatch z)⟩
/-- an error's class, in the written part -/
def oexO (C : Addr) (o : Obj) : Bool := match o.cls, o.data with
  | .type t, .cls k => decide (t = "type") && (match k.mro with
    | .ref D :: m => decide (D = C) && PySem.HandSPX.refsVE m
    | _ => false) && !k.hasDel && k.hasDict && (match o.slots.toList with
    | [_, _, _, _, some (.builtin b), _] => decide (b = "ValueError.__new__")
    | _ => false)
  | _, _ => false
def oexB (K : PySem.W.Frag) (C : Addr) : Bool := match K.lookup C with
  | some o => oexO C o
  | none => false
theorem oexB_ok {K : PySem.W.Frag} {C : Addr} (h : oexB K C = true) : ∃ nm q N bs bm sn sub ab col dd k0 k1 k2 k3 k5, K.lookup C = some (excClassObj nm q C N bs bm true sn sub ab col dd k0 k1 k2 k3 k5 "ValueError.__new__") ∧ PySem.HandSPX.refsVE bm = true := by
  unfold oexB at h
  split at h
  · rename_i o ho
    unfold oexO at h
    obtain ⟨oc, odd, oda, osl⟩ := o
    dsimp only at h
    split at h
    · rename_i t k
      simp only [Bool.and_eq_true, decide_eq_true_eq, Bool.not_eq_true'] at h
      obtain ⟨⟨⟨⟨rfl, h1⟩, h2⟩, h3⟩, h4⟩ := h
      split at h1
      · rename_i D m hm
        simp only [Bool.and_eq_true, decide_eq_true_eq] at h1
        obtain ⟨rfl, hr⟩ := h1
        split at h4
        · rename_i k0 k1 k2 k3 b k5 hs
          have hb := of_decide_eq_true h4
          subst hb
          obtain ⟨l⟩ := osl
          obtain ⟨a1, a2, a3, a4, a5, a6, a7, a8, a9, a10, a11⟩ := k
          dsimp only at hs hm h2 h3
          subst hs hm h2 h3
          exact ⟨_, _, _, _, _, _, _, _, _, _, _, _, _, _, _, ho, hr⟩
        · cases h4
      · cases h1
    · cases h
  · cases h
def xcB (K : PySem.W.Frag) (c : ClsI) : Bool := oexB K (He.ga K c.c) && (He.eqO (PySem.W.findIn K (.ref (He.ga K c.c)) "__setattr__") (some (some (.builtin "object.__setattr__"))) && (decide (PySem.W.subIn K (.ref (He.ga K c.c)) (.type "BaseException") = some true) && (decide (PySem.W.typeIn K (.ref (He.ga K c.c)) = some (.type "type")) && (PySem.W.keepIn K (.ref (He.ga K c.c)) &&
  (He.eqO (PySem.W.findIn K (.ref (He.ga K c.c)) "__init__") (some (some (.ref (He.ma K (He.ga K c.c) "__init__")))) && (decide (PySem.W.typeIn K (.ref (He.ma K (He.ga K c.c) "__init__")) = some (.type "function")) && (He.eqO (PySem.W.findIn K (.ref (He.ga K c.c)) c.f) (some none) &&
  (He.eqO (PySem.W.findIn K (.ref (He.ga K c.c)) "__getattribute__") (some (some (.builtin "BaseException.__getattribute__"))) && (He.eqO (PySem.W.findIn K (.ref (He.ga K c.c)) "__getattr__") (some none) && PySem.W.hasDictIn K (He.ga K c.c))))))))))
def xhB (K : PySem.W.Frag) (h : Str × Str × Str × Str × Str) : Bool := (PySem.W.clsIn K (He.ga K h.1)).isSome && (He.eqO (PySem.W.findIn K (.ref (He.ga K h.1)) "__getattribute__") (some (some (.builtin "BaseException.__getattribute__"))) && (He.eqO (PySem.W.findIn K (.ref (He.ga K h.1)) "__getattr__") (some none) && (decide (PySem.W.subIn K (.ref (He.ga K h.1)) (.type "BaseException") = some true) &&
  (He.eqO (PySem.W.findIn K (.ref (He.ga K h.1)) "__class__") (some (some (.builtin "object.__class__"))) && (He.eqO (PySem.W.specialIn K (.builtin "object.__class__") "__get__") (some (some (.builtin "getset_descriptor.__get__"))) && (decide (PySem.W.takesIn K (.builtin "object.__class__") = some true) && (decide (PySem.W.mroIn K (He.ga K h.1) (.type "object") = some true) &&
  (decide (PySem.W.exmOne K (.ref (He.ga K h.1)) (.ref (He.ga K h.2.2.1)) = some true) && (decide (PySem.W.kitOne K (.ref (He.ga K h.1)) (.ref (He.ga K h.1)) = some true) && (decide (PySem.W.kitOne K (.ref (He.ga K h.1)) (.type "ValueError") = some true) && decide (PySem.W.kitAny K (.ref (He.ga K h.1)) [.ref (He.ga K h.2.2.2.1), .ref (He.ga K h.2.2.2.2)] = some false)))))))))))
def xtB (K : PySem.W.Frag) (X : XT) : Bool := X.cl.all (xcB K) && X.hds.all (xhB K)
theorem lookup_mem {α β : Type} [BEq α] [LawfulBEq α] : ∀ {l : List (α × β)} {a : α} {b : β}, l.lookup a = some b → (a, b) ∈ l
  | (x, y) :: l, a, b, h => by
    rw [List.lookup_cons] at h
    split at h
    · rename_i e
      cases h
      rw [eq_of_beq e]
      exact List.mem_cons_self
    · exact List.mem_cons_of_mem _ (lookup_mem h)
theorem fact_of {fa : List He.Fa} {fn : List He.DefD} {K : PySem.W.Frag} (c : He.SaysD fa fn K) {f : He.Fa} (h : f ∈ fa) : f.ok K = true := by
  obtain ⟨i, e⟩ := List.getElem?_of_mem h
  exact c.fact i e
theorem prog_of {T : Tab} {gs : List (Str × Int)} {X : XT} {K : PySem.W.Frag} {h : Heap} {mg : Str → Option Value} (KX : K.In h) (G : h.Ns mainGlobals mg) (c : He.SaysD (T.fa gs X) (T.fn X) K) (xb : xtB K X = true) (chk : ∀ p ∈ T, Chk T gs X p) (cx : ChkX T gs X) : Prog K mg (glO gs) X.xi T.prog T.defs := by
  have glo : ∀ y : Str, He.Fa.glo y ∈ T.fa gs X → mg y = some (.ref (He.ga K y)) := fun y hy => He.glo_ok KX G (fact_of c hy)
  obtain ⟨xb1, xb2⟩ := He.ba xb
  have hcl : ∀ I ∈ X.cl, ∃ CA fI fd, CA = He.ga K I.c ∧ XCl K mg I.c I.f CA fI fd := fun I hI => by
    have q := List.all_eq_true.mp xb1 I hI
    unfold xcB at q
    obtain ⟨a1, q⟩ := He.ba q
    obtain ⟨a2, q⟩ := He.ba q
    obtain ⟨a3, q⟩ := He.ba q
    obtain ⟨a4, q⟩ := He.ba q
    obtain ⟨a5, q⟩ := He.ba q
    obtain ⟨a6, q⟩ := He.ba q
    obtain ⟨a7, q⟩ := He.ba q
    obtain ⟨a8, q⟩ := He.ba q
    obtain ⟨a9, q⟩ := He.ba q
    obtain ⟨a10, a11⟩ := He.ba q
    have ok := cx.cl I hI
    obtain ⟨i, hi⟩ := List.getElem?_of_mem (List.mem_append_right _ (List.mem_map.mpr ⟨I, hI, rfl⟩) : cdatum I ∈ T.fn X)
    obtain ⟨fd, F⟩ := c.def_ i hi
    obtain ⟨q1, q2, q3, q4, hb⟩ := ok.body
    refine ⟨_, He.ma K (He.ga K I.c) "__init__", fd, rfl, glo _ (List.mem_append_right _ (List.mem_append_left _ (List.mem_map.mpr ⟨I, hI, rfl⟩))), ⟨oexB_ok a1, He.eqO_ok a2, of_decide_eq_true a3, of_decide_eq_true a4, a5⟩, He.eqO_ok a6, of_decide_eq_true a7, ?_, ?_, He.eqO_ok a8, ⟨He.eqO_ok a9, He.eqO_ok a10, a11⟩, ok.fx, ok.db⟩
    · refine ⟨I.c ++ (".__init__" : Str), defArgs I.st, defScope I.st, q1, q2, q3, q4, ?_, ok.sc, ok.l1, ok.l2⟩
      rw [← hb]
      exact F
    · exact FunD.bindsN F fun kV doc pm an cdv ct us hl => ok.bd kV doc pm an cdv ct us hl
  refine {
    bn := fun x hx => He.free_ok KX G (fact_of c (List.mem_append_left _ (List.mem_append_left _ (List.mem_map.mpr ⟨x, hx, rfl⟩))))
    gs := fun x j e => He.int_ok KX G (fact_of c (List.mem_append_left _ (List.mem_append_right _ (List.mem_append_right _ (List.mem_map.mpr ⟨(x, j), lookup_mem e, rfl⟩)))))
    fn := fun f I e => ?_
    xc := fun cn f m => ?_
    xh := fun A f R B1 B2 m => ?_
    xf := fun f I D m e1 e2 => ?_
    xn := fun f D m e => ?_ }
  · unfold Tab.defs at e
    cases hl : T.lookup f with
    | none => rw [hl] at e; cases e
    | some q =>
      rw [hl] at e
      cases e
      have hm := lookup_mem hl
      have C := chk _ hm
      obtain ⟨i, hi⟩ := List.getElem?_of_mem (List.mem_append_left _ (List.mem_map.mpr ⟨_, hm, rfl⟩) : datum q.2 ∈ T.fn X)
      obtain ⟨fd, F⟩ := c.def_ i hi
      exact ⟨q.1, _, fd, by unfold Tab.prog; rw [hl]; rfl, C.ok, F, glo _ (List.mem_append_left _ (List.mem_append_right _ (List.mem_append_left _ (List.mem_map.mpr ⟨_, hm, rfl⟩)))), FunD.bindsN F fun kV doc pm an cdv ct us hl => C.bd kV doc pm an cdv ct us hl⟩
  · obtain ⟨I, hI, e⟩ := List.mem_map.mp m
    cases e
    obtain ⟨CA, fI, fd, _, T⟩ := hcl I hI
    exact ⟨CA, fI, fd, T⟩
  · have m : (A, f, R, B1, B2) ∈ X.hds := m
    have q := List.all_eq_true.mp xb2 _ m
    unfold xhB at q
    obtain ⟨a1, q⟩ := He.ba q
    obtain ⟨a2, q⟩ := He.ba q
    obtain ⟨a3, q⟩ := He.ba q
    obtain ⟨a4, q⟩ := He.ba q
    obtain ⟨a5, q⟩ := He.ba q
    obtain ⟨a6, q⟩ := He.ba q
    obtain ⟨a7, q⟩ := He.ba q
    obtain ⟨a8, q⟩ := He.ba q
    obtain ⟨a9, q⟩ := He.ba q
    obtain ⟨a10, q⟩ := He.ba q
    obtain ⟨a11, a12⟩ := He.ba q
    obtain ⟨hm, d1, d2, d3⟩ := cx.hm _ m
    obtain ⟨I, hI, e⟩ := List.mem_map.mp hm
    simp only [Prod.mk.injEq] at e
    obtain ⟨rfl, rfl⟩ := e
    obtain ⟨CA, fI, fd, rfl, T'⟩ := hcl I hI
    have gl : ∀ y, He.Fa.glo y ∈ [He.Fa.glo I.c, .glo R, .glo B1, .glo B2] → mg y = some (.ref (He.ga K y)) := fun y hy => glo y (List.mem_append_right _ (List.mem_append_right _ (List.mem_flatMap.mpr ⟨_, m, hy⟩)))
    exact ⟨He.ga K I.c, ⟨fI, fd, T'⟩, ⟨a1, He.eqO_ok a2, He.eqO_ok a3, of_decide_eq_true a4, He.eqO_ok a5, He.eqO_ok a6, of_decide_eq_true a7, of_decide_eq_true a8⟩, ⟨_, gl R (by simp), of_decide_eq_true a9⟩, of_decide_eq_true a10, of_decide_eq_true a11, ⟨_, _, gl B1 (by simp), gl B2 (by simp), of_decide_eq_true a12⟩, d1, d2, d3⟩
  · unfold Tab.defs at e1
    unfold Tab.prog at e2
    cases hl : T.lookup f with
    | none => rw [hl] at e1; cases e1
    | some q =>
      rw [hl] at e1 e2
      cases e1; cases e2
      exact cx.xf _ (lookup_mem hl) m
  · unfold Tab.prog at e
    cases hl : T.lookup f with
    | none => rw [hl] at e; cases e
    | some q =>
      rw [hl] at e
      cases e
      exact cx.xn _ (lookup_mem hl) m
/-- is a dict at the modules' place -/
def modsB (g : Addr → Option Obj) : Bool := match g sysModules with
  | some o => decide (o.cls = .type "dict")
  | none => false
theorem modsB_ok {g : Addr → Option Obj} (h : modsB g = true) : ∃ o, g sysModules = some o ∧ o.cls = .type "dict" := by
  unfold modsB at h
  split at h
  · rename_i o e; exact ⟨o, e, of_decide_eq_true h⟩
  · cases h
/-- the head's look, whether the modules' dict is there, what the errors' classes are -/
def hookS (n : Nat) (fa : List He.Fa) (fn : List He.DefD) (X : XT) : PySem.W.Hook where
  α := (He.AlD × Bool) × Bool
  obs := fun s => ((He.obsDG n fa fn s.heap.get?, modsB s.heap.get?), xtB (He.frG s.heap.get? (He.asD s.heap.get? n)) X)
  val := fun _ => ((He.valD fn, true), true)
  says := fun _ h => (∃ K : PySem.W.Frag, K.In h ∧ He.SaysD fa fn K ∧ xtB K X = true) ∧ ∃ o, h.get? sysModules = some o ∧ o.cls = .type "dict"
  of := fun _ s e => ⟨⟨_, He.frG_in, congrArg (fun z : (He.AlD × Bool) × Bool => z.1.1) e, congrArg (fun z : (He.AlD × Bool) × Bool => z.2) e⟩, modsB_ok (congrArg (fun z : (He.AlD × Bool) × Bool => z.1.2) e)⟩
  keeps := fun _ _ _ ⟨⟨K, kin, a, b⟩, o, e, c⟩ k => ⟨⟨K, PySem.W.Frag.In.keeps kin k, a, b⟩, o, k _ _ e, c⟩
/-- what the walk tells of it -/
def obS (n : Nat) (fa : List He.Fa) (fn : List He.DefD) (X : XT) (g : Addr → Option Obj) : (He.AlD × Bool) × Bool := ((He.obsDG n fa fn g, modsB g), xtB (He.frG g (He.asD g n)) X)
theorem obS_eq {n : Nat} {fa : List He.Fa} {fn : List He.DefD} {X : XT} {g : Addr → Option Obj} {s : Shared} (h : ∀ a, g a = s.heap.get? a) : obS n fa fn X g = (hookS n fa fn X).obs s := by
  show obS n fa fn X g = obS n fa fn X s.heap.get?
  rw [show g = s.heap.get? from funext h]
theorem law_fin {l : PySem.W.OpenLaw} {n d f k : Nat} {q : Program} {loose : List Str} {XP : (Str → Option Value) → Heap → Prop} {D : DefRec} {x : Str} {T : Tab} {gs : List (Str × Int)} {X : XT} {m : MDef} {I : DefI}
    (hn : l.most = some n) (hz : n ≤ sizeLine) (hd : D.params.defaults = []) (room : Room (d + 3) callerA) (hI : T.lookup f = some (m, I)) (hx : I.N.take m.np = [x]) (hname : D.name = I.x) (chk : ∀ p ∈ T, Chk T gs X p) (cx : ChkX T gs X)
    (told : ∀ ns : List Int, ns.length ≤ n → Told T.prog f d ns) : PySem.W.WalkO q loose XP (hookS k (T.fa gs X) (T.fn X) X).says l.row.toRowW D [] (fun f vs => PySem.call f vs) := by
  have hI2 : T.defs f = some I := by unfold Tab.defs; rw [hI]; rfl
  have hP : ∀ m', T.prog f = some m' → I.N.take m'.np = [x] := fun m' e => by
    unfold Tab.prog at e
    rw [hI] at e
    cases e
    exact hx
  refine law_end (I := I) (P := T.prog) (tb := T.defs) (gl := glO gs) (xi := X.xi) hn hz hd room hI2 hP (fun w mg fa h Y G hmg => ?_) told
  obtain ⟨⟨K, kin, c, xb⟩, hsm⟩ := Y
  rw [hname] at hmg
  refine ⟨hsm, K, kin, prog_of kin G c xb chk cx, hmg, fun fd F s u => ?_⟩
  have b := FunD.bindsA F (ps := [x]) (fun kV doc pm an cdv ct us hl => by
    have z := (chk _ (lookup_mem hI)).bd kV doc pm an cdv ct us (by rw [hx]; exact hl)
    rw [hx] at z
    exact z) s [u] rfl
  exact b
end MP

set_option maxHeartbeats 4000000
/-! MiniP: plain laws of the mini evaluator: what a text ends with. -/
namespace MP
open PySem
/-- r ends well, and Q holds then -/
def Rn {α : Type} (r : Res α) (Q : α → MH → Prop) : Prop := ∃ a h, r = .ok a h ∧ Q a h
section
variable {α β : Type} {Q R : α → MH → Prop} {h : MH}
theorem Rn_ok {a : α} : Rn (.ok a h) Q ↔ Q a h := ⟨fun ⟨_, _, e, q⟩ => by cases e; exact q, fun q => ⟨_, _, rfl, q⟩⟩
theorem Rn_stuck : Rn (.stuck : Res α) Q ↔ False := ⟨fun z => (by obtain ⟨_, _, e, _⟩ := z; cases e), False.elim⟩
theorem Rn_bind {r : Res β} {f : β → MH → Res α} : Rn (r.bind f) Q ↔ Rn r fun a h => Rn (f a h) Q :=
  ⟨fun ⟨a, h, e, q⟩ => by obtain ⟨b, h1, e1, e2⟩ := bind_eq_ok e; exact ⟨b, h1, e1, a, h, e2, q⟩, fun ⟨b, h1, e1, a, h, e2, q⟩ => ⟨a, h, by rw [e1]; exact e2, q⟩⟩
theorem Rn.mono {r : Res α} (x : Rn r Q) (k : ∀ a h, Q a h → R a h) : Rn r R := let ⟨a, h, e, q⟩ := x; ⟨a, h, e, k a h q⟩
theorem Rn_some {a : α} : Rn (ofO (some a) h) Q ↔ Q a h := Rn_ok
theorem Rn_none : Rn (ofO (none : Option α) h) Q ↔ False := Rn_stuck
theorem Rn_oite {c : Prop} [Decidable c] {a b : Option α} : Rn (ofO (if c then a else b) h) Q ↔ if c then Rn (ofO a h) Q else Rn (ofO b h) Q := by
  by_cases e : c <;> simp [e]
theorem Rn_ite {c : Prop} [Decidable c] {a b : Res α} : Rn (if c then a else b) Q ↔ if c then Rn a Q else Rn b Q := by
  by_cases e : c <;> simp [e]
theorem Rn_og {c : Prop} [Decidable c] {a : α} : Rn (ofO (if c then some a else none) h) Q ↔ c ∧ Q a h := by
  by_cases e : c <;> simp [e, ofO, Rn_ok, Rn_stuck]
theorem Rn_obind {o : Option β} {f : β → Option α} : Rn (ofO (o.bind f) h) Q ↔ Rn (ofO o h) fun b _ => Rn (ofO (f b) h) Q := by
  cases o <;> simp [ofO, Rn_ok, Rn_stuck]
theorem Rn_omap {o : Option β} {f : β → α} : Rn (ofO (o.map f) h) Q ↔ Rn (ofO o h) fun b _ => Q (f b) h := by
  cases o <;> simp [ofO, Rn_ok, Rn_stuck]
theorem ite_stuck {c A : Prop} [Decidable c] : (if c then A else False) ↔ c ∧ A := by by_cases e : c <;> simp [e]
end
/-- for: I i g h holds ahead of the i-th item -/
theorem Rn_for {f : Val → ME → MH → Res Fl} {Q : Fl → MH → Prop} (I : Nat → ME → MH → Prop) : ∀ (l : List Val) (i : Nat) (g : ME) (h : MH), I i g h →
    (∀ (j : Nat) (x : Val) (g : ME) (h : MH), l[j]? = some x → I (i + j) g h → Rn (f x g h) fun r h => match r with | .nx g => I (i + j + 1) g h | .rt v => Q (.rt v) h) →
    (∀ g h, I (i + l.length) g h → Q (.nx g) h) → Rn (forLoop f l g h) Q
  | [], i, g, h, a, _, d => by simp only [forLoop, Rn_ok]; exact d g h a
  | x :: xs, i, g, h, a, s, d => by
    simp only [forLoop, Rn_bind]
    refine (s 0 x g h rfl a).mono fun r h1 q => ?_
    cases r with
    | nx g1 =>
      simp only at q
      refine Rn_for I xs (i + 1) g1 h1 q (fun j y g h e a => ?_) (fun g h a => d g h (by rw [List.length_cons, show i + (xs.length + 1) = i + 1 + xs.length by omega]; exact a))
      have := s (j + 1) y g h e (by rw [show i + (j + 1) = i + 1 + j by omega]; exact a)
      rw [show i + (j + 1) + 1 = i + 1 + j + 1 by omega] at this
      exact this
    | rt v => simp only [Rn_ok]; exact q
/-- a list's making: I i l h: behind i items, l made -/
theorem Rn_comp {f : Val → MH → Res (Option Val)} : ∀ (l : List Val) (i : Nat) (acc : List Val) (h : MH) (I : Nat → List Val → MH → Prop) (Q : List Val → MH → Prop), I i acc h →
    (∀ (j : Nat) (x : Val) (acc : List Val) (h : MH), l[j]? = some x → I (i + j) acc h → Rn (f x h) fun r h => I (i + j + 1) (acc ++ r.toList) h) →
    (∀ acc1 h, I (i + l.length) (acc ++ acc1) h → Q acc1 h) → Rn (compLoop f l h) Q
  | [], i, acc, h, I, Q, a, _, d => by simp only [compLoop, Rn_ok]; exact d [] h (by simpa using a)
  | x :: xs, i, acc, h, I, Q, a, s, d => by
    simp only [compLoop, Rn_bind, Rn_ok]
    refine (s 0 x acc h rfl a).mono fun r h1 q => ?_
    refine Rn_comp xs (i + 1) (acc ++ r.toList) h1 I _ q (fun j y ac h e a => ?_) (fun ac1 h a => d _ h ?_)
    · have := s (j + 1) y ac h e (by rw [show i + (j + 1) = i + 1 + j by omega]; exact a)
      rw [show i + (j + 1) + 1 = i + 1 + j + 1 by omega] at this
      exact this
    · rw [List.length_cons, show i + (xs.length + 1) = i + 1 + xs.length by omega]
      cases r with
      | none => simpa using a
      | some y => simpa using a
/-- a list's making without effects: f tells each item -/
theorem comp_map {f : Val → MH → Res (Option Val)} {p : Val → Option Val} {h : MH} : ∀ (l : List Val), (∀ x ∈ l, f x h = .ok (p x) h) → compLoop f l h = .ok (l.filterMap p) h
  | [], _ => rfl
  | x :: xs, k => by
    simp only [compLoop, k x List.mem_cons_self, Res.bind, comp_map xs fun y hy => k y (List.mem_cons_of_mem _ hy)]
    cases e : p x <;> simp [e]
/-- while: at most n turns -/
theorem Rn_whl {t : ME → MH → Res Bool} {f : ME → MH → Res Fl} {Q : Fl → MH → Prop} (I : Nat → ME → MH → Prop) (s : ∀ n g h, I n g h → Rn (t g h) fun b h1 => if b then Rn (f g h1) fun r h2 => match r with | .nx g2 => ∃ m, m < n ∧ I m g2 h2 | .rt v => Q (.rt v) h2 else Q (.nx g) h1) :
    ∀ (fuel n : Nat) (g : ME) (h : MH), n < fuel → I n g h → Rn (whlLoop t f fuel g h) Q
  | 0, n, _, _, l, _ => absurd l (by omega)
  | fuel + 1, n, g, h, l, a => by
    simp only [whlLoop, Rn_bind]
    refine (s n g h a).mono fun b h1 q => ?_
    cases b with
    | false => simpa [Rn_ok] using q
    | true =>
      simp only [if_true, Rn_bind] at q ⊢
      refine q.mono fun r h2 q => ?_
      cases r with
      | nx g2 =>
        obtain ⟨m, lt, a⟩ := q
        exact Rn_whl I s fuel m g2 h2 (by omega) a
      | rt v => simpa [Rn_ok] using q
/-- a call -/
theorem Rn_call {P : Nat → Option MDef} {fuel d base f : Nat} {D : MDef} {args : List Val} {h : MH} {Q : Val → MH → Prop} (hP : P f = some D) (hn : args.length = D.np)
    (k : Rn (exs ⟨callM P fuel d (if D.keep then base else h.length), if D.keep then base else h.length, fuel⟩ D.body (args.map some ++ List.replicate D.nl none) h) fun fl h1 => Rn (fnEnd D.keep h.length fl h1) Q) : Rn (callM P fuel (d + 1) base f args h) Q := by
  unfold callM
  simp only [hP, if_pos hn]
  exact Rn_bind.mpr k
theorem Rn_iff {α : Type} {r : Res α} {Q R : α → MH → Prop} (k : ∀ a h, Q a h ↔ R a h) : Rn r Q ↔ Rn r R := ⟨fun x => x.mono fun a h => (k a h).mp, fun x => x.mono fun a h => (k a h).mpr⟩
def rfV : Val → Option Nat
  | .ref n => some n
  | _ => none
theorem w_wr : ∀ (b n : Nat) (c : Cell) (ok : Bool) (h : MH) (Q : Val → MH → Prop), Rn (wr b n c ok h) Q ↔ (b ≤ n ∨ ok = true) ∧ Q .non (h.set n c) := fun b n c ok h Q => by
  simp only [wr]
  by_cases q : b ≤ n <;> cases ok <;> simp [q, Rn_ok, Rn_stuck]
theorem w_var : ∀ (C : EC) (g : ME) (h : MH) (Q : Val → MH → Prop) (i : Nat), Rn (ev C (.var i) g h) Q ↔ ∃ v, g[i]? = some (some v) ∧ Q v h := fun C g h Q i => by
  simp only [ev]
  cases e : g[i]? with
  | none => simp [Rn_stuck]
  | some o => cases o <;> simp [Rn_stuck, Rn_ok]
theorem w_cst : ∀ (C : EC) (g : ME) (h : MH) (Q : Val → MH → Prop) (v : Val), Rn (ev C (.cst v) g h) Q ↔ Q v h := by
  intros
  simp only [ev, evs, evB, evF, evI, exs, ex, Rn_bind, Rn_ok, Rn_ite]
theorem w_glb : ∀ (C : EC) (g : ME) (h : MH) (Q : Val → MH → Prop) (x : Str) (v : Val), Rn (ev C (.glb x v) g h) Q ↔ Q v h := by
  intros
  simp only [ev, evs, evB, evF, evI, exs, ex, Rn_bind, Rn_ok, Rn_ite]
theorem w_bin : ∀ (C : EC) (g : ME) (h : MH) (Q : Val → MH → Prop) (o : Bop) (bx : Bool) (a b : E), Rn (ev C (.bin o bx a b) g h) Q ↔ Rn (ev C a g h) fun x h => Rn (ev C b g h) fun y h => Rn (ofO (bin o x y h) h) fun r h => Rn (fin bx r h) Q := by
  intros
  simp only [ev, evs, evB, evF, evI, exs, ex, Rn_bind, Rn_ok, Rn_ite]
theorem w_neg : ∀ (C : EC) (g : ME) (h : MH) (Q : Val → MH → Prop) (a : E), Rn (ev C (.neg a) g h) Q ↔ Rn (ev C a g h) fun x h => Rn (ofO (intV x) h) fun i h => Q (.int (-i)) h := by
  intros
  simp only [ev, evs, evB, evF, evI, exs, ex, Rn_bind, Rn_ok, Rn_ite]
theorem w_not : ∀ (C : EC) (g : ME) (h : MH) (Q : Val → MH → Prop) (a : E), Rn (ev C (.not a) g h) Q ↔ Rn (ev C a g h) fun x h => Rn (ofO (bopV x) h) fun b h => Q (.bl (!b)) h := by
  intros
  simp only [ev, evs, evB, evF, evI, exs, ex, Rn_bind, Rn_ok, Rn_ite]
theorem w_bop : ∀ (C : EC) (g : ME) (h : MH) (Q : Val → MH → Prop) (an : Bool) (es : Es), Rn (ev C (.bop an es) g h) Q ↔ Rn (evB C an es g h) Q := by
  intros
  simp only [ev, evs, evB, evF, evI, exs, ex, Rn_bind, Rn_ok, Rn_ite]
theorem w_cmp : ∀ (C : EC) (g : ME) (h : MH) (Q : Val → MH → Prop) (o : Cop) (a b : E), Rn (ev C (.cmp o a b) g h) Q ↔ Rn (ev C a g h) fun x h => Rn (ev C b g h) fun y h => Rn (ofO (cmp o x y h) h) fun r h => Q (.bl r) h := by
  intros
  simp only [ev, evs, evB, evF, evI, exs, ex, Rn_bind, Rn_ok, Rn_ite]
theorem w_cmp2 : ∀ (C : EC) (g : ME) (h : MH) (Q : Val → MH → Prop) (o p : Cop) (a b c : E), Rn (ev C (.cmp2 o p a b c) g h) Q ↔ Rn (ev C a g h) fun x h => Rn (ev C b g h) fun y h => Rn (ofO (cmp o x y h) h) fun r h => if r = true then Rn (ev C c g h) fun z h => Rn (ofO (cmp p y z h) h) fun r h => Q (.bl r) h else Q (.bl false) h := by
  intros
  simp only [ev, evs, evB, evF, evI, exs, ex, Rn_bind, Rn_ok, Rn_ite]
theorem w_isn : ∀ (C : EC) (g : ME) (h : MH) (Q : Val → MH → Prop) (ng : Bool) (a : E), Rn (ev C (.isn ng a) g h) Q ↔ Rn (ev C a g h) fun x h => Q (.bl (match x with | .non => !ng | _ => ng)) h := by
  intros
  simp only [ev, evs, evB, evF, evI, exs, ex, Rn_bind, Rn_ok, Rn_ite] <;> exact Iff.rfl
theorem w_isb : ∀ (C : EC) (g : ME) (h : MH) (Q : Val → MH → Prop) (ng b : Bool) (a : E), Rn (ev C (.isb ng b a) g h) Q ↔ Rn (ev C a g h) fun x h => Rn (ofO (bopV x) h) fun c h => Q (.bl (if c = b then !ng else ng)) h := by
  intros
  simp only [ev, evs, evB, evF, evI, exs, ex, Rn_bind, Rn_ok, Rn_ite] <;> exact Iff.rfl
theorem w_ite : ∀ (C : EC) (g : ME) (h : MH) (Q : Val → MH → Prop) (c a b : E), Rn (ev C (.ite c a b) g h) Q ↔ Rn (ev C c g h) fun x h => Rn (ofO (bopV x) h) fun r h => if r = true then Rn (ev C a g h) Q else Rn (ev C b g h) Q := by
  intros
  simp only [ev, evs, evB, evF, evI, exs, ex, Rn_bind, Rn_ok, Rn_ite]
theorem w_call : ∀ (C : EC) (g : ME) (h : MH) (Q : Val → MH → Prop) (f : Nat) (es : Es), Rn (ev C (.call f es) g h) Q ↔ Rn (evs C es g h) fun vs h => Rn (C.call f vs h) Q := by
  intros
  simp only [ev, evs, evB, evF, evI, exs, ex, Rn_bind, Rn_ok, Rn_ite]
theorem w_cb : ∀ (C : EC) (g : ME) (h : MH) (Q : Val → MH → Prop) (f : Bi) (bx : Bool) (es : Es), Rn (ev C (.cb f bx es) g h) Q ↔ Rn (evs C es g h) fun vs h => Rn (ofO (bi f vs h) h) fun r h => Rn (fin bx r h) Q := by
  intros
  simp only [ev, evs, evB, evF, evI, exs, ex, Rn_bind, Rn_ok, Rn_ite]
theorem w_isi1 : ∀ (C : EC) (g : ME) (h : MH) (Q : Val → MH → Prop) (t : Ty) (a : E), Rn (ev C (.isi [t] a) g h) Q ↔ Rn (ev C a g h) fun x h => Rn (ofO (isi x t h) h) fun b h => Q (.bl b) h := fun C g h Q t a => by
  simp only [ev, Rn_bind, Rn_ok]
  refine Rn_iff fun x h => ?_
  cases e : isi x t h <;> simp [e, ofO, Rn_ok, Rn_stuck, List.mapM_cons]
theorem w_isi2 : ∀ (C : EC) (g : ME) (h : MH) (Q : Val → MH → Prop) (t u : Ty) (a : E), Rn (ev C (.isi [t, u] a) g h) Q ↔ Rn (ev C a g h) fun x h => Rn (ofO (isi x t h) h) fun b h => Rn (ofO (isi x u h) h) fun c h => Q (.bl (b || c)) h := fun C g h Q t u a => by
  simp only [ev, Rn_bind, Rn_ok]
  refine Rn_iff fun x h => ?_
  cases e : isi x t h <;> cases e2 : isi x u h <;> simp [e, e2, ofO, Rn_ok, Rn_stuck, List.mapM_cons]
theorem w_idx : ∀ (C : EC) (g : ME) (h : MH) (Q : Val → MH → Prop) (a i : E), Rn (ev C (.idx a i) g h) Q ↔ Rn (ev C a g h) fun x h => Rn (ev C i g h) fun y h => Rn (ofO (intV y) h) fun j h => Rn (ofO (sits x h) h) fun l h => Rn (ofO (ixv l j) h) Q := by
  intros
  simp only [ev, evs, evB, evF, evI, exs, ex, Rn_bind, Rn_ok, Rn_ite]
theorem w_slcff : ∀ (C : EC) (g : ME) (h : MH) (Q : Val → MH → Prop) (bx : Bool) (a lo hi : E), Rn (ev C (.slc bx a false lo false hi) g h) Q ↔ Rn (ev C a g h) fun x h => Rn (ofO (slc x none none h) h) fun r h => Rn (fin bx r h) Q := fun C g h Q bx a lo hi => by simp [ev, Rn_bind, Rn_ok]
theorem w_slctf : ∀ (C : EC) (g : ME) (h : MH) (Q : Val → MH → Prop) (bx : Bool) (a lo hi : E), Rn (ev C (.slc bx a true lo false hi) g h) Q ↔ Rn (ev C a g h) fun x h => Rn (ev C lo g h) fun v h => Rn (ofO (intV v) h) fun i h => Rn (ofO (slc x (some i) none h) h) fun r h => Rn (fin bx r h) Q := fun C g h Q bx a lo hi => by simp [ev, Rn_bind, Rn_ok]
theorem w_slcft : ∀ (C : EC) (g : ME) (h : MH) (Q : Val → MH → Prop) (bx : Bool) (a lo hi : E), Rn (ev C (.slc bx a false lo true hi) g h) Q ↔ Rn (ev C a g h) fun x h => Rn (ev C hi g h) fun v h => Rn (ofO (intV v) h) fun j h => Rn (ofO (slc x none (some j) h) h) fun r h => Rn (fin bx r h) Q := fun C g h Q bx a lo hi => by simp [ev, Rn_bind, Rn_ok]
theorem w_slctt : ∀ (C : EC) (g : ME) (h : MH) (Q : Val → MH → Prop) (bx : Bool) (a lo hi : E), Rn (ev C (.slc bx a true lo true hi) g h) Q ↔ Rn (ev C a g h) fun x h => Rn (ev C lo g h) fun v h => Rn (ofO (intV v) h) fun i h => Rn (ev C hi g h) fun v h => Rn (ofO (intV v) h) fun j h => Rn (ofO (slc x (some i) (some j) h) h) fun r h => Rn (fin bx r h) Q := fun C g h Q bx a lo hi => by simp [ev, Rn_bind, Rn_ok]
theorem w_tup : ∀ (C : EC) (g : ME) (h : MH) (Q : Val → MH → Prop) (es : Es), Rn (ev C (.tup es) g h) Q ↔ Rn (evs C es g h) fun vs h => Q (.tup vs) h := by
  intros
  simp only [ev, evs, evB, evF, evI, exs, ex, Rn_bind, Rn_ok, Rn_ite]
theorem w_lst : ∀ (C : EC) (g : ME) (h : MH) (Q : Val → MH → Prop) (bx : Bool) (es : Es), Rn (ev C (.lst bx es) g h) Q ↔ Rn (evs C es g h) fun vs h => Rn (fin bx (.nl vs) h) Q := by
  intros
  simp only [ev, evs, evB, evF, evI, exs, ex, Rn_bind, Rn_ok, Rn_ite]
theorem w_dct : ∀ (C : EC) (g : ME) (h : MH) (Q : Val → MH → Prop), Rn (ev C .dct0 g h) Q ↔ Q .dct0 h := by
  intros
  simp only [ev, evs, evB, evF, evI, exs, ex, Rn_bind, Rn_ok, Rn_ite]
theorem w_comp : ∀ (C : EC) (g : ME) (h : MH) (Q : Val → MH → Prop) (bx : Bool) (elt : E) (t : Tg) (it : It) (ifs : Es) (own : List Nat), Rn (ev C (.comp bx elt t it ifs own) g h) Q ↔ Rn (evI C it g h) fun src h => Rn (compLoop (fun x h => (ofO (tgs t x (wipeE g own)) h).bind fun g1 h => (evF C ifs g1 h).bind fun b h => if b then (ev C elt g1 h).bind fun y h => .ok (some y) h else .ok none h) src h) fun l h => Rn (fin bx (.nl l) h) Q := by
  intros
  simp only [ev, evs, evB, evF, evI, exs, ex, Rn_bind, Rn_ok, Rn_ite]
theorem w_app : ∀ (C : EC) (g : ME) (h : MH) (Q : Val → MH → Prop) (o e : E), Rn (ev C (.app o e) g h) Q ↔ Rn (ev C o g h) fun x h => Rn (ofO (lits x h) h) fun _ h => Rn (ev C e g h) fun y h => Rn (ofO (rfV x) h) fun n h => Rn (ofO (lits x h) h) fun l h => l.length < SZ ∧ (C.base ≤ n ∨ dle 60 y = true) ∧ Q .non (h.set n (.lst (l ++ [y]))) := fun C g h Q o e => by
  simp only [ev, Rn_bind]
  refine Rn_iff fun x h => Rn_iff fun _ h => Rn_iff fun y h => ?_
  cases x with
  | ref n => simp only [rfV, Rn_bind, Rn_some, Rn_ite, w_wr, Rn_stuck, ite_stuck]
  | _ => simp only [rfV, Rn_none, Rn_stuck]
theorem w_popAt : ∀ (C : EC) (g : ME) (h : MH) (Q : Val → MH → Prop) (o i : E), Rn (ev C (.popAt o i) g h) Q ↔ Rn (ev C o g h) fun x h => Rn (ofO (lits x h) h) fun _ h => Rn (ev C i g h) fun y h => Rn (ofO (intV y) h) fun j h => Rn (ofO (rfV x) h) fun n h => Rn (ofO (lits x h) h) fun l h => Rn (ofO (ixm l.length j) h) fun k h => l.length ≤ SZ ∧ Rn (ofO l[k]? h) fun y h => Q y (h.set n (.lst (l.eraseIdx k))) := fun C g h Q o i => by
  simp only [ev, Rn_bind]
  refine Rn_iff fun x h => Rn_iff fun _ h => Rn_iff fun y h => Rn_iff fun j h => ?_
  cases x with
  | ref n => simp only [rfV, Rn_bind, Rn_some, Rn_ok, Rn_ite, w_wr, Rn_stuck, ite_stuck, or_true, true_and]
  | _ => simp only [rfV, Rn_none, Rn_stuck]
theorem w_evs0 : ∀ (C : EC) (g : ME) (h : MH) (Q : List Val → MH → Prop), Rn (evs C .nil g h) Q ↔ Q [] h := by
  intros
  simp only [ev, evs, evB, evF, evI, exs, ex, Rn_bind, Rn_ok, Rn_ite]
theorem w_evs1 : ∀ (C : EC) (g : ME) (h : MH) (Q : List Val → MH → Prop) (e : E) (es : Es), Rn (evs C (.cons e es) g h) Q ↔ Rn (ev C e g h) fun v h => Rn (evs C es g h) fun vs h => Q (v :: vs) h := by
  intros
  simp only [ev, evs, evB, evF, evI, exs, ex, Rn_bind, Rn_ok, Rn_ite]
theorem w_evB1 : ∀ (C : EC) (g : ME) (h : MH) (Q : Val → MH → Prop) (an : Bool) (e : E), Rn (evB C an (.cons e .nil) g h) Q ↔ Rn (ev C e g h) Q := by
  intros
  simp only [ev, evs, evB, evF, evI, exs, ex, Rn_bind, Rn_ok, Rn_ite]
theorem w_evB2 : ∀ (C : EC) (g : ME) (h : MH) (Q : Val → MH → Prop) (an : Bool) (e e2 : E) (es : Es), Rn (evB C an (.cons e (.cons e2 es)) g h) Q ↔ Rn (ev C e g h) fun x h => Rn (ofO (bopV x) h) fun b h => if b = an then Rn (evB C an (.cons e2 es) g h) Q else Q (.bl b) h := by
  intros
  simp only [ev, evs, evB, evF, evI, exs, ex, Rn_bind, Rn_ok, Rn_ite]
theorem w_evF0 : ∀ (C : EC) (g : ME) (h : MH) (Q : Bool → MH → Prop), Rn (evF C .nil g h) Q ↔ Q true h := by
  intros
  simp only [ev, evs, evB, evF, evI, exs, ex, Rn_bind, Rn_ok, Rn_ite]
theorem w_evF1 : ∀ (C : EC) (g : ME) (h : MH) (Q : Bool → MH → Prop) (e : E) (es : Es), Rn (evF C (.cons e es) g h) Q ↔ Rn (ev C e g h) fun x h => Rn (ofO (bopV x) h) Q := by
  intros
  simp only [ev, evs, evB, evF, evI, exs, ex, Rn_bind, Rn_ok, Rn_ite]
theorem w_ival : ∀ (C : EC) (g : ME) (h : MH) (Q : List Val → MH → Prop) (e : E), Rn (evI C (.val e) g h) Q ↔ Rn (ev C e g h) fun x h => Rn (ofO (walk x) h) Q := by
  intros
  simp only [ev, evs, evB, evF, evI, exs, ex, Rn_bind, Rn_ok, Rn_ite]
theorem w_irng : ∀ (C : EC) (g : ME) (h : MH) (Q : List Val → MH → Prop) (e : E), Rn (evI C (.rng e) g h) Q ↔ Rn (ev C e g h) fun x h => Rn (ofO (intV x) h) fun n h => if -(2 ^ 62) ≤ n ∧ n < 2 ^ 62 then Q (rangeV 0 n) h else Rn (.stuck : Res (List Val)) Q := by
  intros
  simp only [ev, evs, evB, evF, evI, exs, ex, Rn_bind, Rn_ok, Rn_ite]
theorem w_irng2 : ∀ (C : EC) (g : ME) (h : MH) (Q : List Val → MH → Prop) (a b : E), Rn (evI C (.rng2 a b) g h) Q ↔ Rn (ev C a g h) fun x h => Rn (ofO (intV x) h) fun m h => Rn (ev C b g h) fun x h => Rn (ofO (intV x) h) fun n h => if -(2 ^ 62) ≤ m ∧ m < 2 ^ 62 ∧ -(2 ^ 62) ≤ n ∧ n < 2 ^ 62 then Q (rangeV m n) h else Rn (.stuck : Res (List Val)) Q := by
  intros
  simp only [ev, evs, evB, evF, evI, exs, ex, Rn_bind, Rn_ok, Rn_ite]
theorem w_izip : ∀ (C : EC) (g : ME) (h : MH) (Q : List Val → MH → Prop) (a b : E), Rn (evI C (.zip a b) g h) Q ↔ Rn (ev C a g h) fun x h => Rn (ev C b g h) fun y h => Rn (ofO (sits x []) h) fun l h => Rn (ofO (sits y []) h) fun m h => if isTL x y = true then Q (zipV l m) h else Rn (.stuck : Res (List Val)) Q := by
  intros
  simp only [ev, evs, evB, evF, evI, exs, ex, Rn_bind, Rn_ok, Rn_ite]
theorem w_nil : ∀ (C : EC) (g : ME) (h : MH) (Q : Fl → MH → Prop), Rn (exs C .nil g h) Q ↔ Q (.nx g) h := by
  intros
  simp only [ev, evs, evB, evF, evI, exs, ex, Rn_bind, Rn_ok, Rn_ite]
theorem w_cons : ∀ (C : EC) (g : ME) (h : MH) (Q : Fl → MH → Prop) (s : S) (ss : Ss), Rn (exs C (.cons s ss) g h) Q ↔ Rn (ex C s g h) fun r h => match r with | .nx g => Rn (exs C ss g h) Q | .rt v => Q (.rt v) h := fun C g h Q s ss => by
  simp only [exs, Rn_bind]
  refine Rn_iff fun r h => ?_
  cases r <;> simp [Rn_ok]
theorem w_asg : ∀ (C : EC) (g : ME) (h : MH) (Q : Fl → MH → Prop) (t : Tg) (e : E), Rn (ex C (.asg t e) g h) Q ↔ Rn (ev C e g h) fun v h => Rn (ofO (tgs t v g) h) fun g h => Q (.nx g) h := by
  intros
  simp only [ev, evs, evB, evF, evI, exs, ex, Rn_bind, Rn_ok, Rn_ite]
theorem w_par : ∀ (C : EC) (g : ME) (h : MH) (Q : Fl → MH → Prop) (is : List Nat) (es : Es), Rn (ex C (.par is es) g h) Q ↔ Rn (evs C es g h) fun vs h => if vs.length = is.length then Q (.nx ((is.zip vs).foldl (fun g p => g.set p.1 (some p.2)) g)) h else Rn (.stuck : Res Fl) Q := by
  intros
  simp only [ev, evs, evB, evF, evI, exs, ex, Rn_bind, Rn_ok, Rn_ite]
theorem w_sset : ∀ (C : EC) (g : ME) (h : MH) (Q : Fl → MH → Prop) (o i e : E), Rn (ex C (.sset o i e) g h) Q ↔ Rn (ev C e g h) fun v h => Rn (ev C o g h) fun x h => Rn (ev C i g h) fun y h => Rn (ofO (intV y) h) fun j h => Rn (ofO (rfV x) h) fun n h => Rn (ofO (lits x h) h) fun l h => Rn (ofO (ixm l.length j) h) fun k h => (C.base ≤ n ∨ dle 60 v = true) ∧ Q (.nx g) (h.set n (.lst (l.set k v))) := fun C g h Q o i e => by
  simp only [ex, Rn_bind]
  refine Rn_iff fun v h => Rn_iff fun x h => Rn_iff fun y h => Rn_iff fun j h => ?_
  cases x with
  | ref n => simp only [rfV, Rn_bind, Rn_some, Rn_ok, Rn_ite, w_wr, Rn_stuck, ite_stuck]
  | _ => simp only [rfV, Rn_none, Rn_stuck]
theorem w_augn : ∀ (C : EC) (g : ME) (h : MH) (Q : Fl → MH → Prop) (i : Nat) (o : Bop) (e : E), Rn (ex C (.augn i o e) g h) Q ↔ ∃ x, g[i]? = some (some x) ∧ Rn (ev C e g h) fun y h => Rn (ofO (ipI o x y) h) fun z h => Q (.nx (g.set i (some z))) h := fun C g h Q i o e => by
  simp only [ex, Rn_bind]
  cases q : g[i]? with
  | none => simp [Rn_stuck]
  | some o => cases o <;> simp [Rn_stuck, Rn_ok]
theorem w_augs : ∀ (C : EC) (g : ME) (h : MH) (Q : Fl → MH → Prop) (a i : E) (o : Bop) (e : E), Rn (ex C (.augs a i o e) g h) Q ↔ Rn (ev C a g h) fun x h => Rn (ev C i g h) fun y h => Rn (ofO (intV y) h) fun j h => Rn (ofO (rfV x) h) fun n h => Rn (ofO (lits x h) h) fun l h => Rn (ofO (ixv l j) h) fun z h => Rn (ev C e g h) fun w h => Rn (ofO (ipI o z w) h) fun z h => Rn (ofO (lits x h) h) fun l h => Rn (ofO (ixm l.length j) h) fun k h => (C.base ≤ n ∨ dle 60 z = true) ∧ Q (.nx g) (h.set n (.lst (l.set k z))) := fun C g h Q a i o e => by
  simp only [ex, Rn_bind]
  refine Rn_iff fun x h => Rn_iff fun y h => Rn_iff fun j h => ?_
  cases x with
  | ref n => simp only [rfV, Rn_bind, Rn_some, Rn_ok, Rn_ite, w_wr, Rn_stuck, ite_stuck]
  | _ => simp only [rfV, Rn_none, Rn_stuck]
theorem w_iff : ∀ (C : EC) (g : ME) (h : MH) (Q : Fl → MH → Prop) (c : E) (a b : Ss), Rn (ex C (.iff c a b) g h) Q ↔ Rn (ev C c g h) fun x h => Rn (ofO (bopV x) h) fun r h => if r = true then Rn (exs C a g h) Q else Rn (exs C b g h) Q := by
  intros
  simp only [ev, evs, evB, evF, evI, exs, ex, Rn_bind, Rn_ok, Rn_ite]
theorem w_whl : ∀ (C : EC) (g : ME) (h : MH) (Q : Fl → MH → Prop) (c : E) (b : Ss), Rn (ex C (.whl c b) g h) Q ↔ Rn (whlLoop (fun g h => (ev C c g h).bind fun x h => ofO (bopV x) h) (fun g h => exs C b g h) C.fuel g h) Q := by
  intros
  simp only [ev, evs, evB, evF, evI, exs, ex, Rn_bind, Rn_ok, Rn_ite]
theorem w_forr : ∀ (C : EC) (g : ME) (h : MH) (Q : Fl → MH → Prop) (t : Tg) (it : It) (b : Ss), Rn (ex C (.forr t it b) g h) Q ↔ Rn (evI C it g h) fun src h => Rn (forLoop (fun x g h => (ofO (tgs t x g) h).bind fun g h => exs C b g h) src g h) Q := by
  intros
  simp only [ev, evs, evB, evF, evI, exs, ex, Rn_bind, Rn_ok, Rn_ite]
theorem w_ret : ∀ (C : EC) (g : ME) (h : MH) (Q : Fl → MH → Prop) (e : E), Rn (ex C (.ret e) g h) Q ↔ Rn (ev C e g h) fun v h => Q (.rt v) h := by
  intros
  simp only [ev, evs, evB, evF, evI, exs, ex, Rn_bind, Rn_ok, Rn_ite]
theorem w_ex : ∀ (C : EC) (g : ME) (h : MH) (Q : Fl → MH → Prop) (e : E), Rn (ex C (.ex e) g h) Q ↔ Rn (ev C e g h) fun _ h => Q (.nx g) h := by
  intros
  simp only [ev, evs, evB, evF, evI, exs, ex, Rn_bind, Rn_ok, Rn_ite]
theorem w_pass : ∀ (C : EC) (g : ME) (h : MH) (Q : Fl → MH → Prop), Rn (ex C .pass g h) Q ↔ Q (.nx g) h := by
  intros
  simp only [ev, evs, evB, evF, evI, exs, ex, Rn_bind, Rn_ok, Rn_ite]
theorem w_frz : ∀ (C : EC) (g : ME) (h : MH) (Q : Fl → MH → Prop) (i n : Nat) (l : List Val), g[i]? = some (some (.ref n)) → h[n]? = some (.lst l) → (Rn (ex C (.frz i) g h) Q ↔ C.base ≤ n ∧ Q (.nx (g.set i (some (.lst l)))) (h.set n .dead)) := fun C g h Q i n l e1 e2 => by
  simp only [ex, e1, e2]
  by_cases q : C.base ≤ n <;> simp [q, Rn_ok, Rn_stuck]
theorem w_frzL : ∀ (C : EC) (g : ME) (h : MH) (Q : Fl → MH → Prop) (i : Nat) (l : List Val), g[i]? = some (some (.lst l)) → (Rn (ex C (.frz i) g h) Q ↔ Q (.nx g) h) := fun C g h Q i l e1 => by
  simp only [ex, e1, Rn_ok]
theorem w_finv : ∀ (bx : Bool) (x : Val) (h : MH) (Q : Val → MH → Prop), Rn (fin bx (.v x) h) Q ↔ Q x h := fun bx x h Q => by simp only [fin, Rn_ok]
theorem w_fint : ∀ (l : List Val) (h : MH) (Q : Val → MH → Prop), Rn (fin true (.nl l) h) Q ↔ l.length ≤ SZ ∧ Q (.ref h.length) (h ++ [.lst l]) := fun l h Q => by
  simp only [fin]
  by_cases q : l.length ≤ SZ <;> simp [q, Rn_ok, Rn_stuck]
theorem w_finf : ∀ (l : List Val) (h : MH) (Q : Val → MH → Prop), Rn (fin false (.nl l) h) Q ↔ l.length ≤ SZ ∧ Q (.lst l) h := fun l h Q => by
  simp only [fin]
  by_cases q : l.length ≤ SZ <;> simp [q, Rn_ok, Rn_stuck]
/-- all of them, as rules -/
theorem wps : (∀ (b n : Nat) (c : Cell) (ok : Bool) (h : MH) (Q : Val → MH → Prop), Rn (wr b n c ok h) Q ↔ (b ≤ n ∨ ok = true) ∧ Q .non (h.set n c)) ∧
  (∀ (C : EC) (g : ME) (h : MH) (Q : Val → MH → Prop) (i : Nat), Rn (ev C (.var i) g h) Q ↔ ∃ v, g[i]? = some (some v) ∧ Q v h) ∧
  (∀ (C : EC) (g : ME) (h : MH) (Q : Val → MH → Prop) (v : Val), Rn (ev C (.cst v) g h) Q ↔ Q v h) ∧
  (∀ (C : EC) (g : ME) (h : MH) (Q : Val → MH → Prop) (x : Str) (v : Val), Rn (ev C (.glb x v) g h) Q ↔ Q v h) ∧
  (∀ (C : EC) (g : ME) (h : MH) (Q : Val → MH → Prop) (o : Bop) (bx : Bool) (a b : E), Rn (ev C (.bin o bx a b) g h) Q ↔ Rn (ev C a g h) fun x h => Rn (ev C b g h) fun y h => Rn (ofO (bin o x y h) h) fun r h => Rn (fin bx r h) Q) ∧
  (∀ (C : EC) (g : ME) (h : MH) (Q : Val → MH → Prop) (a : E), Rn (ev C (.neg a) g h) Q ↔ Rn (ev C a g h) fun x h => Rn (ofO (intV x) h) fun i h => Q (.int (-i)) h) ∧
  (∀ (C : EC) (g : ME) (h : MH) (Q : Val → MH → Prop) (a : E), Rn (ev C (.not a) g h) Q ↔ Rn (ev C a g h) fun x h => Rn (ofO (bopV x) h) fun b h => Q (.bl (!b)) h) ∧
  (∀ (C : EC) (g : ME) (h : MH) (Q : Val → MH → Prop) (an : Bool) (es : Es), Rn (ev C (.bop an es) g h) Q ↔ Rn (evB C an es g h) Q) ∧
  (∀ (C : EC) (g : ME) (h : MH) (Q : Val → MH → Prop) (o : Cop) (a b : E), Rn (ev C (.cmp o a b) g h) Q ↔ Rn (ev C a g h) fun x h => Rn (ev C b g h) fun y h => Rn (ofO (cmp o x y h) h) fun r h => Q (.bl r) h) ∧
  (∀ (C : EC) (g : ME) (h : MH) (Q : Val → MH → Prop) (o p : Cop) (a b c : E), Rn (ev C (.cmp2 o p a b c) g h) Q ↔ Rn (ev C a g h) fun x h => Rn (ev C b g h) fun y h => Rn (ofO (cmp o x y h) h) fun r h => if r = true then Rn (ev C c g h) fun z h => Rn (ofO (cmp p y z h) h) fun r h => Q (.bl r) h else Q (.bl false) h) ∧
  (∀ (C : EC) (g : ME) (h : MH) (Q : Val → MH → Prop) (ng : Bool) (a : E), Rn (ev C (.isn ng a) g h) Q ↔ Rn (ev C a g h) fun x h => Q (.bl (match x with | .non => !ng | _ => ng)) h) ∧
  (∀ (C : EC) (g : ME) (h : MH) (Q : Val → MH → Prop) (ng b : Bool) (a : E), Rn (ev C (.isb ng b a) g h) Q ↔ Rn (ev C a g h) fun x h => Rn (ofO (bopV x) h) fun c h => Q (.bl (if c = b then !ng else ng)) h) ∧
  (∀ (C : EC) (g : ME) (h : MH) (Q : Val → MH → Prop) (c a b : E), Rn (ev C (.ite c a b) g h) Q ↔ Rn (ev C c g h) fun x h => Rn (ofO (bopV x) h) fun r h => if r = true then Rn (ev C a g h) Q else Rn (ev C b g h) Q) ∧
  (∀ (C : EC) (g : ME) (h : MH) (Q : Val → MH → Prop) (f : Nat) (es : Es), Rn (ev C (.call f es) g h) Q ↔ Rn (evs C es g h) fun vs h => Rn (C.call f vs h) Q) ∧
  (∀ (C : EC) (g : ME) (h : MH) (Q : Val → MH → Prop) (f : Bi) (bx : Bool) (es : Es), Rn (ev C (.cb f bx es) g h) Q ↔ Rn (evs C es g h) fun vs h => Rn (ofO (bi f vs h) h) fun r h => Rn (fin bx r h) Q) ∧
  (∀ (C : EC) (g : ME) (h : MH) (Q : Val → MH → Prop) (t : Ty) (a : E), Rn (ev C (.isi [t] a) g h) Q ↔ Rn (ev C a g h) fun x h => Rn (ofO (isi x t h) h) fun b h => Q (.bl b) h) ∧
  (∀ (C : EC) (g : ME) (h : MH) (Q : Val → MH → Prop) (t u : Ty) (a : E), Rn (ev C (.isi [t, u] a) g h) Q ↔ Rn (ev C a g h) fun x h => Rn (ofO (isi x t h) h) fun b h => Rn (ofO (isi x u h) h) fun c h => Q (.bl (b || c)) h) ∧
  (∀ (C : EC) (g : ME) (h : MH) (Q : Val → MH → Prop) (a i : E), Rn (ev C (.idx a i) g h) Q ↔ Rn (ev C a g h) fun x h => Rn (ev C i g h) fun y h => Rn (ofO (intV y) h) fun j h => Rn (ofO (sits x h) h) fun l h => Rn (ofO (ixv l j) h) Q) ∧
  (∀ (C : EC) (g : ME) (h : MH) (Q : Val → MH → Prop) (bx : Bool) (a lo hi : E), Rn (ev C (.slc bx a false lo false hi) g h) Q ↔ Rn (ev C a g h) fun x h => Rn (ofO (slc x none none h) h) fun r h => Rn (fin bx r h) Q) ∧
  (∀ (C : EC) (g : ME) (h : MH) (Q : Val → MH → Prop) (bx : Bool) (a lo hi : E), Rn (ev C (.slc bx a true lo false hi) g h) Q ↔ Rn (ev C a g h) fun x h => Rn (ev C lo g h) fun v h => Rn (ofO (intV v) h) fun i h => Rn (ofO (slc x (some i) none h) h) fun r h => Rn (fin bx r h) Q) ∧
  (∀ (C : EC) (g : ME) (h : MH) (Q : Val → MH → Prop) (bx : Bool) (a lo hi : E), Rn (ev C (.slc bx a false lo true hi) g h) Q ↔ Rn (ev C a g h) fun x h => Rn (ev C hi g h) fun v h => Rn (ofO (intV v) h) fun j h => Rn (ofO (slc x none (some j) h) h) fun r h => Rn (fin bx r h) Q) ∧
  (∀ (C : EC) (g : ME) (h : MH) (Q : Val → MH → Prop) (bx : Bool) (a lo hi : E), Rn (ev C (.slc bx a true lo true hi) g h) Q ↔ Rn (ev C a g h) fun x h => Rn (ev C lo g h) fun v h => Rn (ofO (intV v) h) fun i h => Rn (ev C hi g h) fun v h => Rn (ofO (intV v) h) fun j h => Rn (ofO (slc x (some i) (some j) h) h) fun r h => Rn (fin bx r h) Q) ∧
  (∀ (C : EC) (g : ME) (h : MH) (Q : Val → MH → Prop) (es : Es), Rn (ev C (.tup es) g h) Q ↔ Rn (evs C es g h) fun vs h => Q (.tup vs) h) ∧
  (∀ (C : EC) (g : ME) (h : MH) (Q : Val → MH → Prop) (bx : Bool) (es : Es), Rn (ev C (.lst bx es) g h) Q ↔ Rn (evs C es g h) fun vs h => Rn (fin bx (.nl vs) h) Q) ∧
  (∀ (C : EC) (g : ME) (h : MH) (Q : Val → MH → Prop), Rn (ev C .dct0 g h) Q ↔ Q .dct0 h) ∧
  (∀ (C : EC) (g : ME) (h : MH) (Q : Val → MH → Prop) (bx : Bool) (elt : E) (t : Tg) (it : It) (ifs : Es) (own : List Nat), Rn (ev C (.comp bx elt t it ifs own) g h) Q ↔ Rn (evI C it g h) fun src h => Rn (compLoop (fun x h => (ofO (tgs t x (wipeE g own)) h).bind fun g1 h => (evF C ifs g1 h).bind fun b h => if b then (ev C elt g1 h).bind fun y h => .ok (some y) h else .ok none h) src h) fun l h => Rn (fin bx (.nl l) h) Q) ∧
  (∀ (C : EC) (g : ME) (h : MH) (Q : Val → MH → Prop) (o e : E), Rn (ev C (.app o e) g h) Q ↔ Rn (ev C o g h) fun x h => Rn (ofO (lits x h) h) fun _ h => Rn (ev C e g h) fun y h => Rn (ofO (rfV x) h) fun n h => Rn (ofO (lits x h) h) fun l h => l.length < SZ ∧ (C.base ≤ n ∨ dle 60 y = true) ∧ Q .non (h.set n (.lst (l ++ [y])))) ∧
  (∀ (C : EC) (g : ME) (h : MH) (Q : Val → MH → Prop) (o i : E), Rn (ev C (.popAt o i) g h) Q ↔ Rn (ev C o g h) fun x h => Rn (ofO (lits x h) h) fun _ h => Rn (ev C i g h) fun y h => Rn (ofO (intV y) h) fun j h => Rn (ofO (rfV x) h) fun n h => Rn (ofO (lits x h) h) fun l h => Rn (ofO (ixm l.length j) h) fun k h => l.length ≤ SZ ∧ Rn (ofO l[k]? h) fun y h => Q y (h.set n (.lst (l.eraseIdx k)))) ∧
  (∀ (C : EC) (g : ME) (h : MH) (Q : List Val → MH → Prop), Rn (evs C .nil g h) Q ↔ Q [] h) ∧
  (∀ (C : EC) (g : ME) (h : MH) (Q : List Val → MH → Prop) (e : E) (es : Es), Rn (evs C (.cons e es) g h) Q ↔ Rn (ev C e g h) fun v h => Rn (evs C es g h) fun vs h => Q (v :: vs) h) ∧
  (∀ (C : EC) (g : ME) (h : MH) (Q : Val → MH → Prop) (an : Bool) (e : E), Rn (evB C an (.cons e .nil) g h) Q ↔ Rn (ev C e g h) Q) ∧
  (∀ (C : EC) (g : ME) (h : MH) (Q : Val → MH → Prop) (an : Bool) (e e2 : E) (es : Es), Rn (evB C an (.cons e (.cons e2 es)) g h) Q ↔ Rn (ev C e g h) fun x h => Rn (ofO (bopV x) h) fun b h => if b = an then Rn (evB C an (.cons e2 es) g h) Q else Q (.bl b) h) ∧
  (∀ (C : EC) (g : ME) (h : MH) (Q : Bool → MH → Prop), Rn (evF C .nil g h) Q ↔ Q true h) ∧
  (∀ (C : EC) (g : ME) (h : MH) (Q : Bool → MH → Prop) (e : E) (es : Es), Rn (evF C (.cons e es) g h) Q ↔ Rn (ev C e g h) fun x h => Rn (ofO (bopV x) h) Q) ∧
  (∀ (C : EC) (g : ME) (h : MH) (Q : List Val → MH → Prop) (e : E), Rn (evI C (.val e) g h) Q ↔ Rn (ev C e g h) fun x h => Rn (ofO (walk x) h) Q) ∧
  (∀ (C : EC) (g : ME) (h : MH) (Q : List Val → MH → Prop) (e : E), Rn (evI C (.rng e) g h) Q ↔ Rn (ev C e g h) fun x h => Rn (ofO (intV x) h) fun n h => if -(2 ^ 62) ≤ n ∧ n < 2 ^ 62 then Q (rangeV 0 n) h else Rn (.stuck : Res (List Val)) Q) ∧
  (∀ (C : EC) (g : ME) (h : MH) (Q : List Val → MH → Prop) (a b : E), Rn (evI C (.rng2 a b) g h) Q ↔ Rn (ev C a g h) fun x h => Rn (ofO (intV x) h) fun m h => Rn (ev C b g h) fun x h => Rn (ofO (intV x) h) fun n h => if -(2 ^ 62) ≤ m ∧ m < 2 ^ 62 ∧ -(2 ^ 62) ≤ n ∧ n < 2 ^ 62 then Q (rangeV m n) h else Rn (.stuck : Res (List Val)) Q) ∧
  (∀ (C : EC) (g : ME) (h : MH) (Q : List Val → MH → Prop) (a b : E), Rn (evI C (.zip a b) g h) Q ↔ Rn (ev C a g h) fun x h => Rn (ev C b g h) fun y h => Rn (ofO (sits x []) h) fun l h => Rn (ofO (sits y []) h) fun m h => if isTL x y = true then Q (zipV l m) h else Rn (.stuck : Res (List Val)) Q) ∧
  (∀ (C : EC) (g : ME) (h : MH) (Q : Fl → MH → Prop), Rn (exs C .nil g h) Q ↔ Q (.nx g) h) ∧
  (∀ (C : EC) (g : ME) (h : MH) (Q : Fl → MH → Prop) (s : S) (ss : Ss), Rn (exs C (.cons s ss) g h) Q ↔ Rn (ex C s g h) fun r h => match r with | .nx g => Rn (exs C ss g h) Q | .rt v => Q (.rt v) h) ∧
  (∀ (C : EC) (g : ME) (h : MH) (Q : Fl → MH → Prop) (t : Tg) (e : E), Rn (ex C (.asg t e) g h) Q ↔ Rn (ev C e g h) fun v h => Rn (ofO (tgs t v g) h) fun g h => Q (.nx g) h) ∧
  (∀ (C : EC) (g : ME) (h : MH) (Q : Fl → MH → Prop) (is : List Nat) (es : Es), Rn (ex C (.par is es) g h) Q ↔ Rn (evs C es g h) fun vs h => if vs.length = is.length then Q (.nx ((is.zip vs).foldl (fun g p => g.set p.1 (some p.2)) g)) h else Rn (.stuck : Res Fl) Q) ∧
  (∀ (C : EC) (g : ME) (h : MH) (Q : Fl → MH → Prop) (o i e : E), Rn (ex C (.sset o i e) g h) Q ↔ Rn (ev C e g h) fun v h => Rn (ev C o g h) fun x h => Rn (ev C i g h) fun y h => Rn (ofO (intV y) h) fun j h => Rn (ofO (rfV x) h) fun n h => Rn (ofO (lits x h) h) fun l h => Rn (ofO (ixm l.length j) h) fun k h => (C.base ≤ n ∨ dle 60 v = true) ∧ Q (.nx g) (h.set n (.lst (l.set k v)))) ∧
  (∀ (C : EC) (g : ME) (h : MH) (Q : Fl → MH → Prop) (i : Nat) (o : Bop) (e : E), Rn (ex C (.augn i o e) g h) Q ↔ ∃ x, g[i]? = some (some x) ∧ Rn (ev C e g h) fun y h => Rn (ofO (ipI o x y) h) fun z h => Q (.nx (g.set i (some z))) h) ∧
  (∀ (C : EC) (g : ME) (h : MH) (Q : Fl → MH → Prop) (a i : E) (o : Bop) (e : E), Rn (ex C (.augs a i o e) g h) Q ↔ Rn (ev C a g h) fun x h => Rn (ev C i g h) fun y h => Rn (ofO (intV y) h) fun j h => Rn (ofO (rfV x) h) fun n h => Rn (ofO (lits x h) h) fun l h => Rn (ofO (ixv l j) h) fun z h => Rn (ev C e g h) fun w h => Rn (ofO (ipI o z w) h) fun z h => Rn (ofO (lits x h) h) fun l h => Rn (ofO (ixm l.length j) h) fun k h => (C.base ≤ n ∨ dle 60 z = true) ∧ Q (.nx g) (h.set n (.lst (l.set k z)))) ∧
  (∀ (C : EC) (g : ME) (h : MH) (Q : Fl → MH → Prop) (c : E) (a b : Ss), Rn (ex C (.iff c a b) g h) Q ↔ Rn (ev C c g h) fun x h => Rn (ofO (bopV x) h) fun r h => if r = true then Rn (exs C a g h) Q else Rn (exs C b g h) Q) ∧
  (∀ (C : EC) (g : ME) (h : MH) (Q : Fl → MH → Prop) (c : E) (b : Ss), Rn (ex C (.whl c b) g h) Q ↔ Rn (whlLoop (fun g h => (ev C c g h).bind fun x h => ofO (bopV x) h) (fun g h => exs C b g h) C.fuel g h) Q) ∧
  (∀ (C : EC) (g : ME) (h : MH) (Q : Fl → MH → Prop) (t : Tg) (it : It) (b : Ss), Rn (ex C (.forr t it b) g h) Q ↔ Rn (evI C it g h) fun src h => Rn (forLoop (fun x g h => (ofO (tgs t x g) h).bind fun g h => exs C b g h) src g h) Q) ∧
  (∀ (C : EC) (g : ME) (h : MH) (Q : Fl → MH → Prop) (e : E), Rn (ex C (.ret e) g h) Q ↔ Rn (ev C e g h) fun v h => Q (.rt v) h) ∧
  (∀ (C : EC) (g : ME) (h : MH) (Q : Fl → MH → Prop) (e : E), Rn (ex C (.ex e) g h) Q ↔ Rn (ev C e g h) fun _ h => Q (.nx g) h) ∧
  (∀ (C : EC) (g : ME) (h : MH) (Q : Fl → MH → Prop), Rn (ex C .pass g h) Q ↔ Q (.nx g) h) ∧
  (∀ (bx : Bool) (x : Val) (h : MH) (Q : Val → MH → Prop), Rn (fin bx (.v x) h) Q ↔ Q x h) ∧
  (∀ (l : List Val) (h : MH) (Q : Val → MH → Prop), Rn (fin true (.nl l) h) Q ↔ l.length ≤ SZ ∧ Q (.ref h.length) (h ++ [.lst l])) ∧
  (∀ (l : List Val) (h : MH) (Q : Val → MH → Prop), Rn (fin false (.nl l) h) Q ↔ l.length ≤ SZ ∧ Q (.lst l) h) :=
  ⟨w_wr, w_var, w_cst, w_glb, w_bin, w_neg, w_not, w_bop, w_cmp, w_cmp2, w_isn, w_isb, w_ite, w_call, w_cb, w_isi1, w_isi2, w_idx, w_slcff, w_slctf, w_slcft, w_slctt, w_tup, w_lst, w_dct, w_comp, w_app, w_popAt, w_evs0, w_evs1, w_evB1, w_evB2, w_evF0, w_evF1, w_ival, w_irng, w_irng2, w_izip, w_nil, w_cons, w_asg, w_par, w_sset, w_augn, w_augs, w_iff, w_whl, w_forr, w_ret, w_ex, w_pass, w_finv, w_fint, w_finf⟩
def retV : Fl → Val
  | .nx _ => .non
  | .rt u => u
theorem Rn_callF {P : Nat → Option MDef} {fuel d base f : Nat} {D : MDef} {args : List Val} {h : MH} {Q : Val → MH → Prop} (hP : P f = some D) (hk : D.keep = false) (hn : args.length = D.np)
    (k : ∀ C : EC, C.call = callM P fuel d h.length → C.base = h.length → C.fuel = fuel → Rn (exs C D.body (args.map some ++ List.replicate D.nl none) h) fun fl h1 => below h.length (retV fl) = true ∧ Q (retV fl) (h1.take h.length)) : Rn (callM P fuel (d + 1) base f args h) Q := by
  refine Rn_call hP hn ?_
  have := k ⟨callM P fuel d h.length, h.length, fuel⟩ rfl rfl rfl
  simp only [hk, Bool.false_eq_true, if_false]
  refine this.mono fun fl h1 q => ?_
  cases fl <;> (simp only [fnEnd, retV] at q ⊢; simp only [Bool.false_eq_true, if_false, q.1, if_true, Rn_ok]; exact q.2)
theorem Rn_callK {P : Nat → Option MDef} {fuel d base f : Nat} {D : MDef} {args : List Val} {h : MH} {Q : Val → MH → Prop} (hP : P f = some D) (hk : D.keep = true) (hn : args.length = D.np)
    (k : ∀ C : EC, C.call = callM P fuel d base → C.base = base → C.fuel = fuel → Rn (exs C D.body (args.map some ++ List.replicate D.nl none) h) fun fl h1 => Q (retV fl) h1) : Rn (callM P fuel (d + 1) base f args h) Q := by
  refine Rn_call hP hn ?_
  have := k ⟨callM P fuel d base, base, fuel⟩ rfl rfl rfl
  simp only [hk, if_true]
  refine this.mono fun fl h1 q => ?_
  cases fl <;> (simp only [fnEnd, retV] at q ⊢; simp only [if_true, Rn_ok]; exact q)
theorem Rn_ite_ok {α : Type} {c : Prop} [Decidable c] {a b : Res α} {Q : α → MH → Prop} : Rn (if c then a else b) Q ↔ if c then Rn a Q else Rn b Q := Rn_ite
/-- a list's making without effects -/
theorem Rn_compP {f : Val → MH → Res (Option Val)} (p : Val → Option Val) {h : MH} {Q : List Val → MH → Prop} {l : List Val} (k : ∀ x ∈ l, Rn (f x h) fun y h' => y = p x ∧ h' = h) (q : Q (l.filterMap p) h) : Rn (compLoop f l h) Q := by
  have e : compLoop f l h = .ok (l.filterMap p) h := comp_map l fun x hx => by
    obtain ⟨y, h', e, rfl, rfl⟩ := k x hx
    exact e
  rw [e, Rn_ok]
  exact q
end MP

set_option maxHeartbeats 4000000
/-! MiniQ: how the operations answer, as rules; the law's deck. -/
namespace MP
open PySem
theorem q_intV (i : Int) : intV (.int i) = some i := rfl
theorem q_bopV (b : Bool) : bopV (.bl b) = some b := rfl
theorem q_rfV (n : Nat) : rfV (.ref n) = some n := rfl
theorem q_walk1 (l : List Val) : walk (.tup l) = some l := rfl
theorem q_walk2 (l : List Val) : walk (.lst l) = some l := rfl
theorem q_walk3 (l : List Int) : walk (.scr l) = some (l.map .int) := rfl
theorem q_sits1 (l : List Val) (h : MH) : sits (.tup l) h = some l := rfl
theorem q_sits2 (l : List Val) (h : MH) : sits (.lst l) h = some l := rfl
theorem q_lits (l : List Val) (h : MH) : lits (.lst l) h = some l := rfl
theorem q_ix0 (a : Val) (l : List Val) : ixv (a :: l) 0 = some a := by
  unfold ixv ixm
  rw [if_pos (by decide : (0 : Int) ≤ 0), if_pos (by simp only [List.length_cons]; omega)]
  rfl
theorem ixm_ok {n : Nat} {i : Int} (h0 : 0 ≤ i) (h1 : i < n) : ixm n i = some i.toNat := by unfold ixm; rw [if_pos h0, if_pos h1]
theorem ixv_ok {l : List Val} {i : Int} (h0 : 0 ≤ i) (h1 : i < l.length) : ixv l i = l[i.toNat]? := by unfold ixv; rw [ixm_ok h0 h1]; rfl
theorem q_ix1 (a b : Val) (l : List Val) : ixv (a :: b :: l) 1 = some b := by rw [ixv_ok (by decide) (by simp only [List.length_cons]; omega)]; rfl
theorem q_ix2 (a b c : Val) (l : List Val) : ixv (a :: b :: c :: l) 2 = some c := by rw [ixv_ok (by decide) (by simp only [List.length_cons]; omega)]; rfl
theorem q_ix3 (a b c d : Val) (l : List Val) : ixv (a :: b :: c :: d :: l) 3 = some d := by rw [ixv_ok (by decide) (by simp only [List.length_cons]; omega)]; rfl
theorem q_ix4 (a b c d e : Val) (l : List Val) : ixv (a :: b :: c :: d :: e :: l) 4 = some e := by rw [ixv_ok (by decide) (by simp only [List.length_cons]; omega)]; rfl
theorem q_add (i j : Int) (h : MH) : bin .add (.int i) (.int j) h = some (.v (.int (i + j))) := rfl
theorem q_sub (i j : Int) (h : MH) : bin .sub (.int i) (.int j) h = some (.v (.int (i - j))) := rfl
theorem q_mul (i j : Int) (h : MH) : bin .mul (.int i) (.int j) h = if mulOk i j = true then some (.v (.int (i * j))) else none := rfl
theorem q_div (i j : Int) (h : MH) : bin .fdiv (.int i) (.int j) h = if 0 < j ∧ j < 2 ^ 1000 then some (.v (.int (i / j))) else none := rfl
theorem q_mod (i j : Int) (h : MH) : bin .mod (.int i) (.int j) h = if 0 < j then some (.v (.int (i % j))) else none := rfl
theorem q_pow (i j : Int) (h : MH) : bin .pow (.int i) (.int j) h = if 0 ≤ j ∧ j ≤ 1000000 ∧ i.natAbs < 2 ^ 64 then some (.v (.int (i ^ j.toNat))) else none := rfl
theorem q_addT (x y : List Val) (h : MH) : bin .add (.tup x) (.tup y) h = if x.length + y.length ≤ SZ then some (.v (.tup (x ++ y))) else none := rfl
theorem q_addL (x y : List Val) (h : MH) : bin .add (.lst x) (.lst y) h = some (.nl (x ++ y)) := rfl
theorem q_mulT (x : List Val) (k : Int) (h : MH) : bin .mul (.tup x) (.int k) h = if -(2 ^ 63) ≤ k ∧ k < 2 ^ 63 ∧ (x.isEmpty = true ∨ k ≤ 1 ∨ k ≤ 1000 ∧ x.length ≤ 1000) then some (.v (.tup (rep x k))) else none := rfl
theorem q_lt (i j : Int) (h : MH) : cmp .lt (.int i) (.int j) h = some (decide (i < j)) := rfl
theorem q_le (i j : Int) (h : MH) : cmp .le (.int i) (.int j) h = some (decide (i ≤ j)) := rfl
theorem q_gt (i j : Int) (h : MH) : cmp .gt (.int i) (.int j) h = some (decide (i > j)) := rfl
theorem q_ge (i j : Int) (h : MH) : cmp .ge (.int i) (.int j) h = some (decide (i ≥ j)) := rfl
theorem eqv_int (i j : Int) : PyData.eqv (.int i) (.int j) = decide (i = j) := by rw [Bool.eq_iff_iff]; simp [PyData.eqv]
theorem q_eq (i j : Int) (h : MH) : cmp .eq (.int i) (.int j) h = some (decide (i = j)) := by
  show some (PyData.eqv (.int i) (.int j)) = _
  rw [eqv_int]
theorem q_ne (i j : Int) (h : MH) : cmp .ne (.int i) (.int j) h = some (!decide (i = j)) := by
  show some (!PyData.eqv (.int i) (.int j)) = _
  rw [eqv_int]
theorem q_seq (x y : Str) (h : MH) : cmp .eq (.str x) (.str y) h = some (x == y) := rfl
theorem q_sne (x y : Str) (h : MH) : cmp .ne (.str x) (.str y) h = some (!(x == y)) := rfl
theorem q_nm (i : Nat) (v : Val) (g : ME) : tgs (.nm i) v g = some (g.set i (some v)) := rfl
theorem q_tp (ts : List Tg) (l : List Val) (g : ME) : tgs (.tp ts) (.tup l) g = tgsL ts l g := rfl
theorem q_tl0 (g : ME) : tgsL [] [] g = some g := rfl
theorem q_tl1 (t : Tg) (ts : List Tg) (v : Val) (l : List Val) (g : ME) : tgsL (t :: ts) (v :: l) g = (tgs t v g).bind fun g => tgsL ts l g := rfl
theorem q_abs (i : Int) (h : MH) : bi .abs [.int i] h = some (.v (.int (if i < 0 then -i else i))) := rfl
theorem q_lenT (l : List Val) (h : MH) : bi .len [.tup l] h = some (.v (.int l.length)) := rfl
theorem q_lenL (l : List Val) (h : MH) : bi .len [.lst l] h = some (.v (.int l.length)) := rfl
theorem q_tupT (l : List Val) (h : MH) : bi .tuple [.tup l] h = some (.v (.tup l)) := rfl
theorem q_tupL (l : List Val) (h : MH) : bi .tuple [.lst l] h = some (.v (.tup l)) := rfl
theorem q_tupR (n : Nat) (l : List Val) (h : MH) (e : h[n]? = some (.lst l)) : bi .tuple [.ref n] h = some (.v (.tup l)) := by simp only [bi, sits, lits, e, Option.map_some]
theorem q_lstT (l : List Val) (h : MH) : bi .list [.tup l] h = some (.nl l) := rfl
theorem q_lstL (l : List Val) (h : MH) : bi .list [.lst l] h = some (.nl l) := rfl
theorem q_sumL (l : List Val) (h : MH) : bi .sum [.lst l] h = (intsOf l).map fun ns => .v (.int ns.sum) := rfl
theorem q_sumT (l : List Val) (h : MH) : bi .sum [.tup l] h = (intsOf l).map fun ns => .v (.int ns.sum) := rfl
theorem q_min2 (i j : Int) (h : MH) : bi .min2 [.int i, .int j] h = some (.v (.int (if j < i then j else i))) := rfl
theorem q_max2 (i j : Int) (h : MH) : bi .max2 [.int i, .int j] h = some (.v (.int (if j > i then j else i))) := rfl
theorem q_isii (i : Int) (t : Ty) (h : MH) : isi (.int i) t h = some (t == .int) := rfl
theorem q_isib (i : Bool) (t : Ty) (h : MH) : isi (.bl i) t h = some (t == .bool || t == .int) := rfl
theorem q_isit (i : List Val) (t : Ty) (h : MH) : isi (.tup i) t h = some (t == .tuple) := rfl
theorem q_isil (i : List Val) (t : Ty) (h : MH) : isi (.lst i) t h = some (t == .list) := rfl
theorem q_isis (i : Str) (t : Ty) (h : MH) : isi (.str i) t h = some (t == .str) := rfl
theorem q_isin (t : Ty) (h : MH) : isi .non t h = some false := rfl
theorem q_isid (t : Ty) (h : MH) : isi .dct0 t h = some (t == .dict) := rfl
theorem q_slcT (l : List Val) (lo hi : Option Int) (h : MH) : slc (.tup l) lo hi h = some (.v (.tup (cut l lo hi))) := rfl
theorem q_slcL (l : List Val) (lo hi : Option Int) (h : MH) : slc (.lst l) lo hi h = some (.nl (cut l lo hi)) := rfl
theorem Rn_trueif {A B : Prop} : (if true = true then A else B) ↔ A := by simp
theorem Rn_falseif {A B : Prop} : (if false = true then A else B) ↔ B := by simp
theorem qs : (∀ (i : Int), intV (.int i) = some i) ∧
  (∀ (b : Bool), bopV (.bl b) = some b) ∧
  (∀ (n : Nat), rfV (.ref n) = some n) ∧
  (∀ (l : List Val), walk (.tup l) = some l) ∧
  (∀ (l : List Val), walk (.lst l) = some l) ∧
  (∀ (l : List Int), walk (.scr l) = some (l.map .int)) ∧
  (∀ (l : List Val) (h : MH), sits (.tup l) h = some l) ∧
  (∀ (l : List Val) (h : MH), sits (.lst l) h = some l) ∧
  (∀ (l : List Val) (h : MH), lits (.lst l) h = some l) ∧
  (∀ (a : Val) (l : List Val), ixv (a :: l) 0 = some a) ∧
  (∀ (a b : Val) (l : List Val), ixv (a :: b :: l) 1 = some b) ∧
  (∀ (a b c : Val) (l : List Val), ixv (a :: b :: c :: l) 2 = some c) ∧
  (∀ (a b c d : Val) (l : List Val), ixv (a :: b :: c :: d :: l) 3 = some d) ∧
  (∀ (a b c d e : Val) (l : List Val), ixv (a :: b :: c :: d :: e :: l) 4 = some e) ∧
  (∀ (i j : Int) (h : MH), bin .add (.int i) (.int j) h = some (.v (.int (i + j)))) ∧
  (∀ (i j : Int) (h : MH), bin .sub (.int i) (.int j) h = some (.v (.int (i - j)))) ∧
  (∀ (i j : Int) (h : MH), bin .mul (.int i) (.int j) h = if mulOk i j = true then some (.v (.int (i * j))) else none) ∧
  (∀ (i j : Int) (h : MH), bin .fdiv (.int i) (.int j) h = if 0 < j ∧ j < 2 ^ 1000 then some (.v (.int (i / j))) else none) ∧
  (∀ (i j : Int) (h : MH), bin .mod (.int i) (.int j) h = if 0 < j then some (.v (.int (i % j))) else none) ∧
  (∀ (i j : Int) (h : MH), bin .pow (.int i) (.int j) h = if 0 ≤ j ∧ j ≤ 1000000 ∧ i.natAbs < 2 ^ 64 then some (.v (.int (i ^ j.toNat))) else none) ∧
  (∀ (x y : List Val) (h : MH), bin .add (.tup x) (.tup y) h = if x.length + y.length ≤ SZ then some (.v (.tup (x ++ y))) else none) ∧
  (∀ (x y : List Val) (h : MH), bin .add (.lst x) (.lst y) h = some (.nl (x ++ y))) ∧
  (∀ (x : List Val) (k : Int) (h : MH), bin .mul (.tup x) (.int k) h = if -(2 ^ 63) ≤ k ∧ k < 2 ^ 63 ∧ (x.isEmpty = true ∨ k ≤ 1 ∨ k ≤ 1000 ∧ x.length ≤ 1000) then some (.v (.tup (rep x k))) else none) ∧
  (∀ (i j : Int) (h : MH), cmp .lt (.int i) (.int j) h = some (decide (i < j))) ∧
  (∀ (i j : Int) (h : MH), cmp .le (.int i) (.int j) h = some (decide (i ≤ j))) ∧
  (∀ (i j : Int) (h : MH), cmp .gt (.int i) (.int j) h = some (decide (i > j))) ∧
  (∀ (i j : Int) (h : MH), cmp .ge (.int i) (.int j) h = some (decide (i ≥ j))) ∧
  (∀ (i j : Int) (h : MH), cmp .eq (.int i) (.int j) h = some (decide (i = j))) ∧
  (∀ (i j : Int) (h : MH), cmp .ne (.int i) (.int j) h = some (!decide (i = j))) ∧
  (∀ (x y : Str) (h : MH), cmp .eq (.str x) (.str y) h = some (x == y)) ∧
  (∀ (x y : Str) (h : MH), cmp .ne (.str x) (.str y) h = some (!(x == y))) ∧
  (∀ (i : Nat) (v : Val) (g : ME), tgs (.nm i) v g = some (g.set i (some v))) ∧
  (∀ (ts : List Tg) (l : List Val) (g : ME), tgs (.tp ts) (.tup l) g = tgsL ts l g) ∧
  (∀ (g : ME), tgsL [] [] g = some g) ∧
  (∀ (t : Tg) (ts : List Tg) (v : Val) (l : List Val) (g : ME), tgsL (t :: ts) (v :: l) g = (tgs t v g).bind fun g => tgsL ts l g) ∧
  (∀ (i : Int) (h : MH), bi .abs [.int i] h = some (.v (.int (if i < 0 then -i else i)))) ∧
  (∀ (l : List Val) (h : MH), bi .len [.tup l] h = some (.v (.int l.length))) ∧
  (∀ (l : List Val) (h : MH), bi .len [.lst l] h = some (.v (.int l.length))) ∧
  (∀ (l : List Val) (h : MH), bi .tuple [.tup l] h = some (.v (.tup l))) ∧
  (∀ (l : List Val) (h : MH), bi .tuple [.lst l] h = some (.v (.tup l))) ∧
  (∀ (l : List Val) (h : MH), bi .list [.tup l] h = some (.nl l)) ∧
  (∀ (l : List Val) (h : MH), bi .list [.lst l] h = some (.nl l)) ∧
  (∀ (l : List Val) (h : MH), bi .sum [.lst l] h = (intsOf l).map fun ns => .v (.int ns.sum)) ∧
  (∀ (l : List Val) (h : MH), bi .sum [.tup l] h = (intsOf l).map fun ns => .v (.int ns.sum)) ∧
  (∀ (i j : Int) (h : MH), bi .min2 [.int i, .int j] h = some (.v (.int (if j < i then j else i)))) ∧
  (∀ (i j : Int) (h : MH), bi .max2 [.int i, .int j] h = some (.v (.int (if j > i then j else i)))) ∧
  (∀ (i : Int) (t : Ty) (h : MH), isi (.int i) t h = some (t == .int)) ∧
  (∀ (i : Bool) (t : Ty) (h : MH), isi (.bl i) t h = some (t == .bool || t == .int)) ∧
  (∀ (i : List Val) (t : Ty) (h : MH), isi (.tup i) t h = some (t == .tuple)) ∧
  (∀ (i : List Val) (t : Ty) (h : MH), isi (.lst i) t h = some (t == .list)) ∧
  (∀ (i : Str) (t : Ty) (h : MH), isi (.str i) t h = some (t == .str)) ∧
  (∀ (t : Ty) (h : MH), isi .non t h = some false) ∧
  (∀ (t : Ty) (h : MH), isi .dct0 t h = some (t == .dict)) ∧
  (∀ (l : List Val) (lo hi : Option Int) (h : MH), slc (.tup l) lo hi h = some (.v (.tup (cut l lo hi)))) ∧
  (∀ (l : List Val) (lo hi : Option Int) (h : MH), slc (.lst l) lo hi h = some (.nl (cut l lo hi))) :=
  ⟨q_intV, q_bopV, q_rfV, q_walk1, q_walk2, q_walk3, q_sits1, q_sits2, q_lits, q_ix0, q_ix1, q_ix2, q_ix3, q_ix4, q_add, q_sub, q_mul, q_div, q_mod, q_pow, q_addT, q_addL, q_mulT, q_lt, q_le, q_gt, q_ge, q_eq, q_ne, q_seq, q_sne, q_nm, q_tp, q_tl0, q_tl1, q_abs, q_lenT, q_lenL, q_tupT, q_tupL, q_lstT, q_lstL, q_sumL, q_sumT, q_min2, q_max2, q_isii, q_isib, q_isit, q_isil, q_isis, q_isin, q_isid, q_slcT, q_slcL⟩
end MP

set_option maxHeartbeats 4000000
/-! MiniR: the law's deck. -/
namespace MP
open PySem
/-- _law_deck -/
abbrev f4 : Nat := 4
def d4 : MDef := ⟨true, 1, 2, (Ss.cons (.asg (.nm 1) (.comp false (.cb .abs false (Es.cons (.var 2) Es.nil)) (.nm 2) (.val (.var 0)) Es.nil [2]))
    (Ss.cons (.ret (.lst true (Es.cons (.comp true (.var 2) (.nm 2) (.val (.var 1)) (Es.cons (.cmp .ge (.var 2) (.bin .pow false (.cst (.int 10)) (.cst (.int 18)))) Es.nil) [2]) (Es.cons (.bin .add false (.var 1) (.lst false (Es.cons (.bin .add true (.cb .len false (Es.cons (.var 1) Es.nil)) (.cst (.int 3))) Es.nil))) (Es.cons (.cst (.int 0)) Es.nil)))))
    Ss.nil))⟩
def n4 : List Str := ["_law_script", "_law_cells", "_law_cell"]
/-- _law_next -/
abbrev f5 : Nat := 5
def d5 : MDef := ⟨false, 2, 3, (Ss.cons (.whl (.cmp .ne (.idx (.var 0) (.cst (.int 0))) (.lst false Es.nil)) (Ss.cons (.asg (.nm 2) (.idx (.idx (.var 0) (.cst (.int 0))) (.cst (.int 0))))
    (Ss.cons (.iff (.cmp .gt (.var 2) (.cst (.int 0))) (Ss.cons (.sset (.idx (.var 0) (.cst (.int 0))) (.cst (.int 0)) (.bin .fdiv false (.var 2) (.var 1)))
    (Ss.cons (.ret (.bin .mod false (.var 2) (.var 1)))
    Ss.nil)) Ss.nil)
    (Ss.cons (.ex (.popAt (.idx (.var 0) (.cst (.int 0))) (.cst (.int 0))))
    Ss.nil))))
    (Ss.cons (.sset (.var 0) (.cst (.int 2)) (.bin .add false (.idx (.var 0) (.cst (.int 2))) (.cst (.int 1))))
    (Ss.cons (.asg (.nm 3) (.bin .mod false (.idx (.idx (.var 0) (.cst (.int 1))) (.bin .mod false (.idx (.var 0) (.cst (.int 2))) (.cb .len false (Es.cons (.idx (.var 0) (.cst (.int 1))) Es.nil)))) (.cst (.int 2147483647))))
    (Ss.cons (.asg (.nm 4) (.bin .add false (.bin .add false (.bin .mul false (.var 3) (.bin .add false (.cst (.int 48271)) (.bin .mul false (.cst (.int 69621)) (.idx (.var 0) (.cst (.int 2)))))) (.bin .mul false (.bin .mul false (.cst (.int 40692)) (.idx (.var 0) (.cst (.int 2)))) (.idx (.var 0) (.cst (.int 2))))) (.cst (.int 11))))
    (Ss.cons (.asg (.nm 4) (.bin .mod false (.var 4) (.cst (.int 2147483629))))
    (Ss.cons (.ret (.bin .mod false (.bin .fdiv false (.bin .mod false (.bin .mul false (.var 4) (.var 4)) (.cst (.int 2147483587))) (.cst (.int 16))) (.var 1)))
    Ss.nil))))))⟩
def n5 : List Str := ["_law_deck_here", "_law_many", "_law_rest", "_law_cell", "_law_mixed"]
theorem SZv : SZ = 16777216 := rfl
/-- the deck's two cells -/
def Dk (bs cs : List Int) (t : Int) : MH := [.lst (bs.map .int), .lst [.ref 0, .lst (cs.map .int), .int t]]
structure DkOk (bs cs : List Int) (t : Int) (n : Int) : Prop where
  b0 : ∀ b ∈ bs, 0 ≤ b
  bl : bs.length ≤ 63
  c0 : ∀ c ∈ cs, 0 ≤ c
  cl : cs.length ≤ 64
  cn : cs ≠ []
  t0 : 0 ≤ t
  tn : t ≤ n
theorem Dk0 (bs cs : List Int) (t : Int) (r : MH) : (Dk bs cs t ++ r)[0]? = some (.lst (bs.map .int)) := rfl
theorem Dk1 (bs cs : List Int) (t : Int) (r : MH) : (Dk bs cs t ++ r)[1]? = some (.lst [.ref 0, .lst (cs.map .int), .int t]) := rfl
theorem Dks0 (bs bs' cs : List Int) (t : Int) (r : MH) : (Dk bs cs t ++ r).set 0 (.lst (bs'.map .int)) = Dk bs' cs t ++ r := rfl
theorem Dks1 (bs cs : List Int) (t t' : Int) (r : MH) : (Dk bs cs t ++ r).set 1 (.lst [.ref 0, .lst (cs.map .int), .int t']) = Dk bs cs t' ++ r := rfl
theorem shp_ints (ns : List Int) : (ns.map Val.int).all (shp 59) = true := by
  rw [List.all_map, List.all_eq_true]
  intro x _
  rfl
theorem sD1 (bs cs : List Int) (t : Int) (r : MH) : sits (.ref 1) (Dk bs cs t ++ r) = some [.ref 0, .lst (cs.map .int), .int t] := rfl
theorem sD0 (bs cs : List Int) (t : Int) (r : MH) : sits (.ref 0) (Dk bs cs t ++ r) = some (bs.map .int) := rfl
theorem lD1 (bs cs : List Int) (t : Int) (r : MH) : lits (.ref 1) (Dk bs cs t ++ r) = some [.ref 0, .lst (cs.map .int), .int t] := rfl
theorem lD0 (bs cs : List Int) (t : Int) (r : MH) : lits (.ref 0) (Dk bs cs t ++ r) = some (bs.map .int) := rfl
theorem eD0 (bs cs : List Int) (t : Int) (r : MH) : cmp .ne (.ref 0) (.lst []) (Dk bs cs t ++ r) = some (!bs.isEmpty) := by
  show some (!(bs.map Val.int).isEmpty) = _
  cases bs <;> rfl
theorem mulOk_l {i j : Int} (a : -(2 ^ 64) < i) (b : i < 2 ^ 64) : mulOk i j = true := by unfold mulOk; simp only [decide_eq_true a, decide_eq_true b, Bool.and_self, Bool.true_or]
theorem mulOk_r {i j : Int} (a : -(2 ^ 64) < j) (b : j < 2 ^ 64) : mulOk i j = true := by unfold mulOk; simp only [decide_eq_true a, decide_eq_true b, Bool.and_self, Bool.or_true]
theorem ixv_int {cs : List Int} {j : Int} (h0 : 0 ≤ j) (h1 : j < cs.length) : ∃ c ∈ cs, ixv (cs.map .int) j = some (.int c) := by
  have h2 : j.toNat < cs.length := by omega
  exact ⟨cs[j.toNat], List.getElem_mem h2, by rw [ixv_ok h0 (by rw [List.length_map]; exact h1), List.getElem?_map, List.getElem?_eq_getElem h2]; rfl⟩
theorem next_ok {P : Nat → Option MDef} (hP : P 5 = some d5) {fuel d base : Nat} {bs cs : List Int} {t n m : Int} {r : MH} (D : DkOk bs cs t n) (hn : n ≤ 2 ^ 50) (m0 : 0 < m) (m1 : m < 2 ^ 64) (hf : 70 ≤ fuel) {Q : Val → MH → Prop}
    (k : ∀ bs' t' (x : Int), DkOk bs' cs t' (n + 1) → 0 ≤ x → x < m → Q (.int x) (Dk bs' cs t' ++ r)) : Rn (callM P fuel (d + 1) base 5 [.ref 1, .int m] (Dk bs cs t ++ r)) Q := by
  refine Rn_callF hP rfl rfl fun C cc cb cf => ?_
  have hl : ∀ bs t, List.length (Dk bs cs t ++ r) = r.length + 2 := fun bs t => by simp [Dk]
  have tk : ∀ bs t', List.take (r.length + 2) (Dk bs cs t' ++ r) = Dk bs cs t' ++ r := fun bs t' => List.take_of_length_le (by simp [Dk])
  have m1000 : m < 2 ^ 1000 := Int.lt_of_lt_of_le m1 (by decide)
  have SZe : SZ = 16777216 := rfl
  simp only [d5, w_cons, w_whl, List.map, List.replicate, List.append]
  refine Rn_whl (fun j g h => ∃ bs' u, j = bs'.length ∧ DkOk bs' cs t n ∧ g = [some (.ref 1), some (.int m), u, none, none] ∧ h = Dk bs' cs t ++ r) ?step C.fuel bs.length _ _ (by have := D.bl; omega) ⟨bs, none, rfl, D, rfl, rfl⟩
  rintro j g h ⟨bs', u, rfl, D', rfl, rfl⟩
  simp only [Rn_bind, wps]
  simp only [List.getElem?_cons_zero, List.getElem?_cons_succ, Option.some.injEq, exists_eq_left', Rn_some, Rn_og, Rn_obind, qs, sD1, sD0, lD1, lD0, eD0, List.set_cons_zero, List.set_cons_succ, hl]
  refine ⟨Nat.zero_le _, ?_⟩
  cases bs' with
  | cons b bs' =>
    have b0 : 0 ≤ b := D'.b0 b List.mem_cons_self
    simp only [List.isEmpty_cons, Bool.not_false, if_true, List.map_cons, qs, Rn_some, wps, sD1, lD1, lD0, sD0, Rn_og, decide_eq_true_eq, gt_iff_lt]
    split
    · rename_i hb0
      refine ⟨⟨m0, m1000⟩, ?_⟩
      rw [ixm_ok (by decide) (by simp only [List.length_cons]; omega)]
      simp only [Rn_some, Int.toNat_zero, List.set_cons_zero]
      refine ⟨.inr rfl, m0, rfl, ?_⟩
      have := k ((b / m) :: bs') t (b % m) ⟨?_, D'.bl, D'.c0, D'.cl, D'.cn, D'.t0, by have := D'.tn; omega⟩ (Int.emod_nonneg _ (by omega)) (Int.emod_lt_of_pos _ m0)
      · rw [← tk] at this
        exact this
      · intro x hx
        rcases List.mem_cons.mp hx with rfl | hx
        · exact Int.ediv_nonneg b0 (by omega)
        · exact D'.b0 x (List.mem_cons_of_mem _ hx)
    · rw [ixm_ok (by decide) (by simp only [List.length_cons]; omega)]
      simp only [Rn_some, Int.toNat_zero, List.getElem?_cons_zero, List.eraseIdx_cons_zero]
      refine ⟨?_, bs'.length, by simp, bs', some (.int b), rfl, ⟨fun x hx => D'.b0 x (List.mem_cons_of_mem _ hx), by have := D'.bl; simp only [List.length_cons] at this; omega, D'.c0, D'.cl, D'.cn, D'.t0, D'.tn⟩, rfl, rfl⟩
      have := D'.bl
      simp only [List.length_cons, List.length_map] at this ⊢
      omega
  | nil =>
    have t0 := D'.t0
    have tn := D'.tn
    have e3 : ∀ a b c : Val, ixm [a, b, c].length 2 = some 2 := fun a b c => ixm_ok (by decide) (by simp only [List.length_cons]; omega)
    have cpos : 0 < cs.length := by
      have := D'.cn
      cases cs with
      | nil => exact absurd rfl this
      | cons _ _ => simp
    obtain ⟨c, hc, ec⟩ := ixv_int (cs := cs) (j := (t + 1) % (cs.length : Nat)) (Int.emod_nonneg _ (by omega)) (Int.emod_lt_of_pos _ (by omega))
    have c0 : 0 ≤ c % 2147483647 := Int.emod_nonneg _ (by decide)
    have c1 : c % 2147483647 < 2147483647 := Int.emod_lt_of_pos _ (by decide)
    simp only [List.isEmpty_nil, Bool.not_true, Bool.false_eq_true, if_false, qs, wps, sD1, lD1, lD0, sD0, Rn_og, Rn_some, e3, List.set_cons_zero, List.set_cons_succ, Dks1, List.length_map, ec]
    refine ⟨.inr rfl, by omega, by decide, mulOk_l (by decide) (by decide), mulOk_l (by omega) (by omega), mulOk_l (by decide) (by decide), mulOk_r (by omega) (by omega), by decide, ?_, by decide, by decide, m0, rfl, ?_⟩
    · refine mulOk_l ?_ ?_
      · have := Int.emod_nonneg (c % 2147483647 * (48271 + 69621 * (t + 1)) + 40692 * (t + 1) * (t + 1) + 11) (show (2147483629 : Int) ≠ 0 by decide)
        omega
      · have := Int.emod_lt_of_pos (c % 2147483647 * (48271 + 69621 * (t + 1)) + 40692 * (t + 1) * (t + 1) + 11) (show (0 : Int) < 2147483629 by decide)
        omega
    · rw [tk]
      exact k [] (t + 1) _ ⟨D'.b0, D'.bl, D'.c0, D'.cl, D'.cn, by omega, by omega⟩ (Int.emod_nonneg _ (by omega)) (Int.emod_lt_of_pos _ m0)
theorem filterMap_int (ns : List Int) (p : Int → Option Int) (q : Val → Option Val) (e : ∀ i, q (.int i) = (p i).map .int) : (ns.map Val.int).filterMap q = (ns.filterMap p).map .int := by
  induction ns with
  | nil => rfl
  | cons n ns ih =>
    rw [List.map_cons, List.filterMap_cons, List.filterMap_cons, e n, ih]
    cases p n <;> rfl
theorem deck_ok {P : Nat → Option MDef} (hP : P 4 = some d4) {fuel d : Nat} {ns : List Int} (hn : ns.length ≤ 63) {Q : Val → MH → Prop}
    (k : ∀ bs cs, DkOk bs cs 0 0 → Q (.ref 1) (Dk bs cs 0)) : Rn (callM P fuel (d + 1) 0 4 [.scr ns] []) Q := by
  refine Rn_callK hP rfl rfl fun C cc cb cf => ?_
  have SZe : SZ = 16777216 := rfl
  simp only [d4, wps, List.map_cons, List.map_nil, List.replicate, List.cons_append, List.nil_append, List.getElem?_cons_zero, List.getElem?_cons_succ, Option.some.injEq, exists_eq_left', Rn_some, qs, wipeE, List.foldr, List.set_cons_zero, List.set_cons_succ]
  refine Rn_compP (fun x => match x with | .int i => some (.int (if i < 0 then -i else i)) | _ => none) ?_ ?_
  · intro x hx
    obtain ⟨i, _, rfl⟩ := List.mem_map.mp hx
    simp only [Rn_bind, wps, qs, Rn_some, List.getElem?_cons_zero, List.getElem?_cons_succ, Option.some.injEq, exists_eq_left', List.set_cons_zero, List.set_cons_succ, if_true, Rn_ok, and_self]
  rw [filterMap_int ns (fun i => some (if i < 0 then -i else i)) _ fun i => rfl, show ns.filterMap (fun i => some (if i < 0 then -i else i)) = ns.map fun i => if i < 0 then -i else i from List.filterMap_eq_map ▸ rfl]
  generalize hcs : (ns.map fun i => if i < 0 then -i else i) = cs
  have c0 : ∀ c ∈ cs, 0 ≤ c := by
    subst hcs
    intro c hc
    obtain ⟨i, _, rfl⟩ := List.mem_map.mp hc
    split <;> omega
  have cl : cs.length ≤ 63 := by subst hcs; rw [List.length_map]; exact hn
  refine ⟨by rw [List.length_map]; omega, ?_⟩
  refine Rn_compP (fun x => match x with | .int i => if 10 ^ 18 ≤ i then some (.int i) else none | _ => none) ?_ ?_
  · intro x hx
    obtain ⟨i, _, rfl⟩ := List.mem_map.mp hx
    simp only [Rn_bind, wps, qs, Rn_some, Rn_og, List.getElem?_cons_zero, List.getElem?_cons_succ, Option.some.injEq, exists_eq_left', List.set_cons_zero, List.set_cons_succ, decide_eq_true_eq]
    refine ⟨by decide, ?_⟩
    by_cases hi : (10 : Int) ^ 18 ≤ i
    · rw [if_pos (show i ≥ 10 ^ Int.toNat 18 from hi), if_pos hi]
      simp only [Rn_bind, wps, List.getElem?_cons_zero, List.getElem?_cons_succ, Option.some.injEq, exists_eq_left', Rn_ok, and_self]
    · rw [if_neg (show ¬ i ≥ 10 ^ Int.toNat 18 from hi), if_neg hi]
      simp only [Rn_ok, and_self]
  rw [filterMap_int cs (fun i => if 10 ^ 18 ≤ i then some i else none) _ fun i => by by_cases hi : (10 : Int) ^ 18 ≤ i <;> simp [hi]]
  generalize hbs : cs.filterMap (fun i => if 10 ^ 18 ≤ i then some i else none) = bs
  have bl : bs.length ≤ 63 := by subst hbs; exact Nat.le_trans (List.length_filterMap_le _ _) cl
  have b0 : ∀ b ∈ bs, 0 ≤ b := by
    subst hbs
    intro b hb
    obtain ⟨i, hi, e⟩ := List.mem_filterMap.mp hb
    split at e
    · cases e; exact c0 _ hi
    · cases e
  have e : (cs.map Val.int) ++ [Val.int ((cs.length : Int) + 3)] = (cs ++ [(cs.length : Int) + 3]).map Val.int := by simp
  simp only [wps, qs, Rn_some, List.length_map, List.length_append, List.length_cons, List.length_nil, List.nil_append, List.append_nil, retV, e]
  refine ⟨by omega, by omega, by omega, by decide, ?_⟩
  refine k bs (cs ++ [(cs.length : Int) + 3]) ⟨b0, bl, fun c hc => ?_, by simp; omega, by simp, by decide, by decide⟩
  rcases List.mem_append.mp hc with hc | hc
  · exact c0 c hc
  · rw [List.mem_singleton.mp hc]; omega
end MP

set_option maxHeartbeats 4000000
/-! MiniS: what a shown value's text may come to. -/
namespace MP
open PySem
/-- v can be shown, its text has at most L signs -/
structure Sh (k L : Nat) (v : Val) : Prop where
  s : sho k v = true
  a : (toD v).showable = true
  l : (toD v).shown.length ≤ L
theorem Sh.le {k L L' : Nat} {v : Val} (h : Sh k L v) (e : L ≤ L') : Sh k L' v := ⟨h.s, h.a, Nat.le_trans h.l e⟩
theorem Sh.int {k e : Nat} {i : Int} (he : 0 < e) (h2 : e ≤ 500) (h : i.natAbs < 10 ^ e) : Sh k (e + 1) (.int i) := by
  refine ⟨by cases k <;> rfl, ?_, ?_⟩
  · simp only [toD, PyData.showable, decide_eq_true_eq]
    have h3 : i.natAbs < 2 ^ 1900 := Nat.lt_of_lt_of_le h (Nat.le_trans (Nat.pow_le_pow_right (by decide) h2) (by decide +kernel))
    by_cases z : i.natAbs = 0
    · rw [z]; decide
    · exact Nat.lt_of_lt_of_le ((Nat.log2_lt z).mpr h3) (by decide)
  · simp only [toD, PyData.shown]
    have := int_text_length_le10 he h
    rw [ofString_length]
    exact this
theorem showAll {k L : Nat} : ∀ {l : List Val}, (∀ v ∈ l, Sh k L v) → l.all (sho k) = true ∧ PyData.showableAll (toDL l) = true ∧ ((PyData.shownAll (toDL l)).map (·.length)).sum ≤ L * l.length ∧ (PyData.shownAll (toDL l)).length = l.length
  | [], _ => ⟨rfl, rfl, Nat.zero_le _, rfl⟩
  | v :: l, h => by
    obtain ⟨a, b, c, d⟩ := showAll (l := l) fun u hu => h u (List.mem_cons_of_mem _ hu)
    have hv := h v List.mem_cons_self
    refine ⟨by rw [List.all_cons, hv.s, a]; rfl, by simp only [toDL, PyData.showableAll, hv.a, b, Bool.and_self], ?_, by simp only [toDL, PyData.shownAll, List.length_cons, d]⟩
    have := hv.l
    simp only [toDL, PyData.shownAll, List.map_cons, List.sum_cons, List.length_cons, Nat.mul_add]
    omega
theorem Sh.tup {k L n : Nat} {l : List Val} (h : ∀ v ∈ l, Sh k L v) (hn : l.length ≤ n) : Sh (k + 1) ((L + 2) * n + 3) (.tup l) := by
  obtain ⟨a, b, c, d⟩ := showAll h
  refine ⟨a, by simpa only [toD, PyData.showable] using b, ?_⟩
  have := tupleText_len_le (PyData.shownAll (toDL l))
  simp only [toD, PyData.shown]
  have e : (L + 2) * l.length ≤ (L + 2) * n := Nat.mul_le_mul_left _ hn
  rw [Nat.add_mul] at e
  rw [d] at this
  omega
theorem Sh.lst {k L n : Nat} {l : List Val} (h : ∀ v ∈ l, Sh k L v) (hn : l.length ≤ n) : Sh (k + 1) ((L + 2) * n + 3) (.lst l) := by
  obtain ⟨a, b, c, d⟩ := showAll h
  refine ⟨by simpa [sho] using a, by simpa only [toD, PyData.showable] using b, ?_⟩
  have := listText_len_le (PyData.shownAll (toDL l))
  simp only [toD, PyData.shown]
  have e : (L + 2) * l.length ≤ (L + 2) * n := Nat.mul_le_mul_left _ hn
  rw [Nat.add_mul] at e
  rw [d] at this
  omega
theorem Sh.repr {L : Nat} {v : Val} {h : MH} (s : Sh 60 L v) (hL : L ≤ SZ) (hv : ∀ n, v ≠ .ref n) : bi .repr [v] h = some (.v (.str (toD v).shown)) := by
  have e : pd v h = some (toD v) := by
    cases v with
    | ref n => exact absurd rfl (hv n)
    | _ => simp only [pd, s.s, if_true]
  show (pd v h).bind _ = _
  have := s.l
  simp only [e, Option.bind_some, s.a, Bool.and_true]
  rw [if_pos (decide_eq_true (by omega))]
theorem Sh.reprR {k L n : Nat} {l : List Val} {h : MH} (e : h[n]? = some (.lst l)) (s : Sh 60 L (.lst l)) (hL : L ≤ SZ) : bi .repr [.ref n] h = some (.v (.str (toD (.lst l)).shown)) := by
  have hs : l.all (sho 59) = true := by simpa [sho] using s.s
  have e : pd (.ref n) h = some (toD (.lst l)) := by
    simp only [pd, e, hs, if_true]
    rfl
  show (pd (.ref n) h).bind _ = _
  have := s.l
  simp only [e, Option.bind_some, s.a, Bool.and_true]
  rw [if_pos (decide_eq_true (by omega))]
end MP

set_option maxHeartbeats 4000000
/-! MiniT: the law's houses, stands and wishes. -/
namespace MP
open PySem
local macro_rules
  | `(tactic| decreasing_trivial) => `(tactic| try simp only [Rn_bind, Rn_ok, Rn_some, Rn_og, Rn_obind, wps, qs, List.getElem?_cons_zero, List.getElem?_cons_succ, Option.some.injEq, exists_eq_left', List.set_cons_zero, List.set_cons_succ, List.map_cons, List.map_nil, List.replicate, List.cons_append, List.nil_append, wipeE, List.foldr, retV, if_true, Bool.not_true, Bool.not_false, Bool.false_eq_true, if_false, decide_eq_true_eq])
/-- _law_one -/
abbrev f6 : Nat := 6
def d6 : MDef := ⟨false, 2, 0, (Ss.cons (.ret (.idx (.var 1) (.call f5 (Es.cons (.var 0) (Es.cons (.cb .len false (Es.cons (.var 1) Es.nil)) Es.nil)))))
    Ss.nil)⟩
def n6 : List Str := ["_law_deck_here", "_law_some"]

/-- _law_amount -/
abbrev f16 : Nat := 16
def d16 : MDef := ⟨false, 2, 1, (Ss.cons (.asg (.nm 2) (.call f5 (Es.cons (.var 0) (Es.cons (.bin .add false (.cb .min2 false (Es.cons (.var 1) (Es.cons (.cst (.int 3)) Es.nil))) (.cst (.int 1))) Es.nil))))
    (Ss.cons (.ret (.idx (.lst false (Es.cons (.var 2) (Es.cons (.bin .sub false (.var 1) (.var 2)) (Es.cons (.call f5 (Es.cons (.var 0) (Es.cons (.bin .add false (.var 1) (.cst (.int 1))) Es.nil))) Es.nil)))) (.call f5 (Es.cons (.var 0) (Es.cons (.cst (.int 3)) Es.nil)))))
    Ss.nil))⟩
def n16 : List Str := ["_law_deck_here", "_law_high", "_law_few"]

/-- _law_house -/
abbrev f8 : Nat := 8
def d8 : MDef := ⟨false, 3, 2, (Ss.cons (.asg (.nm 3) (.lst true Es.nil))
    (Ss.cons (.forr (.nm 4) (.rng (.var 1)) (Ss.cons (.ex (.app (.var 3) (.bin .add false (.cst (.int 1)) (.call f5 (Es.cons (.var 0) (Es.cons (.call f6 (Es.cons (.var 0) (Es.cons (.lst false (Es.cons (.cst (.int 1)) (Es.cons (.cst (.int 3)) (Es.cons (.cst (.int 9)) (Es.cons (.bin .pow false (.cst (.int 10)) (.cst (.int 12))) Es.nil))))) Es.nil))) Es.nil))))))
    Ss.nil))
    (Ss.cons (.ret (.tup (Es.cons (.cb .tuple false (Es.cons (.var 3) Es.nil)) (Es.cons (.var 2) Es.nil))))
    Ss.nil)))⟩
def n8 : List Str := ["_law_deck_here", "_law_rooms", "_law_kinds", "_law_sizes", "_law_room"]

/-- _law_row -/
abbrev f17 : Nat := 17
def d17 : MDef := ⟨false, 3, 4, (Ss.cons (.asg (.nm 3) (.call f6 (Es.cons (.var 0) (Es.cons (.lst false (Es.cons (.var 1) (Es.cons (.var 1) (Es.cons (.var 1) (Es.cons (.bin .sub false (.var 1) (.call f5 (Es.cons (.var 0) (Es.cons (.bin .add false (.cb .min2 false (Es.cons (.var 1) (Es.cons (.cst (.int 2)) Es.nil))) (.cst (.int 1))) Es.nil)))) (Es.cons (.call f16 (Es.cons (.var 0) (Es.cons (.var 1) Es.nil))) Es.nil)))))) Es.nil))))
    (Ss.cons (.asg (.nm 4) (.bin .mul true (.lst false (Es.cons (.cst (.int 0)) Es.nil)) (.var 2)))
    (Ss.cons (.forr (.nm 5) (.rng (.var 2)) (Ss.cons (.sset (.var 4) (.var 5) (.ite (.cmp .lt (.var 5) (.bin .sub false (.var 2) (.cst (.int 1)))) (.call f16 (Es.cons (.var 0) (Es.cons (.var 3) Es.nil))) (.var 3)))
    (Ss.cons (.asg (.nm 3) (.bin .sub false (.var 3) (.idx (.var 4) (.var 5))))
    Ss.nil)))
    (Ss.cons (.asg (.nm 6) (.call f5 (Es.cons (.var 0) (Es.cons (.var 2) Es.nil))))
    (Ss.cons (.ret (.cb .tuple false (Es.cons (.bin .add false (.slc false (.var 4) true (.var 6) false .nil) (.slc false (.var 4) false .nil true (.var 6))) Es.nil)))
    Ss.nil)))))⟩
def n17 : List Str := ["_law_deck_here", "_law_size", "_law_kinds", "_law_left", "_law_found", "_law_kind", "_law_first"]

/-- _law_stand -/
abbrev f18 : Nat := 18
def d18 : MDef := ⟨false, 2, 1, (Ss.cons (.ret (.cb .tuple false (Es.cons (.comp false (.call f17 (Es.cons (.var 0) (Es.cons (.var 2) (Es.cons (.idx (.var 1) (.cst (.int 1))) Es.nil)))) (.nm 2) (.val (.idx (.var 1) (.cst (.int 0)))) Es.nil [2]) Es.nil)))
    Ss.nil)⟩
def n18 : List Str := ["_law_deck_here", "_law_house_here", "_law_size"]

/-- _law_put -/
abbrev f19 : Nat := 19
def d19 : MDef := ⟨false, 4, 2, (Ss.cons (.asg (.nm 4) (.comp false (.cb .list true (Es.cons (.var 5) Es.nil)) (.nm 5) (.val (.var 0)) Es.nil [5]))
    (Ss.cons (.sset (.idx (.var 4) (.var 1)) (.var 2) (.bin .add false (.idx (.idx (.var 4) (.var 1)) (.var 2)) (.var 3)))
    (Ss.cons (.ret (.cb .tuple false (Es.cons (.comp false (.cb .tuple false (Es.cons (.var 5) Es.nil)) (.nm 5) (.val (.var 4)) Es.nil [5]) Es.nil)))
    Ss.nil)))⟩
def n19 : List Str := ["_law_stand_here", "_law_room", "_law_kind", "_law_many", "_law_rows", "_law_row_here"]

/-- _law_free -/
abbrev f29 : Nat := 29
def d29 : MDef := ⟨false, 2, 1, (Ss.cons (.ret (.comp false (.bin .sub false (.idx (.idx (.var 0) (.cst (.int 0))) (.var 2)) (.cb .sum false (Es.cons (.idx (.var 1) (.var 2)) Es.nil))) (.nm 2) (.rng (.cb .len false (Es.cons (.var 1) Es.nil))) Es.nil [2]))
    Ss.nil)⟩
def n29 : List Str := ["_law_house_here", "_law_stand_here", "_law_room"]

/-- _law_wish -/
abbrev f30 : Nat := 30
def d30 : MDef := ⟨false, 3, 6, (Ss.cons (.forr (.nm 3) (.rng (.call f5 (Es.cons (.var 0) (Es.cons (.cst (.int 9)) Es.nil)))) (Ss.cons (.par [4, 5] (Es.cons (.call f5 (Es.cons (.var 0) (Es.cons (.cb .len false (Es.cons (.var 2) Es.nil)) Es.nil))) (Es.cons (.call f5 (Es.cons (.var 0) (Es.cons (.cb .len false (Es.cons (.var 2) Es.nil)) Es.nil))) Es.nil)))
    (Ss.cons (.par [6, 7] (Es.cons (.call f5 (Es.cons (.var 0) (Es.cons (.idx (.var 1) (.cst (.int 1))) Es.nil))) (Es.cons (.call f5 (Es.cons (.var 0) (Es.cons (.idx (.var 1) (.cst (.int 1))) Es.nil))) Es.nil)))
    (Ss.cons (.iff (.bop true (Es.cons (.cmp .ne (.var 4) (.var 5)) (Es.cons (.cmp .eq (.call f5 (Es.cons (.var 0) (Es.cons (.cst (.int 3)) Es.nil))) (.cst (.int 0))) Es.nil))) (Ss.cons (.asg (.nm 8) (.call f16 (Es.cons (.var 0) (Es.cons (.cb .min2 false (Es.cons (.idx (.idx (.var 2) (.var 4)) (.var 6)) (Es.cons (.idx (.call f29 (Es.cons (.var 1) (Es.cons (.var 2) Es.nil))) (.var 5)) Es.nil))) Es.nil))))
    (Ss.cons (.asg (.nm 2) (.call f19 (Es.cons (.call f19 (Es.cons (.var 2) (Es.cons (.var 4) (Es.cons (.var 6) (Es.cons (.bin .sub false (.cst (.int 0)) (.var 8)) Es.nil))))) (Es.cons (.var 5) (Es.cons (.var 6) (Es.cons (.var 8) Es.nil))))))
    Ss.nil)) (Ss.cons (.iff (.bop true (Es.cons (.cmp .ne (.var 4) (.var 5)) (Es.cons (.cmp .ne (.var 6) (.var 7)) Es.nil))) (Ss.cons (.asg (.nm 8) (.call f16 (Es.cons (.var 0) (Es.cons (.cb .min2 false (Es.cons (.idx (.idx (.var 2) (.var 4)) (.var 6)) (Es.cons (.idx (.idx (.var 2) (.var 5)) (.var 7)) Es.nil))) Es.nil))))
    (Ss.cons (.asg (.nm 2) (.call f19 (Es.cons (.call f19 (Es.cons (.var 2) (Es.cons (.var 4) (Es.cons (.var 6) (Es.cons (.bin .sub false (.cst (.int 0)) (.var 8)) Es.nil))))) (Es.cons (.var 5) (Es.cons (.var 6) (Es.cons (.var 8) Es.nil))))))
    (Ss.cons (.asg (.nm 2) (.call f19 (Es.cons (.call f19 (Es.cons (.var 2) (Es.cons (.var 5) (Es.cons (.var 7) (Es.cons (.bin .sub false (.cst (.int 0)) (.var 8)) Es.nil))))) (Es.cons (.var 4) (Es.cons (.var 7) (Es.cons (.var 8) Es.nil))))))
    Ss.nil))) Ss.nil)
    Ss.nil))
    Ss.nil))))
    (Ss.cons (.ret (.var 2))
    Ss.nil))⟩
def n30 : List Str := ["_law_deck_here", "_law_house_here", "_law_stand_here", "_law_turn", "_law_one_here", "_law_other", "_law_kind", "_law_for_it", "_law_many"]

/-- _law_case -/
abbrev f31 : Nat := 31
def d31 : MDef := ⟨false, 1, 2, (Ss.cons (.asg (.nm 1) (.call f8 (Es.cons (.var 0) (Es.cons (.bin .add false (.cst (.int 1)) (.call f5 (Es.cons (.var 0) (Es.cons (.cst (.int 8)) Es.nil)))) (Es.cons (.bin .add false (.cst (.int 1)) (.call f5 (Es.cons (.var 0) (Es.cons (.cst (.int 6)) Es.nil)))) Es.nil)))))
    (Ss.cons (.asg (.nm 2) (.call f18 (Es.cons (.var 0) (Es.cons (.var 1) Es.nil))))
    (Ss.cons (.ret (.tup (Es.cons (.var 1) (Es.cons (.var 2) (Es.cons (.call f30 (Es.cons (.var 0) (Es.cons (.var 1) (Es.cons (.var 2) Es.nil)))) Es.nil)))))
    Ss.nil)))⟩
def n31 : List Str := ["_law_deck_here", "_law_house_here", "_law_stand_here"]


theorem hlD (bs cs : List Int) (t : Int) (r : MH) : List.length (Dk bs cs t ++ r) = r.length + 2 := by simp [Dk]
theorem tkD (bs cs : List Int) (t : Int) (r : MH) : List.take (r.length + 2) (Dk bs cs t ++ r) = Dk bs cs t ++ r := List.take_of_length_le (by simp [Dk])
theorem DkOk.up {bs cs : List Int} {t n m : Int} (D : DkOk bs cs t n) (h : n ≤ m) : DkOk bs cs t m := ⟨D.b0, D.bl, D.c0, D.cl, D.cn, D.t0, Int.le_trans D.tn h⟩
variable {P : Nat → Option MDef} {fuel d base : Nat} {bs cs : List Int} {t n : Int} {r : MH}
theorem ixv_mem {l : List Val} {z : Int} (h0 : 0 ≤ z) (h1 : z < l.length) : ∃ v ∈ l, ixv l z = some v := by
  have h2 : z.toNat < l.length := by omega
  exact ⟨l[z.toNat], List.getElem_mem h2, by rw [ixv_ok h0 h1, List.getElem?_eq_getElem h2]⟩
/-- one of some -/
theorem one_ok (h5 : P 5 = some d5) (h6 : P 6 = some d6) {l : List Val} (D : DkOk bs cs t n) (hn : n ≤ 2 ^ 50) (hf : 70 ≤ fuel) (l0 : l ≠ []) (l1 : l.length ≤ 1000) (lp : ∀ v ∈ l, dle 60 v = true) {Q : Val → MH → Prop}
    (k : ∀ bs' t' v, DkOk bs' cs t' (n + 1) → v ∈ l → Q v (Dk bs' cs t' ++ r)) (T : l.length > 0 := by simp) :
    (Rn (callM P fuel (d + 2) base 6 [.ref 1, .lst l] (Dk bs cs t ++ r)) Q) ∧ Rn (callM P fuel (d + 2) base 6 [.ref 1, .tup l] (Dk bs cs t ++ r)) Q := by
  constructor
  all_goals
    refine Rn_callF h6 rfl rfl fun C cc cb cf => ?_
    rw [hlD] at cc cb
    simp only [d6, hlD, cc]
    decreasing_trivial
    simp only [cc]
    refine next_ok h5 D hn (by omega) (by omega) hf fun bs1 t1 x D1 x0 x1 => ?_
    obtain ⟨v, hv, ev⟩ := ixv_mem x0 x1
    decreasing_trivial
    simp only [ev, Rn_some, tkD]
    refine ⟨?_, k bs1 t1 v D1 hv⟩
    have := lp v hv
    cases v <;> first | exact this | cases this
/-- an amount of none to high -/
theorem amount_ok (h5 : P 5 = some d5) (h16 : P 16 = some d16) {high : Int} (D : DkOk bs cs t n) (hn : n + 3 ≤ 2 ^ 50) (hf : 70 ≤ fuel) (h0 : 0 ≤ high) (h1 : high < 2 ^ 60) {Q : Val → MH → Prop}
    (k : ∀ bs' t' x, DkOk bs' cs t' (n + 3) → 0 ≤ x → x ≤ high → Q (.int x) (Dk bs' cs t' ++ r)) : Rn (callM P fuel (d + 2) base 16 [.ref 1, .int high] (Dk bs cs t ++ r)) Q := by
  refine Rn_callF h16 rfl rfl fun C cc cb cf => ?_
  rw [hlD] at cc cb
  simp only [d16, hlD, cc]
  decreasing_trivial
  simp only [cc]
  refine next_ok h5 D (by omega) (by split <;> omega) (by split <;> omega) hf fun bs1 t1 x1 D1 a1 b1 => ?_
  decreasing_trivial
  refine next_ok h5 D1 (by omega) (by omega) (by omega) hf fun bs2 t2 x2 D2 a2 b2 => ?_
  refine ⟨by simp only [List.length_cons, List.length_nil]; decide, next_ok h5 D2 (by omega) (by omega) (by omega) hf fun bs3 t3 x3 D3 a3 b3 => ?_⟩
  obtain ⟨v, hv, ev⟩ := ixv_mem (l := [.int x1, .int (high - x1), .int x2]) a3 (by simp only [List.length_cons, List.length_nil]; omega)
  decreasing_trivial
  simp only [ev, Rn_some, tkD]
  have D3' : DkOk bs3 cs t3 (n + 3) := D3.up (by omega)
  have hx1 : x1 ≤ high := by
    have : (if (3 : Int) < high then (3 : Int) else high) ≤ high := by split <;> omega
    omega
  simp only [List.mem_cons, List.not_mem_nil, or_false] at hv
  rcases hv with rfl | rfl | rfl
  · exact ⟨rfl, k _ _ _ D3' a1 hx1⟩
  · exact ⟨rfl, k _ _ _ D3' (by omega) (by omega)⟩
  · exact ⟨rfl, k _ _ _ D3' a2 (by omega)⟩
theorem rangeV_len (a b : Int) : (rangeV a b).length = (b - a).toNat := by simp [rangeV]
theorem rangeV_get {b : Int} {j : Nat} {x : Val} (e : (rangeV 0 b)[j]? = some x) : x = .int j ∧ (j : Int) < b := by
  have h := (List.getElem?_eq_some_iff.mp e).1
  rw [rangeV_len] at h
  unfold rangeV at e
  rw [List.getElem?_map, List.getElem?_range (by omega)] at e
  cases e
  exact ⟨by simp, by omega⟩
theorem lRes (bs cs : List Int) (t : Int) (r : MH) (l : List Val) : lits (.ref (r.length + 2)) (Dk bs cs t ++ (r ++ [.lst l])) = some l := by
  have : (Dk bs cs t ++ (r ++ [.lst l]))[r.length + 2]? = some (.lst l) := by simp [Dk]
  simp only [lits, this]
theorem gRes (bs cs : List Int) (t : Int) (r : MH) (c : Cell) : (Dk bs cs t ++ (r ++ [c]))[r.length + 2]? = some c := by simp [Dk]
theorem sRes (bs cs : List Int) (t : Int) (r : MH) (l : List Val) : sits (.ref (r.length + 2)) (Dk bs cs t ++ (r ++ [.lst l])) = some l := lRes ..
theorem stRes (bs cs : List Int) (t : Int) (r : MH) (c c' : Cell) : (Dk bs cs t ++ (r ++ [c])).set (r.length + 2) c' = Dk bs cs t ++ (r ++ [c']) := by
  simp [Dk, List.set_append]
theorem tkRes (bs cs : List Int) (t : Int) (r : MH) (c : Cell) : List.take (r.length + 2) (Dk bs cs t ++ (r ++ [c])) = Dk bs cs t ++ r := by
  simp [Dk, List.take_append]
/-! houses -/
def SizeOk (s : Int) : Prop := 1 ≤ s ∧ s ≤ 10 ^ 12
def tI (l : List Int) : Val := .tup (l.map .int)
theorem tI_dle (k : Nat) (l : List Int) : dle (k + 1) (tI l) = true := by
  show (l.map Val.int).all (dle k) = true
  rw [List.all_map, List.all_eq_true]
  intro x _
  cases k <;> rfl
theorem house_ok (h5 : P 5 = some d5) (h6 : P 6 = some d6) (h8 : P 8 = some d8) {rooms kinds : Int} (D : DkOk bs cs t n) (hn : n + 20 ≤ 2 ^ 50) (hf : 70 ≤ fuel) (r0 : 0 ≤ rooms) (r1 : rooms ≤ 9) {Q : Val → MH → Prop}
    (k : ∀ bs' t' sizes, DkOk bs' cs t' (n + 18) → (sizes.length : Int) = rooms → (∀ s ∈ sizes, SizeOk s) → Q (.tup [tI sizes, .int kinds]) (Dk bs' cs t' ++ r)) : Rn (callM P fuel (d + 3) base 8 [.ref 1, .int rooms, .int kinds] (Dk bs cs t ++ r)) Q := by
  refine Rn_callF h8 rfl rfl fun C cc cb cf => ?_
  rw [hlD] at cc cb
  simp only [d8, hlD, cc]
  decreasing_trivial
  simp only [hlD, List.append_assoc]
  refine ⟨Nat.zero_le _, ?_⟩
  rw [if_pos (by omega)]
  refine Rn_for (fun i g h => ∃ bs t sizes u4, DkOk bs cs t (n + 2 * i) ∧ h = Dk bs cs t ++ (r ++ [.lst (sizes.map .int)]) ∧ g = [some (.ref 1), some (.int rooms), some (.int kinds), some (.ref (r.length + 2)), u4] ∧ sizes.length = i ∧ ∀ s ∈ sizes, SizeOk s) _ 0 _ _
    ⟨bs, t, [], none, by simpa using D, rfl, rfl, rfl, fun _ z => nomatch z⟩ ?_ ?_
  · rintro j x g h e ⟨bs1, t1, sizes, u4, D1, rfl, rfl, hs, hok⟩
    obtain ⟨rfl, hj⟩ := rangeV_get e
    decreasing_trivial
    simp only [cc, lRes, Rn_some]
    refine ⟨by decide, by simp only [List.length_cons, List.length_nil]; decide, (one_ok h5 h6 D1 (by omega) hf (by simp) (by simp) (by simp [dle]) fun bs2 t2 v D2 hv => ?_).1⟩
    obtain ⟨m, rfl, m0, m1⟩ : ∃ m : Int, v = .int m ∧ 1 ≤ m ∧ m ≤ 10 ^ 12 := by
      simp only [List.mem_cons, List.not_mem_nil, or_false] at hv
      rcases hv with rfl | rfl | rfl | rfl
      · exact ⟨_, rfl, by decide, by decide⟩
      · exact ⟨_, rfl, by decide, by decide⟩
      · exact ⟨_, rfl, by decide, by decide⟩
      · exact ⟨_, rfl, by decide, by decide⟩
    refine next_ok h5 D2 (by omega) (by omega) (by omega) hf fun bs3 t3 x3 D3 a3 b3 => ?_
    decreasing_trivial
    simp only [lRes, Rn_some, stRes, List.length_map]
    have SZe : SZ = 16777216 := rfl
    refine ⟨by omega, .inl (by omega), bs3, t3, sizes ++ [1 + x3], some (.int j), D3.up (by omega), by simp, rfl, by simp [hs], ?_⟩
    intro z hz
    rcases List.mem_append.mp hz with hz | hz
    · exact hok z hz
    · rw [List.mem_singleton.mp hz]; exact ⟨by omega, by omega⟩
  · rintro g h ⟨bs1, t1, sizes, u4, D1, rfl, rfl, hs, hok⟩
    rw [rangeV_len] at hs D1
    decreasing_trivial
    simp only [q_tupR _ _ _ (gRes ..), Rn_some, wps, tkRes]
    refine ⟨?_, k bs1 t1 sizes (D1.up (by omega)) (by omega) hok⟩
    show [tI sizes, Val.int kinds].all (dle 59) = true
    simp [tI_dle 58, dle]
/-! rows -/
theorem sum_nn : ∀ {l : List Int}, (∀ x ∈ l, 0 ≤ x) → 0 ≤ l.sum
  | [], _ => by simp
  | a :: l, h => by
    rw [List.sum_cons]
    have := h a List.mem_cons_self
    have := sum_nn (l := l) fun y hy => h y (List.mem_cons_of_mem _ hy)
    omega
structure RowOk (k : Nat) (size : Int) (row : List Int) : Prop where
  len : row.length = k
  nn : ∀ x ∈ row, 0 ≤ x
  le : row.sum ≤ size
theorem q_mulL (x : List Val) (k : Int) (h : MH) : bin .mul (.lst x) (.int k) h = if -(2 ^ 63) ≤ k ∧ k < 2 ^ 63 ∧ x.length * k.toNat ≤ SZ then some (.nl (rep x k)) else none := rfl
theorem cut_from (l : List Val) {f : Int} (h : 0 ≤ f) : cut l (some f) none = l.drop f.toNat := by
  have e : six l.length 0 (some f) = min f.toNat l.length := by
    show (if f < 0 then _ else _) = _
    rw [if_neg (by omega)]
  unfold cut
  rw [e]
  show (l.drop _).take (l.length - min f.toNat l.length) = _
  rw [List.take_of_length_le (by rw [List.length_drop]; omega)]
  by_cases hf : f.toNat ≤ l.length
  · rw [Nat.min_eq_left hf]
  · rw [Nat.min_eq_right (by omega), List.drop_length, List.drop_eq_nil_of_le (by omega)]
theorem cut_to (l : List Val) {f : Int} (h : 0 ≤ f) : cut l none (some f) = l.take f.toNat := by
  have e : six l.length l.length (some f) = min f.toNat l.length := by
    show (if f < 0 then _ else _) = _
    rw [if_neg (by omega)]
  unfold cut
  rw [e]
  show (l.drop 0).take (min f.toNat l.length - 0) = _
  rw [List.drop_zero, Nat.sub_zero, ← List.take_take, List.take_length]
theorem slc_ref {h : MH} {a : Nat} {l : List Val} (e : lits (.ref a) h = some l) (lo hi : Option Int) : slc (.ref a) lo hi h = some (.nl (cut l lo hi)) := by
  show (match lits (.ref a) h with | some l => some (RV.nl (cut l lo hi)) | none => none) = _
  rw [e]
theorem set_mid {α : Type} (a : List α) (x y : α) (b : List α) {j : Nat} (h : a.length = j) : (a ++ x :: b).set j y = a ++ y :: b := by
  subst h; simp
theorem get_mid {α : Type} (a : List α) (x : α) (b : List α) {j : Nat} (h : a.length = j) : (a ++ x :: b)[j]? = some x := by
  subst h; simp
theorem row_ok (h5 : P 5 = some d5) (h6 : P 6 = some d6) (h16 : P 16 = some d16) (h17 : P 17 = some d17) {size kinds : Int} (D : DkOk bs cs t n) (hn : n + 40 ≤ 2 ^ 50) (hf : 70 ≤ fuel) (s0 : SizeOk size) (k0 : 1 ≤ kinds) (k1 : kinds ≤ 7) {Q : Val → MH → Prop}
    (k : ∀ bs' t' row, DkOk bs' cs t' (n + 30) → RowOk kinds.toNat size row → Q (tI row) (Dk bs' cs t' ++ r)) : Rn (callM P fuel (d + 3) base 17 [.ref 1, .int size, .int kinds] (Dk bs cs t ++ r)) Q := by
  refine Rn_callF h17 rfl rfl fun C cc cb cf => ?_
  rw [hlD] at cc cb
  have SZe : SZ = 16777216 := rfl
  obtain ⟨s1, s2⟩ := s0
  simp only [d17, hlD, cc]
  decreasing_trivial
  simp only [cc]
  refine next_ok h5 D (by omega) (by split <;> omega) (by split <;> omega) hf fun bs1 t1 x1 D1 a1 b1 => ?_
  have hx1 : x1 ≤ size := by
    have : (if (2 : Int) < size then (2 : Int) else size) ≤ size := by split <;> omega
    omega
  decreasing_trivial
  refine amount_ok h5 h16 D1 (by omega) hf (by omega) (by omega) fun bs2 t2 x2 D2 a2 b2 => ?_
  refine ⟨by simp only [List.length_cons, List.length_nil]; omega, (one_ok h5 h6 D2 (by omega) hf (by simp) (by simp) (by simp [dle]) fun bs3 t3 v D3 hv => ?_).1⟩
  obtain ⟨left, rfl, l0, l1⟩ : ∃ m : Int, v = .int m ∧ 0 ≤ m ∧ m ≤ size := by
    simp only [List.mem_cons, List.not_mem_nil, or_false] at hv
    rcases hv with rfl | rfl | rfl | rfl | rfl
    · exact ⟨_, rfl, by omega, by omega⟩
    · exact ⟨_, rfl, by omega, by omega⟩
    · exact ⟨_, rfl, by omega, by omega⟩
    · exact ⟨_, rfl, by omega, by omega⟩
    · exact ⟨_, rfl, by omega, by omega⟩
  simp only [q_mulL, Rn_og, wps]
  decreasing_trivial
  have hlr : (rep [Val.int 0] kinds) = (List.replicate kinds.toNat (0 : Int)).map .int := by simp [rep]
  simp only [hlD, hlr, List.length_map, List.length_replicate, List.append_assoc]
  refine ⟨by simp only [List.length_cons, List.length_nil]; omega, ⟨by omega, by omega, by simp only [List.length_cons, List.length_nil, Nat.zero_add, Nat.one_mul]; omega⟩, by omega, ?_⟩
  rw [if_pos (by omega)]
  refine Rn_for (fun i g h => ∃ (bs : List Int) (t : Int) (done : List Int) (lf : Int) (u5 u6 : Option Val), DkOk bs cs t (n + 5 + 3 * i) ∧ h = Dk bs cs t ++ (r ++ [.lst ((done ++ List.replicate (kinds.toNat - i) (0 : Int)).map .int)]) ∧ g = [some (.ref 1), some (.int size), some (.int kinds), some (.int lf), some (.ref (r.length + 2)), u5, u6] ∧
      done.length = i ∧ (∀ x ∈ done, 0 ≤ x) ∧ 0 ≤ lf ∧ done.sum + lf = left) _ 0 _ _
    ⟨bs3, t3, [], left, none, none, D3.up (by omega), rfl, rfl, rfl, (fun _ z => nomatch z), l0, by simp⟩ ?_ ?_
  · rintro j x g h e ⟨bs4, t4, done, lf, u5, u6, D4, rfl, rfl, hd, hok, hlf, hsum⟩
    obtain ⟨rfl, hj⟩ := rangeV_get e
    decreasing_trivial
    have hK : List.replicate (kinds.toNat - (0 + j)) (0 : Int) = 0 :: List.replicate (kinds.toNat - j - 1) 0 := by
      have : kinds.toNat - (0 + j) = (kinds.toNat - j - 1) + 1 := by omega
      rw [this, List.replicate_succ]
    simp only [cc]
    split
    · refine amount_ok h5 h16 D4 (by omega) hf hlf (by have := sum_nn hok; omega) fun bs5 t5 x5 D5 a5 b5 => ?_
      rw [hK]
      simp only [List.map_append, List.map_cons, lRes, Rn_some, List.length_append, List.length_map, List.length_cons, List.length_replicate]
      rw [ixm_ok (by omega) (by omega)]
      simp only [Rn_some, Int.toNat_natCast, stRes, set_mid (done.map Val.int) _ _ _ (show (done.map Val.int).length = j by rw [List.length_map, hd, Nat.zero_add]), sRes]
      rw [ixv_ok (by omega) (by simp only [List.length_append, List.length_map, List.length_cons, List.length_replicate]; omega), Int.toNat_natCast, get_mid (done.map Val.int) _ _ (show (done.map Val.int).length = j by rw [List.length_map, hd, Nat.zero_add])]
      decreasing_trivial
      refine ⟨.inl (by omega), bs5, t5, done ++ [x5], lf - x5, some (.int j), u6, DkOk.up D5 (by omega), ?_, rfl, by simp [hd], ?_, by omega, by simp; omega⟩
      · have : kinds.toNat - (0 + j + 1) = kinds.toNat - j - 1 := by omega
        rw [this]
        simp
      · intro z hz
        rcases List.mem_append.mp hz with hz | hz
        · exact hok z hz
        · rw [List.mem_singleton.mp hz]; omega
    · rw [hK]
      simp only [List.map_append, List.map_cons, lRes, Rn_some, List.length_append, List.length_map, List.length_cons, List.length_replicate]
      rw [ixm_ok (by omega) (by omega)]
      simp only [Rn_some, Int.toNat_natCast, stRes, set_mid (done.map Val.int) _ _ _ (show (done.map Val.int).length = j by rw [List.length_map, hd, Nat.zero_add]), sRes]
      rw [ixv_ok (by omega) (by simp only [List.length_append, List.length_map, List.length_cons, List.length_replicate]; omega), Int.toNat_natCast, get_mid (done.map Val.int) _ _ (show (done.map Val.int).length = j by rw [List.length_map, hd, Nat.zero_add])]
      decreasing_trivial
      refine ⟨.inl (by omega), bs4, t4, done ++ [lf], lf - lf, some (.int j), u6, DkOk.up D4 (by omega), ?_, rfl, by simp [hd], ?_, by omega, by simp; omega⟩
      · have : kinds.toNat - (0 + j + 1) = kinds.toNat - j - 1 := by omega
        rw [this]
        simp
      · intro z hz
        rcases List.mem_append.mp hz with hz | hz
        · exact hok z hz
        · rw [List.mem_singleton.mp hz]; omega
  · rintro g h ⟨bs4, t4, done, lf, u5, u6, D4, rfl, rfl, hd, hok, hlf, hsum⟩
    rw [rangeV_len] at hd D4
    have hz : kinds.toNat - (0 + (kinds - 0).toNat) = 0 := by omega
    simp only [rangeV_len, hz, List.replicate_zero, List.append_nil]
    decreasing_trivial
    refine next_ok h5 D4 (by omega) (by omega) (by omega) hf fun bs5 t5 f D5 a5 b5 => ?_
    simp only [slc_ref (lRes ..), Rn_some, wps, List.getElem?_cons_zero, List.getElem?_cons_succ, Option.some.injEq, exists_eq_left', List.set_cons_zero, List.set_cons_succ, qs, cut_from _ a5, cut_to _ a5, tkRes]
    have SZe : SZ = 16777216 := rfl
    have hdl : done.length = kinds.toNat := by omega
    refine ⟨?_, ?_, ?_, ?_⟩
    · rw [List.length_drop, List.length_map]; omega
    · rw [List.length_take, List.length_map]; omega
    · rw [List.length_append, List.length_drop, List.length_take, List.length_map]; omega
    · have e : (done.map Val.int).drop f.toNat ++ (done.map Val.int).take f.toNat = (done.drop f.toNat ++ done.take f.toNat).map Val.int := by
        rw [List.map_append, List.map_drop, List.map_take]
      rw [e]
      refine ⟨tI_dle 59 _, k bs5 t5 _ (D5.up (by omega)) ⟨?_, ?_, ?_⟩⟩
      · rw [List.length_append, List.length_drop, List.length_take]; omega
      · intro x hx
        rcases List.mem_append.mp hx with hx | hx
        · exact hok x (List.mem_of_mem_drop hx)
        · exact hok x (List.mem_of_mem_take hx)
      · have : (done.drop f.toNat ++ done.take f.toNat).sum = done.sum := by
          conv => rhs; rw [← List.take_append_drop f.toNat done]
          rw [List.sum_append, List.sum_append, Int.add_comm]
        rw [this]
        omega
/-! stands -/
def stV (st : List (List Int)) : Val := .tup (st.map tI)
theorem stV_dle (k : Nat) (st : List (List Int)) : dle (k + 2) (stV st) = true := by
  show (st.map tI).all (dle (k + 1)) = true
  rw [List.all_map, List.all_eq_true]
  intro x _
  exact tI_dle k x
structure StOk (sizes : List Int) (k : Nat) (st : List (List Int)) : Prop where
  len : st.length = sizes.length
  row : ∀ (j : Nat) (row : List Int) (s : Int), st[j]? = some row → sizes[j]? = some s → RowOk k s row
def hoV (sizes : List Int) (kinds : Int) : Val := .tup [tI sizes, .int kinds]
theorem stand_ok (h5 : P 5 = some d5) (h6 : P 6 = some d6) (h16 : P 16 = some d16) (h17 : P 17 = some d17) (h18 : P 18 = some d18) {sizes : List Int} {kinds : Int} (D : DkOk bs cs t n) (hn : n + 600 ≤ 2 ^ 50) (hf : 70 ≤ fuel) (s0 : ∀ s ∈ sizes, SizeOk s) (sl : sizes.length ≤ 16) (k0 : 1 ≤ kinds) (k1 : kinds ≤ 7) {Q : Val → MH → Prop}
    (k : ∀ bs' t' st, DkOk bs' cs t' (n + 500) → StOk sizes kinds.toNat st → Q (stV st) (Dk bs' cs t' ++ r)) : Rn (callM P fuel (d + 4) base 18 [.ref 1, hoV sizes kinds] (Dk bs cs t ++ r)) Q := by
  refine Rn_callF h18 rfl rfl fun C cc cb cf => ?_
  rw [hlD] at cc cb
  have SZe : SZ = 16777216 := rfl
  simp only [d18, hlD, hoV]
  decreasing_trivial
  simp only [tI, qs, Rn_some]
  refine Rn_comp (sizes.map Val.int) 0 [] _ (fun i acc h => ∃ (bs : List Int) (t : Int) (st : List (List Int)), DkOk bs cs t (n + 30 * i) ∧ h = Dk bs cs t ++ r ∧ acc = st.map tI ∧ StOk (sizes.take i) kinds.toNat st) _
    ⟨bs, t, [], by simpa using D, rfl, rfl, ⟨by simp, fun j row s e => by simp at e⟩⟩ ?_ ?_
  · rintro j x acc h e ⟨bs1, t1, st, D1, rfl, rfl, so⟩
    rw [List.getElem?_map] at e
    obtain ⟨s, e1, rfl⟩ := Option.map_eq_some_iff.mp e
    have hj := (List.getElem?_eq_some_iff.mp e1).1
    decreasing_trivial
    simp only [cc]
    refine row_ok h5 h6 h16 h17 D1 (by omega) hf (s0 s (List.mem_of_getElem? e1)) k0 k1 fun bs2 t2 row D2 ro => ?_
    have l1 : st.length = j := by rw [so.len, List.length_take]; omega
    refine ⟨bs2, t2, st ++ [row], D2.up (by omega), rfl, by simp, ⟨?_, ?_⟩⟩
    · rw [List.length_append, l1, List.length_take]; simp; omega
    · intro j2 row2 s2 e2 e3
      by_cases hz : j2 < j
      · rw [List.getElem?_append_left (by omega)] at e2
        rw [List.getElem?_take_of_lt (by omega)] at e3
        exact so.row j2 row2 s2 e2 (by rw [List.getElem?_take_of_lt (by omega)]; exact e3)
      · by_cases hz2 : j2 = j
        · subst hz2
          rw [get_mid st row [] l1] at e2
          rw [List.getElem?_take_of_lt (by omega), e1] at e3
          cases e2; cases e3
          exact ro
        · rw [List.getElem?_eq_none (by rw [List.length_append]; simp; omega)] at e2
          cases e2
  · rintro acc1 h ⟨bs1, t1, st, D1, rfl, ha, so⟩
    rw [List.nil_append] at ha
    subst ha
    rw [Nat.zero_add, List.length_map] at D1 so
    rw [List.take_length] at so
    decreasing_trivial
    simp only [tkD]
    refine ⟨by rw [List.length_map, so.len]; omega, stV_dle 58 st, k bs1 t1 st (D1.up (by omega)) so⟩
/-! a number of a stand is changed -/
def cellR (row : List Int) : Cell := .lst (row.map .int)
def putL (st : List (List Int)) (a k : Nat) (m : Int) : List (List Int) := st.set a ((st.getD a []).set k ((st.getD a []).getD k 0 + m))
theorem q_lstI (row : List Int) (h : MH) : bi .list [tI row] h = some (.nl (row.map .int)) := rfl
theorem range_pick {α β : Type} (f : α → β) (l : List α) : ∀ n, n ≤ l.length → (List.range n).filterMap (fun j => (l[j]?).map f) = (l.take n).map f
  | 0, _ => rfl
  | n + 1, h => by
    rw [List.range_succ, List.filterMap_append, range_pick f l n (by omega), List.take_succ, List.map_append, List.filterMap_cons, List.filterMap_nil, List.getElem?_eq_getElem (show n < l.length by omega)]
    rfl
theorem putL_len (st : List (List Int)) (a k : Nat) (m : Int) : (putL st a k m).length = st.length := by unfold putL; rw [List.length_set]
theorem put_ok (h19 : P 19 = some d19) {st : List (List Int)} {a k : Nat} {m : Int} {h : MH} (sl : st.length ≤ 100) (rl : ∀ row ∈ st, row.length ≤ 100) (ha : a < st.length) (hk : k < (st.getD a []).length) {Q : Val → MH → Prop}
    (q : Q (stV (putL st a k m)) h) : Rn (callM P fuel (d + 1) base 19 [stV st, .int a, .int k, .int m] h) Q := by
  refine Rn_callF h19 rfl rfl fun C cc cb cf => ?_
  have SZe : SZ = 16777216 := rfl
  simp only [d19]
  decreasing_trivial
  simp only [stV, qs, Rn_some]
  refine Rn_comp (st.map tI) 0 [] _ (fun i acc h' => h' = h ++ (st.take i).map cellR ∧ acc = (List.range i).map fun j => Val.ref (h.length + j)) _ ⟨by simp, rfl⟩ ?_ ?_
  · rintro j x acc h' e ⟨rfl, rfl⟩
    rw [List.getElem?_map] at e
    obtain ⟨row, e1, rfl⟩ := Option.map_eq_some_iff.mp e
    have hj := (List.getElem?_eq_some_iff.mp e1).1
    decreasing_trivial
    simp only [q_lstI, Rn_some, wps, Rn_ok, Nat.zero_add]
    have := rl row (List.mem_of_getElem? e1)
    refine ⟨by rw [List.length_map]; omega, ?_, ?_⟩
    · rw [List.take_succ, e1]
      simp [cellR]
    · rw [List.range_succ, List.map_append]
      simp only [Option.toList, List.map_cons, List.map_nil, List.length_append, List.length_map, List.length_take]
      rw [Nat.min_eq_left (by omega)]
  · rintro acc1 h' ⟨rfl, hacc⟩
    rw [List.nil_append, Nat.zero_add, List.length_map] at hacc
    subst hacc
    have hll : (st.map tI).length = st.length := List.length_map ..
    rw [Nat.zero_add, hll, List.take_length]
    obtain ⟨row, er⟩ : ∃ row, st[a]? = some row := ⟨_, List.getElem?_eq_getElem ha⟩
    have eg : st.getD a [] = row := by rw [List.getD_eq_getElem?_getD, er]; rfl
    rw [eg] at hk
    have hix : ixv ((List.range st.length).map fun j => Val.ref (h.length + j)) (a : Int) = some (.ref (h.length + a)) := by
      rw [ixv_ok (by omega) (by rw [List.length_map, List.length_range]; omega), Int.toNat_natCast, List.getElem?_map, List.getElem?_range ha]
      rfl
    have hcell : (h ++ st.map cellR)[h.length + a]? = some (cellR row) := by
      rw [List.getElem?_append_right (by omega), Nat.add_sub_cancel_left, List.getElem?_map, er]
      rfl
    have hlits : lits (.ref (h.length + a)) (h ++ st.map cellR) = some (row.map .int) := by
      simp only [lits, hcell, cellR]
    have hsits : sits (.ref (h.length + a)) (h ++ st.map cellR) = some (row.map .int) := hlits
    have hv : ixv (row.map Val.int) (k : Int) = some (.int (row.getD k 0)) := by
      rw [ixv_ok (by omega) (by rw [List.length_map]; omega), Int.toNat_natCast, List.getElem?_map, List.getD_eq_getElem?_getD, List.getElem?_eq_getElem hk]
      rfl
    have hset : (h ++ st.map cellR).set (h.length + a) (.lst ((row.map Val.int).set k (.int (row.getD k 0 + m)))) = h ++ (putL st a k m).map cellR := by
      rw [List.set_append_right _ _ (by omega), Nat.add_sub_cancel_left]
      congr 1
      unfold putL
      rw [eg, List.map_set]
      simp only [cellR, List.map_set]
    decreasing_trivial
    simp only [hix, Rn_some, hsits, hv, qs, wps, hlits, ixm_ok (show (0 : Int) ≤ (k : Int) by omega) (show ((k : Nat) : Int) < ((row.map Val.int).length : Nat) by rw [List.length_map]; omega), Int.toNat_natCast, hset]
    decreasing_trivial
    refine ⟨by rw [List.length_map, List.length_range]; omega, .inl (by omega), ?_⟩
    refine Rn_compP (fun x => (sits x (h ++ (putL st a k m).map cellR)).map .tup) ?_ ?_
    · intro x hx
      obtain ⟨j, hj, rfl⟩ := List.mem_map.mp hx
      have hj := List.mem_range.mp hj
      have hc : (h ++ (putL st a k m).map cellR)[h.length + j]? = some (cellR ((putL st a k m)[j]'(by rw [putL_len]; exact hj))) := by
        rw [List.getElem?_append_right (by omega), Nat.add_sub_cancel_left, List.getElem?_map, List.getElem?_eq_getElem (by rw [putL_len]; exact hj)]
        rfl
      decreasing_trivial
      simp only [q_tupR _ _ _ hc, Rn_some, wps, Rn_ok, sits, lits, hc, cellR, Option.map_some, and_self]
    · have e : ((List.range st.length).map fun j => Val.ref (h.length + j)).filterMap (fun x => (sits x (h ++ (putL st a k m).map cellR)).map Val.tup) = (putL st a k m).map tI := by
        rw [List.filterMap_map, ← putL_len st a k m]
        have e2 : ((fun x => (sits x (h ++ (putL st a k m).map cellR)).map Val.tup) ∘ fun j => Val.ref (h.length + j)) = fun j => ((putL st a k m)[j]?).map tI := by
          funext j
          show (sits (.ref (h.length + j)) (h ++ (putL st a k m).map cellR)).map Val.tup = _
          have : (h ++ (putL st a k m).map cellR)[h.length + j]? = ((putL st a k m)[j]?).map cellR := by
            rw [List.getElem?_append_right (by omega), Nat.add_sub_cancel_left, List.getElem?_map]
          simp only [sits, lits, this]
          cases (putL st a k m)[j]? <;> rfl
        rw [e2, range_pick tI _ _ (Nat.le_refl _), List.take_length]
      rw [e]
      have ht : List.take (List.length h) (h ++ (putL st a k m).map cellR) = h := by simp
      rw [ht]
      refine ⟨by rw [List.length_map, putL_len]; omega, ?_, q⟩
      exact stV_dle 58 (putL st a k m)
end MP

set_option maxHeartbeats 4000000
/-! MiniU: moving numbers about a stand: sums of rows, of kinds; the law's wishes. -/
namespace MP
open PySem
def rowAt (st : List (List Int)) (a : Nat) : List Int := st.getD a []
def at2 (st : List (List Int)) (a k : Nat) : Int := (rowAt st a).getD k 0
def col (st : List (List Int)) (j : Nat) : Int := (st.map fun row => row.getD j 0).sum
theorem sum_set : ∀ (l : List Int) (k : Nat) (x : Int), k < l.length → (l.set k x).sum = l.sum - l.getD k 0 + x
  | [], k, x, h => by simp at h
  | a :: l, 0, x, h => by simp; omega
  | a :: l, k + 1, x, h => by
    have := sum_set l k x (by simpa using h)
    simp only [List.set_cons_succ, List.sum_cons, this, List.getD_cons_succ]
    omega
theorem getD_set {α : Type} (l : List α) (k j : Nat) (x d : α) (h : k < l.length) : (l.set k x).getD j d = if j = k then x else l.getD j d := by
  rw [List.getD_eq_getElem?_getD, List.getD_eq_getElem?_getD, List.getElem?_set]
  by_cases e : j = k
  · subst e; simp [h]
  · rw [if_neg (fun z => e z.symm), if_neg e]
theorem rowAt_put (st : List (List Int)) (a k b : Nat) (m : Int) (h : a < st.length) : rowAt (putL st a k m) b = if b = a then (rowAt st a).set k (at2 st a k + m) else rowAt st b := by
  unfold rowAt putL
  rw [getD_set _ _ _ _ _ h]
  rfl
theorem at2_put (st : List (List Int)) (a k b j : Nat) (m : Int) (h : a < st.length) (hk : k < (rowAt st a).length) : at2 (putL st a k m) b j = if b = a ∧ j = k then at2 st a k + m else at2 st b j := by
  unfold at2
  rw [rowAt_put _ _ _ _ _ h]
  by_cases e : b = a
  · subst e
    rw [if_pos rfl, getD_set _ _ _ _ _ hk]
    by_cases e2 : j = k
    · rw [if_pos e2, if_pos ⟨rfl, e2⟩]; rfl
    · rw [if_neg e2, if_neg fun z => e2 z.2]
  · rw [if_neg e, if_neg fun z => e z.1]
theorem len_put (st : List (List Int)) (a k b : Nat) (m : Int) (h : a < st.length) : (rowAt (putL st a k m) b).length = (rowAt st b).length := by
  rw [rowAt_put _ _ _ _ _ h]
  by_cases e : b = a
  · subst e; rw [if_pos rfl, List.length_set]
  · rw [if_neg e]
theorem sum_put (st : List (List Int)) (a k b : Nat) (m : Int) (h : a < st.length) (hk : k < (rowAt st a).length) : (rowAt (putL st a k m) b).sum = (rowAt st b).sum + if b = a then m else 0 := by
  rw [rowAt_put _ _ _ _ _ h]
  by_cases e : b = a
  · subst e
    rw [if_pos rfl, if_pos rfl, sum_set _ _ _ hk]
    unfold at2
    omega
  · rw [if_neg e, if_neg e, Int.add_zero]
theorem col_put (st : List (List Int)) (a k j : Nat) (m : Int) (h : a < st.length) (hk : k < (rowAt st a).length) : col (putL st a k m) j = col st j + if j = k then m else 0 := by
  unfold col
  have e : (putL st a k m).map (fun row => row.getD j 0) = (st.map fun row => row.getD j 0).set a (((rowAt st a).set k (at2 st a k + m)).getD j 0) := by
    unfold putL
    rw [List.map_set]
    rfl
  rw [e, sum_set _ _ _ (by rw [List.length_map]; exact h), getD_set _ _ _ _ _ hk]
  have e3 : (st.map fun row => row.getD j 0).getD a 0 = (rowAt st a).getD j 0 := by
    simp [rowAt, List.getD_eq_getElem?_getD, h]
  rw [e3]
  by_cases e2 : j = k
  · subst e2
    rw [if_pos rfl, if_pos rfl]
    unfold at2
    omega
  · rw [if_neg e2, if_neg e2]; omega
/-- a stand, by its numbers -/
structure St (sizes : List Int) (k : Nat) (st : List (List Int)) : Prop where
  len : st.length = sizes.length
  rl : ∀ a, a < st.length → (rowAt st a).length = k
  nn : ∀ a j, 0 ≤ at2 st a j
  le : ∀ a, a < st.length → (rowAt st a).sum ≤ sizes.getD a 0
theorem StOk.st {sizes : List Int} {k : Nat} {st : List (List Int)} (h : StOk sizes k st) : St sizes k st := by
  have key : ∀ a, a < st.length → RowOk k (sizes.getD a 0) (rowAt st a) := fun a ha => by
    have h1 : st[a]? = some (rowAt st a) := by
      unfold rowAt
      rw [List.getD_eq_getElem?_getD, List.getElem?_eq_getElem ha]
      rfl
    have ha2 : a < sizes.length := by rw [← h.len]; exact ha
    exact h.row a _ _ h1 (by rw [List.getD_eq_getElem?_getD, List.getElem?_eq_getElem ha2]; rfl)
  refine ⟨h.len, fun a ha => (key a ha).len, fun a j => ?_, fun a ha => (key a ha).le⟩
  unfold at2
  by_cases ha : a < st.length
  · rw [List.getD_eq_getElem?_getD]
    cases e : (rowAt st a)[j]? with
    | none => exact Int.le_refl _
    | some x => exact (key a ha).nn x (List.mem_of_getElem? e)
  · have : rowAt st a = [] := by unfold rowAt; rw [List.getD_eq_getElem?_getD, List.getElem?_eq_none (by omega)]; rfl
    rw [this]; exact Int.le_refl _
/-- m things of a kind go from a to b -/
theorem St.move {sizes : List Int} {k : Nat} {st : List (List Int)} (h : St sizes k st) {a b j : Nat} {m : Int} (ha : a < st.length) (hb : b < st.length) (hab : a ≠ b) (hj : j < k) (m0 : 0 ≤ m) (m1 : m ≤ at2 st a j) (m2 : m ≤ sizes.getD b 0 - (rowAt st b).sum) :
    St sizes k (putL (putL st a j (0 - m)) b j m) ∧ ∀ i, col (putL (putL st a j (0 - m)) b j m) i = col st i := by
  have l1 : j < (rowAt st a).length := by rw [h.rl a ha]; exact hj
  have l2 : b < (putL st a j (0 - m)).length := by rw [putL_len]; exact hb
  have l3 : j < (rowAt (putL st a j (0 - m)) b).length := by rw [len_put _ _ _ _ _ ha, h.rl b hb]; exact hj
  refine ⟨⟨by rw [putL_len, putL_len]; exact h.len, fun c hc => ?_, fun c i => ?_, fun c hc => ?_⟩, fun i => ?_⟩
  · rw [putL_len, putL_len] at hc
    rw [len_put _ _ _ _ _ l2, len_put _ _ _ _ _ ha]; exact h.rl c hc
  · rw [at2_put _ _ _ _ _ _ l2 l3, at2_put _ _ _ _ _ _ ha l1, at2_put _ _ _ _ _ _ ha l1]
    have n1 := h.nn c i
    have n2 := h.nn b j
    split
    · split <;> omega
    · split <;> omega
  · rw [putL_len, putL_len] at hc
    rw [sum_put _ _ _ _ _ l2 l3, sum_put _ _ _ _ _ ha l1]
    have n1 := h.le c hc
    by_cases e1 : c = b
    · subst e1
      rw [if_pos rfl, if_neg (fun z => hab z.symm)]; omega
    · rw [if_neg e1]
      split <;> omega
  · rw [col_put _ _ _ _ _ l2 l3, col_put _ _ _ _ _ ha l1]
    split <;> omega
/-- m things of a kind go from a to b, m of another kind back -/
theorem St.swap {sizes : List Int} {k : Nat} {st : List (List Int)} (h : St sizes k st) {a b j i : Nat} {m : Int} (ha : a < st.length) (hb : b < st.length) (hab : a ≠ b) (hj : j < k) (hi : i < k) (hij : j ≠ i) (m0 : 0 ≤ m) (m1 : m ≤ at2 st a j) (m2 : m ≤ at2 st b i) :
    St sizes k (putL (putL (putL (putL st a j (0 - m)) b j m) b i (0 - m)) a i m) ∧ ∀ x, col (putL (putL (putL (putL st a j (0 - m)) b j m) b i (0 - m)) a i m) x = col st x := by
  have l1 : j < (rowAt st a).length := by rw [h.rl a ha]; exact hj
  have l2 : b < (putL st a j (0 - m)).length := by rw [putL_len]; exact hb
  have l3 : j < (rowAt (putL st a j (0 - m)) b).length := by rw [len_put _ _ _ _ _ ha, h.rl b hb]; exact hj
  have l4 : b < (putL (putL st a j (0 - m)) b j m).length := by rw [putL_len, putL_len]; exact hb
  have l5 : i < (rowAt (putL (putL st a j (0 - m)) b j m) b).length := by rw [len_put _ _ _ _ _ l2, len_put _ _ _ _ _ ha, h.rl b hb]; exact hi
  have l6 : a < (putL (putL (putL st a j (0 - m)) b j m) b i (0 - m)).length := by rw [putL_len, putL_len, putL_len]; exact ha
  have l7 : i < (rowAt (putL (putL (putL st a j (0 - m)) b j m) b i (0 - m)) a).length := by rw [len_put _ _ _ _ _ l4, len_put _ _ _ _ _ l2, len_put _ _ _ _ _ ha, h.rl a ha]; exact hi
  refine ⟨⟨by rw [putL_len, putL_len, putL_len, putL_len]; exact h.len, fun c hc => ?_, fun c x => ?_, fun c hc => ?_⟩, fun x => ?_⟩
  · rw [putL_len, putL_len, putL_len, putL_len] at hc
    rw [len_put _ _ _ _ _ l6, len_put _ _ _ _ _ l4, len_put _ _ _ _ _ l2, len_put _ _ _ _ _ ha]; exact h.rl c hc
  · rw [at2_put _ _ _ _ _ _ l6 l7, at2_put _ _ _ _ _ _ l4 l5, at2_put _ _ _ _ _ _ l4 l5, at2_put _ _ _ _ _ _ l2 l3, at2_put _ _ _ _ _ _ l2 l3, at2_put _ _ _ _ _ _ l2 l3, at2_put _ _ _ _ _ _ ha l1, at2_put _ _ _ _ _ _ ha l1, at2_put _ _ _ _ _ _ ha l1, at2_put _ _ _ _ _ _ ha l1]
    have n1 := h.nn c x
    have n2 := h.nn b j
    have n3 := h.nn a i
    have n4 := h.nn b i
    have n5 := h.nn a j
    repeat' split
    all_goals (first | omega | (simp_all; omega) | simp_all)
  · rw [putL_len, putL_len, putL_len, putL_len] at hc
    rw [sum_put _ _ _ _ _ l6 l7, sum_put _ _ _ _ _ l4 l5, sum_put _ _ _ _ _ l2 l3, sum_put _ _ _ _ _ ha l1]
    have n1 := h.le c hc
    repeat' split
    all_goals omega
  · rw [col_put _ _ _ _ _ l6 l7, col_put _ _ _ _ _ l4 l5, col_put _ _ _ _ _ l2 l3, col_put _ _ _ _ _ ha l1]
    repeat' split
    all_goals omega
/-! the law's own words over stands -/
local macro_rules
  | `(tactic| decreasing_trivial) => `(tactic| try simp only [Rn_bind, Rn_ok, Rn_some, Rn_og, Rn_obind, wps, qs, List.getElem?_cons_zero, List.getElem?_cons_succ, Option.some.injEq, exists_eq_left', List.set_cons_zero, List.set_cons_succ, List.map_cons, List.map_nil, List.replicate, List.cons_append, List.nil_append, wipeE, List.foldr, retV, if_true, Bool.not_true, Bool.not_false, Bool.false_eq_true, if_false, decide_eq_true_eq])
variable {P : Nat → Option MDef} {fuel d base : Nat} {bs cs : List Int} {t n : Int} {r : MH}
theorem ix_row {st : List (List Int)} {a : Nat} (h : a < st.length) : ixv (st.map tI) (a : Int) = some (tI (rowAt st a)) := by
  rw [ixv_ok (by omega) (by rw [List.length_map]; omega), Int.toNat_natCast, List.getElem?_map]
  simp [rowAt, List.getD_eq_getElem?_getD, h]
theorem ix_num {row : List Int} {a : Nat} (h : a < row.length) : ixv (row.map Val.int) (a : Int) = some (.int (row.getD a 0)) := by
  rw [ixv_ok (by omega) (by rw [List.length_map]; omega), Int.toNat_natCast, List.getElem?_map]
  simp [List.getD_eq_getElem?_getD, h]
theorem intsOf_map (ns : List Int) : intsOf (ns.map .int) = some ns := by
  induction ns with
  | nil => rfl
  | cons n ns ih => rw [List.map_cons, intsOf, ih]; rfl
def freeL (sizes : List Int) (st : List (List Int)) : List Int := (List.range st.length).map fun j => sizes.getD j 0 - (rowAt st j).sum
theorem free_ok (h29 : P 29 = some d29) {sizes : List Int} {kinds : Int} {st : List (List Int)} {h : MH} (sl : st.length ≤ 100) (se : st.length = sizes.length) {Q : Val → MH → Prop} (q : Q (.lst ((freeL sizes st).map .int)) h) :
    Rn (callM P fuel (d + 1) base 29 [hoV sizes kinds, stV st] h) Q := by
  refine Rn_callF h29 rfl rfl fun C cc cb cf => ?_
  have SZe : SZ = 16777216 := rfl
  simp only [d29]
  decreasing_trivial
  simp only [stV, hoV, qs, Rn_some, List.length_map, wps]
  rw [if_pos (by omega)]
  refine Rn_compP (fun x => match x with | .int i => some (.int (sizes.getD i.toNat 0 - (rowAt st i.toNat).sum)) | _ => none) ?_ ?_
  · intro x hx
    obtain ⟨j, e⟩ := List.getElem?_of_mem hx
    obtain ⟨rfl, hj⟩ := rangeV_get e
    have h1 : j < st.length := by omega
    have h2 : j < sizes.length := by omega
    decreasing_trivial
    simp only [tI, qs, Rn_some, ix_num h2, ix_row h1, Rn_omap, intsOf_map, Option.map_some, wps, Int.toNat_natCast, Rn_ok, and_self]
  · have e : (rangeV 0 (st.length : Int)).filterMap (fun x => match x with | .int i => some (Val.int (sizes.getD i.toNat 0 - (rowAt st i.toNat).sum)) | _ => none) = (freeL sizes st).map .int := by
      unfold rangeV freeL
      rw [List.filterMap_map, List.map_map]
      have : ((st.length : Int) - 0).toNat = st.length := by omega
      rw [this]
      rw [← List.filterMap_eq_map]
      apply congrArg (fun f => List.filterMap f (List.range st.length))
      funext j
      simp
    rw [e]
    have hd : below (List.length h) (.lst ((freeL sizes st).map .int)) = true := by
      show ((freeL sizes st).map Val.int).all (dle 59) = true
      rw [List.all_map, List.all_eq_true]
      intro x _
      rfl
    decreasing_trivial
    have hfl : (freeL sizes st).length = st.length := by simp [freeL]
    simp only [hd, List.take_length, List.length_map, hfl, true_and]
    exact ⟨by omega, q⟩
theorem ix_free {sizes : List Int} {st : List (List Int)} {a : Nat} (h : a < st.length) : ixv ((freeL sizes st).map Val.int) (a : Int) = some (.int (sizes.getD a 0 - (rowAt st a).sum)) := by
  rw [ix_num (by simpa [freeL] using h)]
  simp [freeL, List.getD_eq_getElem?_getD, h]
theorem le_sum : ∀ {l : List Int} (j : Nat), (∀ x ∈ l, 0 ≤ x) → l.getD j 0 ≤ l.sum
  | [], j, _ => by simp
  | a :: l, 0, h => by
    have := sum_nn (l := l) fun y hy => h y (List.mem_cons_of_mem _ hy)
    simp only [List.getD_cons_zero, List.sum_cons]; omega
  | a :: l, j + 1, h => by
    have := le_sum (l := l) j fun y hy => h y (List.mem_cons_of_mem _ hy)
    have := h a List.mem_cons_self
    simp only [List.getD_cons_succ, List.sum_cons]; omega
theorem St.big {sizes : List Int} {k : Nat} {st : List (List Int)} (h : St sizes k st) (s0 : ∀ s ∈ sizes, SizeOk s) (a j : Nat) (ha : a < st.length) : at2 st a j ≤ 10 ^ 12 := by
  have h1 : at2 st a j ≤ (rowAt st a).sum := le_sum j fun x hx => by
    obtain ⟨i, e⟩ := List.getElem?_of_mem hx
    have := h.nn a i
    unfold at2 at this
    rw [List.getD_eq_getElem?_getD, e] at this
    exact this
  have h2 := h.le a ha
  have ha2 : a < sizes.length := by rw [← h.len]; exact ha
  have h3 := s0 (sizes.getD a 0) (by rw [List.getD_eq_getElem?_getD, List.getElem?_eq_getElem ha2]; exact List.getElem_mem ha2)
  have := h3.2
  omega
theorem rows_le {sizes : List Int} {k : Nat} {st : List (List Int)} (h : St sizes k st) (hk : k ≤ 100) : ∀ row ∈ st, row.length ≤ 100 := fun row hr => by
  obtain ⟨i, e⟩ := List.getElem?_of_mem hr
  have hi := (List.getElem?_eq_some_iff.mp e).1
  have := h.rl i hi
  unfold rowAt at this
  rw [List.getD_eq_getElem?_getD, e] at this
  simp only [Option.getD_some] at this
  omega
/-- a table of L rows of k numbers -/
structure Sq (L k : Nat) (st : List (List Int)) : Prop where
  len : st.length = L
  rl : ∀ row ∈ st, row.length = k
theorem Sq.at_ {L k : Nat} {st : List (List Int)} (h : Sq L k st) {a : Nat} (ha : a < L) : (st.getD a []).length = k := by
  have ha : a < st.length := by rw [h.len]; exact ha
  rw [List.getD_eq_getElem?_getD, List.getElem?_eq_getElem ha]
  exact h.rl _ (List.getElem_mem ha)
theorem Sq.put {L k : Nat} {st : List (List Int)} (h : Sq L k st) {a : Nat} (c : Nat) (m : Int) (ha : a < L) : Sq L k (putL st a c m) := by
  refine ⟨by rw [putL_len]; exact h.len, fun row hr => ?_⟩
  unfold putL at hr
  rcases List.mem_or_eq_of_mem_set hr with hr | rfl
  · exact h.rl row hr
  · rw [List.length_set]; exact h.at_ ha
theorem St.sq {sizes : List Int} {k : Nat} {st : List (List Int)} (h : St sizes k st) : Sq sizes.length k st := ⟨h.len, fun row hr => by
  obtain ⟨i, e⟩ := List.getElem?_of_mem hr
  have hi := (List.getElem?_eq_some_iff.mp e).1
  have := h.rl i hi
  unfold rowAt at this
  rw [List.getD_eq_getElem?_getD, e] at this
  exact this⟩
theorem put_sq (h19 : P 19 = some d19) {L K : Nat} {st : List (List Int)} (S : Sq L K st) (hL : L ≤ 100) (hK : K ≤ 100) {a k : Nat} {m : Int} {h : MH} (ha : a < L) (hk : k < K) {Q : Val → MH → Prop}
    (q : Sq L K (putL st a k m) → Q (stV (putL st a k m)) h) : Rn (callM P fuel (d + 1) base 19 [stV st, .int a, .int k, .int m] h) Q :=
  put_ok h19 (by rw [S.len]; exact hL) (fun row hr => by rw [S.rl row hr]; exact hK) (by rw [S.len]; exact ha) (by rw [S.at_ ha]; exact hk) (q (S.put k m ha))
/-- what a wish is of a stand -/
structure Wi (sizes : List Int) (k : Nat) (st0 st : List (List Int)) : Prop where
  ok : St sizes k st
  same : ∀ i, col st i = col st0 i
theorem wish_ok (h5 : P 5 = some d5) (h16 : P 16 = some d16) (h19 : P 19 = some d19) (h29 : P 29 = some d29) (h30 : P 30 = some d30) {sizes : List Int} {kinds : Int} {st0 : List (List Int)} (D : DkOk bs cs t n) (hn : n + 200 ≤ 2 ^ 50) (hf : 70 ≤ fuel)
    (s0 : ∀ s ∈ sizes, SizeOk s) (sl : sizes.length ≤ 16) (sp : 0 < sizes.length) (k0 : 1 ≤ kinds) (k1 : kinds ≤ 7) (S0 : St sizes kinds.toNat st0) {Q : Val → MH → Prop}
    (k : ∀ bs' t' st, DkOk bs' cs t' (n + 100) → Wi sizes kinds.toNat st0 st → Q (stV st) (Dk bs' cs t' ++ r)) : Rn (callM P fuel (d + 3) base 30 [.ref 1, hoV sizes kinds, stV st0] (Dk bs cs t ++ r)) Q := by
  refine Rn_callF h30 rfl rfl fun C cc cb cf => ?_
  rw [hlD] at cc cb
  have SZe : SZ = 16777216 := rfl
  simp only [d30, hlD]
  decreasing_trivial
  simp only [cc]
  refine next_ok h5 D (by omega) (by omega) (by omega) hf fun bs1 t1 x1 D1 a1 b1 => ?_
  decreasing_trivial
  rw [if_pos (by omega)]
  refine Rn_for (fun i g h => ∃ (bs : List Int) (t : Int) (st : List (List Int)) (u3 u4 u5 u6 u7 u8 : Option Val), DkOk bs cs t (n + 1 + 8 * i) ∧ h = Dk bs cs t ++ r ∧ g = [some (.ref 1), some (hoV sizes kinds), some (stV st), u3, u4, u5, u6, u7, u8] ∧ Wi sizes kinds.toNat st0 st) _ 0 _ _
    ⟨bs1, t1, st0, none, none, none, none, none, none, by simpa using D1, rfl, rfl, S0, fun _ => rfl⟩ ?_ ?_
  · rintro j x g h e ⟨bs2, t2, st, u3, u4, u5, u6, u7, u8, D2, rfl, rfl, W⟩
    have hj := (rangeV_get e).2
    have hl := W.ok.len
    decreasing_trivial
    simp only [stV, qs, Rn_some, wps, cc]
    simp only [List.length_map]
    refine next_ok h5 D2 (by omega) (by omega) (by omega) hf fun bs3 t3 xa D3 a3 b3 => ?_
    decreasing_trivial
    refine next_ok h5 D3 (by omega) (by omega) (by omega) hf fun bs4 t4 xb D4 a4 b4 => ?_
    simp only [List.length_cons, List.length_nil, if_true, List.zip_cons_cons, List.zip_nil_right, List.foldl_cons, List.foldl_nil]
    decreasing_trivial
    simp only [hoV, qs, Rn_some, cc]
    refine next_ok h5 D4 (by omega) (by omega) (by omega) hf fun bs5 t5 xk D5 a5 b5 => ?_
    refine next_ok h5 D5 (by omega) (by omega) (by omega) hf fun bs6 t6 xf D6 a6 b6 => ?_
    obtain ⟨a, rfl⟩ : ∃ a : Nat, xa = a := ⟨xa.toNat, by omega⟩
    obtain ⟨b, rfl⟩ : ∃ b : Nat, xb = b := ⟨xb.toNat, by omega⟩
    obtain ⟨c, rfl⟩ : ∃ c : Nat, xk = c := ⟨xk.toNat, by omega⟩
    obtain ⟨f, rfl⟩ : ∃ f : Nat, xf = f := ⟨xf.toNat, by omega⟩
    have ha : a < st.length := by omega
    have hb : b < st.length := by omega
    have hc : c < kinds.toNat := by omega
    have hff : f < kinds.toNat := by omega
    have K : St sizes kinds.toNat st := W.ok
    have sl2 : st.length ≤ 100 := by omega
    have kl : kinds.toNat ≤ 100 := by omega
    have ca : c < (rowAt st a).length := by rw [K.rl a ha]; exact hc
    have fb : f < (rowAt st b).length := by rw [K.rl b hb]; exact hff
    have hea : (rowAt st a).getD c 0 = at2 st a c := rfl
    have heb : (rowAt st b).getD f 0 = at2 st b f := rfl
    by_cases hab : (a : Int) = (b : Int)
    · simp only [hab, decide_true, Bool.not_true, Bool.false_eq_true, if_false]
      refine ⟨bs6, t6, st, _, _, _, _, _, _, D6.up (by omega), rfl, rfl, W⟩
    · have hab2 : a ≠ b := fun z => hab (by rw [z])
      simp only [hab, decide_false, Bool.not_false, if_true]
      refine next_ok h5 D6 (by omega) (by omega) (by omega) hf fun bs7 t7 x7 D7 a7 b7 => ?_
      decreasing_trivial
      split
      · -- things go
        have nn1 : 0 ≤ at2 st a c := K.nn a c
        have nn2 : 0 ≤ sizes.getD b 0 - (rowAt st b).sum := by have := K.le b hb; omega
        have bg := K.big s0 a c ha
        simp only [ix_row ha, ix_row hb, tI, qs, Rn_some, ix_num ca, hea]
        refine free_ok h29 sl2 hl ?_
        simp only [ix_free hb, qs, Rn_some, wps]
        refine amount_ok h5 h16 D7 (by omega) hf (by split <;> omega) (by split <;> omega) fun bs8 t8 m D8 a8 b8 => ?_
        have m1 : m ≤ at2 st a c := by revert b8; split <;> omega
        have m2 : m ≤ sizes.getD b 0 - (rowAt st b).sum := by revert b8; split <;> omega
        have M := K.move (a := a) (b := b) (j := c) ha hb hab2 hc a8 m1 m2
        simp only [qs, Rn_some, wps]
        refine put_ok h19 sl2 (rows_le K kl) ha ca ?_
        refine put_ok h19 (by rw [putL_len]; exact sl2) ?_ (by rw [putL_len]; exact hb) (by
          have := len_put st a c b (0 - m) ha
          unfold rowAt at this
          rw [this]
          have := K.rl b hb
          unfold rowAt at this
          omega) ?_
        · intro row hr
          obtain ⟨i, e⟩ := List.getElem?_of_mem hr
          have hi := (List.getElem?_eq_some_iff.mp e).1
          rw [putL_len] at hi
          have l1 := len_put st a c i (0 - m) ha
          rw [K.rl i hi] at l1
          unfold rowAt at l1
          rw [List.getD_eq_getElem?_getD, e] at l1
          simp only [Option.getD_some] at l1
          omega
        · exact ⟨bs8, t8, _, _, _, _, _, _, _, D8.up (by omega), rfl, rfl, ⟨M.1, fun i => (M.2 i).trans (W.same i)⟩⟩
      · split
        · rename_i hcf
          have hcf2 : c ≠ f := fun z => by subst z; simp at hcf
          have bg := K.big s0 a c ha
          have nn1 : 0 ≤ at2 st a c := K.nn a c
          have nn2 : 0 ≤ at2 st b f := K.nn b f
          simp only [ix_row ha, ix_row hb, tI, qs, Rn_some, ix_num ca, ix_num fb, hea, heb, wps]
          refine amount_ok h5 h16 D7 (by omega) hf (by split <;> omega) (by split <;> omega) fun bs8 t8 m D8 a8 b8 => ?_
          have m1 : m ≤ at2 st a c := by revert b8; split <;> omega
          have m2 : m ≤ at2 st b f := by revert b8; split <;> omega
          have M := K.swap (a := a) (b := b) (j := c) (i := f) ha hb hab2 hc hff hcf2 a8 m1 m2
          simp only [qs, Rn_some, wps]
          have hs16 : sizes.length ≤ 100 := by omega
          refine put_sq h19 K.sq hs16 kl (by omega) hc fun S1 => ?_
          refine put_sq h19 S1 hs16 kl (by omega) hc fun S2 => ?_
          refine put_sq h19 S2 hs16 kl (by omega) hff fun S3 => ?_
          refine put_sq h19 S3 hs16 kl (by omega) hff fun S4 => ?_
          exact ⟨bs8, t8, _, _, _, _, _, _, _, D8.up (by omega), rfl, rfl, ⟨M.1, fun i => (M.2 i).trans (W.same i)⟩⟩
        · exact ⟨bs7, t7, st, _, _, _, _, _, _, D7.up (by omega), rfl, rfl, W⟩
  · rintro g h ⟨bs2, t2, st, u3, u4, u5, u6, u7, u8, D2, rfl, rfl, W⟩
    rw [rangeV_len] at D2
    decreasing_trivial
    simp only [tkD]
    exact ⟨stV_dle 58 st, k bs2 t2 st (D2.up (by omega)) W⟩
/-- the defs of the law's cases -/
structure HC (P : Nat → Option MDef) : Prop where
  h4 : P 4 = some d4
  h5 : P 5 = some d5
  h6 : P 6 = some d6
  h8 : P 8 = some d8
  h16 : P 16 = some d16
  h17 : P 17 = some d17
  h18 : P 18 = some d18
  h19 : P 19 = some d19
  h29 : P 29 = some d29
  h30 : P 30 = some d30
  h31 : P 31 = some d31
/-- a house, a stand of it and a wish -/
structure Cas (sizes : List Int) (kinds : Int) (st wi : List (List Int)) : Prop where
  s0 : ∀ s ∈ sizes, SizeOk s
  s1 : 1 ≤ sizes.length
  s2 : sizes.length ≤ 8
  k1 : 1 ≤ kinds
  k2 : kinds ≤ 6
  sto : St sizes kinds.toNat st
  wis : Wi sizes kinds.toNat st wi
theorem case_ok (H : HC P) (D : DkOk bs cs t n) (hn : n + 1000 ≤ 2 ^ 50) (hf : 70 ≤ fuel) {Q : Val → MH → Prop}
    (k : ∀ bs' t' sizes kinds st wi, DkOk bs' cs t' (n + 800) → Cas sizes kinds st wi → Q (.tup [hoV sizes kinds, stV st, stV wi]) (Dk bs' cs t' ++ r)) : Rn (callM P fuel (d + 5) base 31 [.ref 1] (Dk bs cs t ++ r)) Q := by
  refine Rn_callF H.h31 rfl rfl fun C cc cb cf => ?_
  rw [hlD] at cc cb
  simp only [d31, hlD]
  decreasing_trivial
  simp only [cc]
  refine next_ok H.h5 D (by omega) (by omega) (by omega) hf fun bs1 t1 x1 D1 a1 b1 => ?_
  decreasing_trivial
  refine next_ok H.h5 D1 (by omega) (by omega) (by omega) hf fun bs2 t2 x2 D2 a2 b2 => ?_
  decreasing_trivial
  refine house_ok (d := d + 1) H.h5 H.h6 H.h8 D2 (by omega) hf (by omega) (by omega) fun bs3 t3 sizes D3 sl so => ?_
  refine stand_ok H.h5 H.h6 H.h16 H.h17 H.h18 D3 (by omega) hf so (by omega) (by omega) (by omega) fun bs4 t4 st D4 S => ?_
  refine wish_ok (d := d + 1) H.h5 H.h16 H.h19 H.h29 H.h30 D4 (by omega) hf so (by omega) (by omega) (by omega) (by omega) S.st fun bs5 t5 wi D5 W => ?_
  simp only [tkD]
  refine ⟨?_, k bs5 t5 sizes (1 + x2) st wi (D5.up (by omega)) ⟨so, by omega, by omega, by omega, by omega, S.st, W⟩⟩
  show [hoV sizes (1 + x2), stV st, stV wi].all (dle 59) = true
  have e1 : dle 59 (hoV sizes (1 + x2)) = true := by
    show [tI sizes, Val.int (1 + x2)].all (dle 58) = true
    simp [tI_dle 57, dle]
  simp [e1, stV_dle 57]
end MP

set_option maxHeartbeats 4000000
/-! MiniV: the deck at its place without its parts; pure data, bounded. -/
namespace MP
open PySem
/-- the deck at its place, r stands behind it -/
def DH (r : MH) (n : Int) (h : MH) : Prop := ∃ bs cs t, DkOk bs cs t n ∧ h = Dk bs cs t ++ r
section
variable {r s : MH} {n m : Int} {h : MH} {c c' : Cell}
theorem DH.of {bs cs : List Int} {t : Int} (D : DkOk bs cs t n) : DH r n (Dk bs cs t ++ r) := ⟨bs, cs, t, D, rfl⟩
theorem DH.len (H : DH r n h) : h.length = r.length + 2 := by obtain ⟨bs, cs, t, _, rfl⟩ := H; exact hlD ..
theorem DH.tk (H : DH r n h) : h.take (r.length + 2) = h := by obtain ⟨bs, cs, t, _, rfl⟩ := H; exact tkD ..
theorem DH.up (H : DH r n h) (e : n ≤ m) : DH r m h := by obtain ⟨bs, cs, t, D, rfl⟩ := H; exact ⟨bs, cs, t, D.up e, rfl⟩
theorem DH.push (H : DH r n h) : DH (r ++ [c]) n (h ++ [c]) := by obtain ⟨bs, cs, t, D, rfl⟩ := H; exact ⟨bs, cs, t, D, by rw [List.append_assoc]⟩
theorem DH.getA (H : DH r n h) (j : Nat) : h[j + 2]? = r[j]? := by
  obtain ⟨bs, cs, t, D, rfl⟩ := H
  simp [Dk]
theorem DH.get (H : DH (r ++ [c]) n h) : h[r.length + 2]? = some c := by rw [H.getA]; simp
theorem DH.lits {l : List Val} (H : DH (r ++ [.lst l]) n h) : lits (.ref (r.length + 2)) h = some l := by simp only [MP.lits, H.get]
theorem DH.sits {l : List Val} (H : DH (r ++ [.lst l]) n h) : sits (.ref (r.length + 2)) h = some l := by simp only [MP.sits, H.lits]
theorem DH.setA (H : DH r n h) (j : Nat) : DH (r.set j c') n (h.set (j + 2) c') := by
  obtain ⟨bs, cs, t, D, rfl⟩ := H
  exact ⟨bs, cs, t, D, by simp [Dk]⟩
theorem DH.set (H : DH (r ++ [c]) n h) : DH (r ++ [c']) n (h.set (r.length + 2) c') := by
  have := H.setA (c' := c') r.length
  simpa using this
theorem DH.cut (H : DH (r ++ s) n h) : DH r n (h.take (r.length + 2)) := by
  obtain ⟨bs, cs, t, D, rfl⟩ := H
  exact ⟨bs, cs, t, D, by simp [Dk]⟩
theorem DH.pushLen (H : DH r n h) : h.length = r.length + 2 := H.len
end
section
variable {P : Nat → Option MDef} {fuel d base : Nat} {r : MH} {n m : Int} {h : MH} {Q : Val → MH → Prop}
theorem DH.deck (h4 : P 4 = some d4) {ns : List Int} (hn : ns.length ≤ 63) (k : ∀ h, DH [] 0 h → Q (.ref 1) h) : Rn (callM P fuel (d + 1) 0 4 [.scr ns] []) Q :=
  deck_ok h4 hn fun bs cs D => k _ ⟨bs, cs, 0, D, by simp⟩
theorem DH.next (h5 : P 5 = some d5) (hf : 70 ≤ fuel) (H : DH r n h) (hn : n ≤ 2 ^ 50) (m0 : 0 < m) (m1 : m < 2 ^ 64) (k : ∀ h' (x : Int), DH r (n + 1) h' → 0 ≤ x → x < m → Q (.int x) h') : Rn (callM P fuel (d + 1) base 5 [.ref 1, .int m] h) Q := by
  obtain ⟨bs, cs, t, D, rfl⟩ := H
  exact next_ok h5 D hn m0 m1 hf fun bs' t' x D' a b => k _ x (.of D') a b
theorem DH.one (h5 : P 5 = some d5) (h6 : P 6 = some d6) (hf : 70 ≤ fuel) {l : List Val} (H : DH r n h) (hn : n ≤ 2 ^ 50) (l0 : l ≠ []) (l1 : l.length ≤ 1000) (lp : ∀ v ∈ l, dle 60 v = true) (k : ∀ h' v, DH r (n + 1) h' → v ∈ l → Q v h') :
    Rn (callM P fuel (d + 2) base 6 [.ref 1, .lst l] h) Q := by
  obtain ⟨bs, cs, t, D, rfl⟩ := H
  exact (one_ok h5 h6 D hn hf l0 l1 lp (fun bs' t' v D' a => k _ v (.of D') a) (List.length_pos_iff.mpr l0)).1
theorem DH.oneT (h5 : P 5 = some d5) (h6 : P 6 = some d6) (hf : 70 ≤ fuel) {l : List Val} (H : DH r n h) (hn : n ≤ 2 ^ 50) (l0 : l ≠ []) (l1 : l.length ≤ 1000) (lp : ∀ v ∈ l, dle 60 v = true) (k : ∀ h' v, DH r (n + 1) h' → v ∈ l → Q v h') :
    Rn (callM P fuel (d + 2) base 6 [.ref 1, .tup l] h) Q := by
  obtain ⟨bs, cs, t, D, rfl⟩ := H
  exact (one_ok h5 h6 D hn hf l0 l1 lp (fun bs' t' v D' a => k _ v (.of D') a) (List.length_pos_iff.mpr l0)).2
theorem DH.amount (h5 : P 5 = some d5) (h16 : P 16 = some d16) (hf : 70 ≤ fuel) {high : Int} (H : DH r n h) (hn : n + 3 ≤ 2 ^ 50) (h0 : 0 ≤ high) (h1 : high < 2 ^ 60) (k : ∀ h' (x : Int), DH r (n + 3) h' → 0 ≤ x → x ≤ high → Q (.int x) h') :
    Rn (callM P fuel (d + 2) base 16 [.ref 1, .int high] h) Q := by
  obtain ⟨bs, cs, t, D, rfl⟩ := H
  exact amount_ok h5 h16 D hn hf h0 h1 fun bs' t' x D' a b => k _ x (.of D') a b
theorem DH.house (h5 : P 5 = some d5) (h6 : P 6 = some d6) (h8 : P 8 = some d8) (hf : 70 ≤ fuel) {rooms kinds : Int} (H : DH r n h) (hn : n + 20 ≤ 2 ^ 50) (r0 : 0 ≤ rooms) (r1 : rooms ≤ 9)
    (k : ∀ h' sizes, DH r (n + 18) h' → (sizes.length : Int) = rooms → (∀ s ∈ sizes, SizeOk s) → Q (hoV sizes kinds) h') : Rn (callM P fuel (d + 3) base 8 [.ref 1, .int rooms, .int kinds] h) Q := by
  obtain ⟨bs, cs, t, D, rfl⟩ := H
  exact house_ok h5 h6 h8 D hn hf r0 r1 fun bs' t' x D' a b => k _ x (.of D') a b
theorem DH.stand (h5 : P 5 = some d5) (h6 : P 6 = some d6) (h16 : P 16 = some d16) (h17 : P 17 = some d17) (h18 : P 18 = some d18) (hf : 70 ≤ fuel) {sizes : List Int} {kinds : Int} (H : DH r n h) (hn : n + 600 ≤ 2 ^ 50) (s0 : ∀ s ∈ sizes, SizeOk s) (sl : sizes.length ≤ 16) (k0 : 1 ≤ kinds) (k1 : kinds ≤ 7)
    (k : ∀ h' st, DH r (n + 500) h' → StOk sizes kinds.toNat st → Q (stV st) h') : Rn (callM P fuel (d + 4) base 18 [.ref 1, hoV sizes kinds] h) Q := by
  obtain ⟨bs, cs, t, D, rfl⟩ := H
  exact stand_ok h5 h6 h16 h17 h18 D hn hf s0 sl k0 k1 fun bs' t' x D' a => k _ x (.of D') a
/-- a call that leaves the deck and all below as they are -/
theorem Rn_callD {f : Nat} {D : MDef} {args : List Val} (H : DH r n h) (hP : P f = some D) (hk : D.keep = false) (hn : args.length = D.np)
    (k : ∀ C : EC, C.call = callM P fuel d (r.length + 2) → C.base = r.length + 2 → C.fuel = fuel → Rn (exs C D.body (args.map some ++ List.replicate D.nl none) h) fun fl h1 => dle 60 (retV fl) = true ∧ ∃ s m, DH (r ++ s) m h1 ∧ ∀ h', DH r m h' → Q (retV fl) h') :
    Rn (callM P fuel (d + 1) base f args h) Q := by
  refine Rn_callF hP hk hn fun C cc cb cf => ?_
  rw [H.len] at cc cb
  refine (k C cc cb cf).mono fun fl h1 ⟨a, s, m, D1, q⟩ => ?_
  rw [H.len]
  refine ⟨?_, q _ D1.cut⟩
  generalize retV fl = v at a
  cases v <;> first | exact a | cases a
/-- nothing made: the deck alone -/
theorem endD {v : Val} {h1 : MH} (a : dle 60 v = true) (D1 : DH r m h1) (q : ∀ h', DH r m h' → Q v h') : dle 60 v = true ∧ ∃ s m, DH (r ++ s) m h1 ∧ ∀ h', DH r m h' → Q v h' := ⟨a, [], m, by rw [List.append_nil]; exact D1, q⟩
end
/-! ### pure data -/
mutual
def sz : Val → Nat
  | .str s => 1 + s.length
  | .tup l => 1 + szL l
  | .lst l => 1 + szL l
  | _ => 1
def szL : List Val → Nat
  | [] => 0
  | v :: l => sz v + szL l
end
/-- ints of at most M, texts of signs, at most n deep -/
def nice (M : Nat) : Nat → Val → Bool
  | _, .non => true
  | _, .bl _ => true
  | _, .int i => decide (i.natAbs ≤ M)
  | _, .str s => s.cps.toList.all (fun c => decide (c < 16 ^ 8)) && PyData.strOk s
  | _, .dct0 => true
  | 0, .tup l => l.isEmpty
  | 0, .lst l => l.isEmpty
  | n + 1, .tup l => l.all (nice M n)
  | n + 1, .lst l => l.all (nice M n)
  | _, .scr _ => false
  | _, .ref _ => false
/-- nested tuples of ints -/
def itr (M : Nat) : Nat → Val → Bool
  | _, .int i => decide (i.natAbs ≤ M)
  | 0, .tup l => l.isEmpty
  | n + 1, .tup l => l.all (itr M n)
  | _, _ => false
theorem szL_app (a b : List Val) : szL (a ++ b) = szL a + szL b := by
  induction a with
  | nil => simp [szL]
  | cons v a ih => simp only [List.cons_append, szL, ih]; omega
theorem szL_split (l : List Val) (j : Nat) : szL (l.take j) + szL (l.drop j) = szL l := by rw [← szL_app, List.take_append_drop]
theorem szL_rev (l : List Val) : szL l.reverse = szL l := by
  induction l with
  | nil => rfl
  | cons v l ih => rw [List.reverse_cons, szL_app, ih]; simp only [szL]; omega
theorem sz_pos (v : Val) : 1 ≤ sz v := by cases v <;> simp [sz]
theorem szL_len : ∀ l : List Val, l.length ≤ szL l
  | [] => Nat.le_refl _
  | v :: l => by have := szL_len l; have := sz_pos v; simp only [List.length_cons, szL]; omega
theorem szL_mem {v : Val} : ∀ {l : List Val}, v ∈ l → sz v ≤ szL l
  | u :: l, h => by
    rcases List.mem_cons.mp h with rfl | h
    · simp only [szL]; omega
    · have := szL_mem h; simp only [szL]; omega
theorem nice_up {M M' : Nat} (hM : M ≤ M') : ∀ {k k' : Nat} {v : Val}, k ≤ k' → nice M k v = true → nice M' k' v = true
  | k, k', .non, _, _ => by cases k' <;> rfl
  | k, k', .bl _, _, _ => by cases k' <;> rfl
  | k, k', .dct0, _, _ => by cases k' <;> rfl
  | k, k', .int i, _, h => by
    have h : i.natAbs ≤ M := by cases k <;> exact of_decide_eq_true h
    cases k' <;> exact decide_eq_true (by omega)
  | k, k', .str s, _, h => by cases k <;> cases k' <;> exact h
  | k, k', .scr _, _, h => by cases k <;> cases h
  | k, k', .ref _, _, h => by cases k <;> cases h
  | 0, 0, .tup l, _, h => h
  | 0, k' + 1, .tup l, _, h => by
    have : l = [] := List.isEmpty_iff.mp h
    subst this; rfl
  | k + 1, k' + 1, .tup l, e, h => by
    simp only [nice, List.all_eq_true] at h ⊢
    exact fun v hv => nice_up hM (by omega) (h v hv)
  | 0, 0, .lst l, _, h => h
  | 0, k' + 1, .lst l, _, h => by
    have : l = [] := List.isEmpty_iff.mp h
    subst this; rfl
  | k + 1, k' + 1, .lst l, e, h => by
    simp only [nice, List.all_eq_true] at h ⊢
    exact fun v hv => nice_up hM (by omega) (h v hv)
theorem itr_nice {M : Nat} : ∀ {k : Nat} {v : Val}, itr M k v = true → nice M k v = true
  | k, .int i, h => by cases k <;> exact h
  | 0, .tup l, h => h
  | k + 1, .tup l, h => by
    simp only [itr, nice, List.all_eq_true] at h ⊢
    exact fun v hv => itr_nice (h v hv)
  | k, .non, h => by cases k <;> cases h
  | k, .bl _, h => by cases k <;> cases h
  | k, .str _, h => by cases k <;> cases h
  | k, .dct0, h => by cases k <;> cases h
  | k, .lst _, h => by cases k <;> cases h
  | k, .scr _, h => by cases k <;> cases h
  | k, .ref _, h => by cases k <;> cases h
theorem nice_dle {M : Nat} : ∀ {k : Nat} {v : Val}, nice M k v = true → dle k v = true
  | k, .non, _ => by cases k <;> rfl
  | k, .bl _, _ => by cases k <;> rfl
  | k, .dct0, _ => by cases k <;> rfl
  | k, .int i, h => by cases k <;> rfl
  | k, .str s, h => by cases k <;> rfl
  | k, .scr _, h => by cases k <;> cases h
  | k, .ref _, h => by cases k <;> cases h
  | 0, .tup l, h => h
  | k + 1, .tup l, h => by
    simp only [nice, dle, List.all_eq_true] at h ⊢
    exact fun v hv => nice_dle (h v hv)
  | 0, .lst l, h => h
  | k + 1, .lst l, h => by
    simp only [nice, dle, List.all_eq_true] at h ⊢
    exact fun v hv => nice_dle (h v hv)
theorem nice_sho {M : Nat} : ∀ {k : Nat} {v : Val}, nice M k v = true → sho k v = true
  | k, .non, _ => by cases k <;> rfl
  | k, .bl _, _ => by cases k <;> rfl
  | k, .dct0, _ => by cases k <;> rfl
  | k, .int i, h => by cases k <;> rfl
  | k, .str s, h => by cases k <;> rfl
  | k, .scr _, h => by cases k <;> cases h
  | k, .ref _, h => by cases k <;> cases h
  | 0, .tup l, h => h
  | k + 1, .tup l, h => by
    simp only [nice, sho, List.all_eq_true] at h ⊢
    exact fun v hv => nice_sho (h v hv)
  | 0, .lst l, h => h
  | k + 1, .lst l, h => by
    simp only [nice, sho, List.all_eq_true] at h ⊢
    exact fun v hv => nice_sho (h v hv)
theorem dle_up : ∀ {k k' : Nat} {v : Val}, k ≤ k' → dle k v = true → dle k' v = true
  | k, k', .non, _, _ => by cases k' <;> rfl
  | k, k', .bl _, _, _ => by cases k' <;> rfl
  | k, k', .dct0, _, _ => by cases k' <;> rfl
  | k, k', .int i, _, h => by cases k' <;> rfl
  | k, k', .str s, _, h => by cases k' <;> rfl
  | k, k', .scr _, _, h => by cases k <;> cases h
  | k, k', .ref _, _, h => by cases k <;> cases h
  | 0, 0, .tup l, _, h => h
  | 0, k' + 1, .tup l, _, h => by
    have : l = [] := List.isEmpty_iff.mp h
    subst this; rfl
  | k + 1, k' + 1, .tup l, e, h => by
    simp only [dle, List.all_eq_true] at h ⊢
    exact fun v hv => dle_up (by omega) (h v hv)
  | 0, 0, .lst l, _, h => h
  | 0, k' + 1, .lst l, _, h => by
    have : l = [] := List.isEmpty_iff.mp h
    subst this; rfl
  | k + 1, k' + 1, .lst l, e, h => by
    simp only [dle, List.all_eq_true] at h ⊢
    exact fun v hv => dle_up (by omega) (h v hv)
theorem natAbs_log2 {i : Int} (h : i.natAbs < 10 ^ 100) : i.natAbs.log2 < 1920 := by
  by_cases z : i.natAbs = 0
  · rw [z]; decide
  · exact (Nat.log2_lt z).mpr (Nat.lt_of_lt_of_le h (by decide +kernel))
/-- what is shown of it, and how long that is -/
theorem nice_shown {M : Nat} (hM : M < 10 ^ 100) : ∀ (k : Nat) {v : Val}, nice M k v = true → (toD v).showable = true ∧ (toD v).shown.length + 2 ≤ 110 * sz v := by
  intro k
  induction k with
  | zero =>
    intro v h
    cases v with
    | non => exact ⟨rfl, by decide⟩
    | bl b => exact ⟨rfl, by cases b <;> decide⟩
    | int i =>
      have h : i.natAbs ≤ M := of_decide_eq_true h
      have hi : i.natAbs < 10 ^ 100 := by omega
      refine ⟨decide_eq_true (natAbs_log2 hi), ?_⟩
      have := int_text_length_le10 (k := 100) (by decide) hi
      simp only [toD, PyData.shown, sz]
      rw [ofString_length]
      omega
    | str s =>
      simp only [nice, Bool.and_eq_true, List.all_eq_true, decide_eq_true_eq] at h
      refine ⟨rfl, ?_⟩
      have := StrLaws.reprText_len s h.1
      have e : s.length = s.cps.size := rfl
      simp only [toD, PyData.shown, sz]
      omega
    | dct0 => exact ⟨rfl, by decide⟩
    | tup l =>
      have : l = [] := List.isEmpty_iff.mp h
      subst this
      exact ⟨rfl, by decide⟩
    | lst l =>
      have : l = [] := List.isEmpty_iff.mp h
      subst this
      exact ⟨rfl, by decide⟩
    | scr _ => cases h
    | ref _ => cases h
  | succ k ih =>
    intro v h
    have all : ∀ {l : List Val}, l.all (nice M k) = true → PyData.showableAll (toDL l) = true ∧ ((PyData.shownAll (toDL l)).map (·.length)).sum + 2 * l.length ≤ 110 * szL l ∧ (PyData.shownAll (toDL l)).length = l.length := by
      intro l
      induction l with
      | nil => exact fun _ => ⟨rfl, by decide, rfl⟩
      | cons v l il =>
        intro h
        rw [List.all_cons, Bool.and_eq_true] at h
        obtain ⟨a, b, c⟩ := il h.2
        obtain ⟨a2, b2⟩ := ih h.1
        refine ⟨by simp only [toDL, PyData.showableAll, a, a2, Bool.and_self], ?_, by simp only [toDL, PyData.shownAll, List.length_cons, c]⟩
        simp only [toDL, PyData.shownAll, List.map_cons, List.sum_cons, List.length_cons, szL, Nat.mul_add]
        omega
    cases v with
    | non => exact ⟨rfl, by decide⟩
    | bl b => exact ⟨rfl, by cases b <;> decide⟩
    | int i =>
      have h : i.natAbs ≤ M := of_decide_eq_true h
      have hi : i.natAbs < 10 ^ 100 := by omega
      refine ⟨decide_eq_true (natAbs_log2 hi), ?_⟩
      have := int_text_length_le10 (k := 100) (by decide) hi
      simp only [toD, PyData.shown, sz]
      rw [ofString_length]
      omega
    | str s =>
      simp only [nice, Bool.and_eq_true, List.all_eq_true, decide_eq_true_eq] at h
      refine ⟨rfl, ?_⟩
      have := StrLaws.reprText_len s h.1
      have e : s.length = s.cps.size := rfl
      simp only [toD, PyData.shown, sz]
      omega
    | dct0 => exact ⟨rfl, by decide⟩
    | tup l =>
      obtain ⟨a, b, c⟩ := all (show l.all (nice M k) = true from h)
      refine ⟨by simpa only [toD, PyData.showable] using a, ?_⟩
      have := tupleText_len_le (PyData.shownAll (toDL l))
      simp only [toD, PyData.shown, sz]
      rw [c] at this
      omega
    | lst l =>
      obtain ⟨a, b, c⟩ := all (show l.all (nice M k) = true from h)
      refine ⟨by simpa only [toD, PyData.showable] using a, ?_⟩
      have := listText_len_le (PyData.shownAll (toDL l))
      simp only [toD, PyData.shown, sz]
      rw [c] at this
      omega
    | scr _ => cases h
    | ref _ => cases h
/-- repr of data -/
theorem nice_repr {M k : Nat} {v : Val} {h : MH} (hM : M < 10 ^ 100) (hk : k ≤ 60) (e : nice M k v = true) (s : sz v ≤ 100000) : bi .repr [v] h = some (.v (.str (toD v).shown)) := by
  obtain ⟨a, b⟩ := nice_shown hM k e
  have hv : ∀ n, v ≠ .ref n := by rintro n rfl; cases k <;> cases e
  have e60 := nice_sho (nice_up (Nat.le_refl M) hk e)
  exact Sh.repr (L := 11000000) ⟨e60, a, by omega⟩ (by decide) hv
theorem nice_reprR {M k : Nat} {l : List Val} {n : Nat} {h : MH} (hM : M < 10 ^ 100) (hk : k ≤ 60) (g : h[n]? = some (.lst l)) (e : nice M k (.lst l) = true) (s : szL l ≤ 99999) : bi .repr [.ref n] h = some (.v (.str (toD (.lst l)).shown)) := by
  obtain ⟨a, b⟩ := nice_shown hM k e
  have e60 := nice_sho (nice_up (Nat.le_refl M) hk e)
  refine Sh.reprR (k := 0) (L := 11000000) g ⟨e60, a, ?_⟩ (by decide)
  have : sz (.lst l) = 1 + szL l := rfl
  omega
theorem nice_int {M k : Nat} {i : Int} (h : i.natAbs ≤ M) : nice M k (.int i) = true := by cases k <;> exact decide_eq_true h
theorem nice_tup {M k : Nat} {l : List Val} (h : ∀ v ∈ l, nice M k v = true) : nice M (k + 1) (.tup l) = true := List.all_eq_true.mpr h
theorem nice_lst {M k : Nat} {l : List Val} (h : ∀ v ∈ l, nice M k v = true) : nice M (k + 1) (.lst l) = true := List.all_eq_true.mpr h
theorem nice_tupM {M k : Nat} {l : List Val} (h : nice M k (.tup l) = true) : ∀ v ∈ l, nice M (k - 1) v = true := by
  intro v hv
  cases k with
  | zero =>
    have : l = [] := List.isEmpty_iff.mp h
    subst this; cases hv
  | succ k => exact List.all_eq_true.mp h v hv
theorem nice_lstM {M k : Nat} {l : List Val} (h : nice M k (.lst l) = true) : ∀ v ∈ l, nice M (k - 1) v = true := by
  intro v hv
  cases k with
  | zero =>
    have : l = [] := List.isEmpty_iff.mp h
    subst this; cases hv
  | succ k => exact List.all_eq_true.mp h v hv
/-- t[::-1] -/
def revV (bx : Bool) (x : Val) (h : MH) : Res Val := match x with
  | .tup l => .ok (.tup l.reverse) h
  | x => (ofO (lits x h) h).bind fun l h => fin bx (.nl l.reverse) h

/-! more rules -/
theorem w_rev (C : EC) (g : ME) (h : MH) (Q : Val → MH → Prop) (bx : Bool) (a : E) : Rn (ev C (.rev bx a) g h) Q ↔ Rn (ev C a g h) fun x h => Rn (revV bx x h) Q := by
  simp only [ev, Rn_bind]
  refine Rn_iff fun x h => ?_
  cases x <;> simp only [revV, Rn_ok]
theorem w_ienu (C : EC) (g : ME) (h : MH) (Q : List Val → MH → Prop) (e : E) : Rn (evI C (.enu e) g h) Q ↔ Rn (ev C e g h) fun x h => Rn (ofO (sits x []) h) fun l h => Q (enumV l) h := by
  simp only [evI, Rn_bind, Rn_ok]
theorem w_comp2 (C : EC) (g : ME) (h : MH) (Q : Val → MH → Prop) (bx : Bool) (elt : E) (t : Tg) (it : It) (ifs : Es) (t1 : Tg) (it1 : It) (ifs1 : Es) (own own1 : List Nat) : Rn (ev C (.comp2 bx elt t it ifs t1 it1 ifs1 own own1) g h) Q ↔ Rn (evI C it g h) fun src h =>
    Rn (compLoop2 (fun x h => (ofO (tgs t x (wipeE g own)) h).bind fun g1 h => (evF C ifs g1 h).bind fun b h => if b then (evI C it1 g1 h).bind fun src1 h => compLoop (fun x h => (ofO (tgs t1 x (wipeE g1 own1)) h).bind fun g2 h => (evF C ifs1 g2 h).bind fun b h => if b then (ev C elt g2 h).bind fun y h => .ok (some y) h else .ok none h) src1 h else .ok [] h) src h) fun l h => Rn (fin bx (.nl l) h) Q := by
  simp only [ev, Rn_bind]
theorem comp2_map {f : Val → MH → Res (List Val)} {p : Val → List Val} {h : MH} : ∀ (l : List Val), (∀ x ∈ l, f x h = .ok (p x) h) → compLoop2 f l h = .ok (l.flatMap p) h
  | [], _ => rfl
  | x :: xs, k => by simp only [compLoop2, k x List.mem_cons_self, Res.bind, comp2_map xs fun y hy => k y (List.mem_cons_of_mem _ hy), List.flatMap_cons]
theorem Rn_comp2P {f : Val → MH → Res (List Val)} (p : Val → List Val) {h : MH} {Q : List Val → MH → Prop} {l : List Val} (k : ∀ x ∈ l, Rn (f x h) fun y h' => y = p x ∧ h' = h) (q : Q (l.flatMap p) h) : Rn (compLoop2 f l h) Q := by
  have e : compLoop2 f l h = .ok (l.flatMap p) h := comp2_map l fun x hx => by
    obtain ⟨y, h', e, rfl, rfl⟩ := k x hx
    exact e
  rw [e, Rn_ok]
  exact q
theorem q_eqB (i j : Bool) (h : MH) : cmp .eq (.bl i) (.bl j) h = some (i == j) := by
  cases i <;> cases j <;> rfl
theorem q_neB (i j : Bool) (h : MH) : cmp .ne (.bl i) (.bl j) h = some (!(i == j)) := by
  cases i <;> cases j <;> rfl
theorem qt : (∀ (i j : Bool) (h : MH), cmp .eq (.bl i) (.bl j) h = some (i == j)) ∧ (∀ (i j : Bool) (h : MH), cmp .ne (.bl i) (.bl j) h = some (!(i == j))) ∧ ((Ty.int == Ty.int) = true) ∧ ((Ty.int == Ty.bool) = false) ∧ ((Ty.int == Ty.str) = false) ∧ ((Ty.int == Ty.tuple) = false) ∧ ((Ty.int == Ty.list) = false) ∧ ((Ty.int == Ty.dict) = false) ∧ ((Ty.bool == Ty.int) = false) ∧ ((Ty.bool == Ty.bool) = true) ∧ ((Ty.bool == Ty.str) = false) ∧ ((Ty.bool == Ty.tuple) = false) ∧ ((Ty.bool == Ty.list) = false) ∧ ((Ty.bool == Ty.dict) = false) ∧ ((Ty.str == Ty.int) = false) ∧ ((Ty.str == Ty.bool) = false) ∧ ((Ty.str == Ty.str) = true) ∧ ((Ty.str == Ty.tuple) = false) ∧ ((Ty.str == Ty.list) = false) ∧ ((Ty.str == Ty.dict) = false) ∧ ((Ty.tuple == Ty.int) = false) ∧ ((Ty.tuple == Ty.bool) = false) ∧ ((Ty.tuple == Ty.str) = false) ∧ ((Ty.tuple == Ty.tuple) = true) ∧ ((Ty.tuple == Ty.list) = false) ∧ ((Ty.tuple == Ty.dict) = false) ∧ ((Ty.list == Ty.int) = false) ∧ ((Ty.list == Ty.bool) = false) ∧ ((Ty.list == Ty.str) = false) ∧ ((Ty.list == Ty.tuple) = false) ∧ ((Ty.list == Ty.list) = true) ∧ ((Ty.list == Ty.dict) = false) ∧ ((Ty.dict == Ty.int) = false) ∧ ((Ty.dict == Ty.bool) = false) ∧ ((Ty.dict == Ty.str) = false) ∧ ((Ty.dict == Ty.tuple) = false) ∧ ((Ty.dict == Ty.list) = false) ∧ ((Ty.dict == Ty.dict) = true) ∧
  (∀ (l : List Val) (h : MH), cmp .eq (.tup l) (.tup []) h = some l.isEmpty) ∧
  (∀ (l : List Val) (h : MH), cmp .ne (.tup l) (.tup []) h = some (!l.isEmpty)) ∧
  (∀ (l : List Val) (h : MH), cmp .eq (.lst l) (.lst []) h = some l.isEmpty) ∧
  (∀ (l : List Val) (h : MH), cmp .ne (.lst l) (.lst []) h = some (!l.isEmpty)) ∧
  (∀ (n : Nat) (b : Bool), below n (.bl b) = true) ∧ (∀ (n : Nat) (b : Int), below n (.int b) = true) ∧ (∀ (n : Nat) (b : Str), below n (.str b) = true) ∧ (∀ (n : Nat), below n .non = true) ∧
  (∀ (n : Nat) (b : Bool), dle n (.bl b) = true) ∧ (∀ (n : Nat) (b : Int), dle n (.int b) = true) ∧ (∀ (n : Nat) (b : Str), dle n (.str b) = true) ∧ (∀ (n : Nat), dle n .non = true) ∧
  (∀ (i : Int) (h : MH), bi .str [.int i] h = if i.natAbs < 2 ^ 1900 then some (.v (.str (toString i))) else none) ∧
  (∀ (i : Int) (h : MH), bi .int [.int i] h = some (.v (.int i))) ∧
  (∀ (i : Bool) (h : MH), bi .int [.bl i] h = some (.v (.int (if i then 1 else 0)))) ∧
  (∀ (l : List Val) (bx : Bool) (h : MH) , revV bx (.tup l) h = .ok (.tup l.reverse) h) ∧
  (∀ (l : List Val) (bx : Bool) (h : MH) , revV bx (.lst l) h = fin bx (.nl l.reverse) h) ∧
  (∀ (l : List Val) (h : MH), bi .all [.lst l] h = (blsOf l).map fun bs => .v (.bl (bs.all id))) ∧
  (∀ (l : List Val) (h : MH), bi .any [.lst l] h = (blsOf l).map fun bs => .v (.bl (bs.any id))) ∧
  (∀ (x y : Str) (h : MH), bin .add (.str x) (.str y) h = if x.length + y.length ≤ SZ then some (.v (.str (x ++ y))) else none) ∧
  (∀ (bs : List Bool), blsOf (bs.map .bl) = some bs) ∧ (∀ (bs : List Int), intsOf (bs.map .int) = some bs) ∧
  (∀ (C : EC) (g : ME) (h : MH) (Q : Val → MH → Prop) (bx : Bool) (a : E), Rn (ev C (.rev bx a) g h) Q ↔ Rn (ev C a g h) fun x h => Rn (revV bx x h) Q) ∧
  (∀ (C : EC) (g : ME) (h : MH) (Q : List Val → MH → Prop) (e : E), Rn (evI C (.enu e) g h) Q ↔ Rn (ev C e g h) fun x h => Rn (ofO (sits x []) h) fun l h => Q (enumV l) h) ∧
  (∀ (C : EC) (g : ME) (h : MH) (Q : Val → MH → Prop) (bx : Bool) (elt : E) (t : Tg) (it : It) (ifs : Es) (t1 : Tg) (it1 : It) (ifs1 : Es) (own own1 : List Nat), Rn (ev C (.comp2 bx elt t it ifs t1 it1 ifs1 own own1) g h) Q ↔ Rn (evI C it g h) fun src h =>
    Rn (compLoop2 (fun x h => (ofO (tgs t x (wipeE g own)) h).bind fun g1 h => (evF C ifs g1 h).bind fun b h => if b then (evI C it1 g1 h).bind fun src1 h => compLoop (fun x h => (ofO (tgs t1 x (wipeE g1 own1)) h).bind fun g2 h => (evF C ifs1 g2 h).bind fun b h => if b then (ev C elt g2 h).bind fun y h => .ok (some y) h else .ok none h) src1 h else .ok [] h) src h) fun l h => Rn (fin bx (.nl l) h) Q) := by
  refine ⟨q_eqB, q_neB, rfl, rfl, rfl, rfl, rfl, rfl, rfl, rfl, rfl, rfl, rfl, rfl, rfl, rfl, rfl, rfl, rfl, rfl, rfl, rfl, rfl, rfl, rfl, rfl, rfl, rfl, rfl, rfl, rfl, rfl, rfl, rfl, rfl, rfl, rfl, rfl, fun _ _ => rfl, fun _ _ => rfl, fun _ _ => rfl, fun _ _ => rfl, fun _ _ => rfl, fun _ _ => rfl, fun _ _ => rfl, fun _ => rfl, fun n _ => by cases n <;> rfl, fun n _ => by cases n <;> rfl, fun n _ => by cases n <;> rfl, fun n => by cases n <;> rfl, fun _ _ => rfl, fun _ _ => rfl, fun _ _ => rfl, fun _ _ _ => rfl, fun _ _ _ => rfl, fun _ _ => rfl, fun _ _ => rfl, fun _ _ _ => rfl, fun bs => ?_, fun bs => ?_, w_rev, w_ienu, w_comp2⟩
  · induction bs with
    | nil => rfl
    | cons b bs ih => rw [List.map_cons, blsOf, ih]; rfl
  · induction bs with
    | nil => rfl
    | cons b bs ih => rw [List.map_cons, intsOf, ih]; rfl
end MP

set_option maxHeartbeats 4000000
/-! MiniW: whole numbers, bounds, odd things. -/
namespace MP
open PySem
set_option hygiene false in
local macro_rules
  | `(tactic| exists "w") => `(tactic| try simp (maxSteps := 2000000) only [Rn_bind, Rn_ok, Rn_some, Rn_og, Rn_obind, Rn_omap, wps, qs, List.getElem?_cons_zero, List.getElem?_cons_succ, Option.some.injEq, exists_eq_left', List.set_cons_zero, List.set_cons_succ, List.map_cons, List.map_nil, List.replicate, List.cons_append, List.nil_append, wipeE, List.foldr, retV, if_true, Bool.not_true, Bool.not_false, Bool.false_eq_true, if_false, decide_eq_true_eq])
  | `(tactic| exists "w", [$ts,*]) => `(tactic| try simp (maxSteps := 2000000) only [Rn_bind, Rn_ok, Rn_some, Rn_og, Rn_obind, Rn_omap, wps, qs, List.getElem?_cons_zero, List.getElem?_cons_succ, Option.some.injEq, exists_eq_left', List.set_cons_zero, List.set_cons_succ, List.map_cons, List.map_nil, List.replicate, List.cons_append, List.nil_append, wipeE, List.foldr, retV, if_true, Bool.not_true, Bool.not_false, Bool.false_eq_true, if_false, decide_eq_true_eq, $[$ts:term],*])
  | `(tactic| exists "v") => `(tactic| try simp (maxSteps := 2000000) only [Rn_bind, Rn_ok, Rn_some, Rn_og, Rn_obind, Rn_omap, wps, qs, List.getElem?_cons_zero, List.getElem?_cons_succ, Option.some.injEq, exists_eq_left', List.set_cons_zero, List.set_cons_succ, List.map_cons, List.map_nil, List.replicate, List.cons_append, List.nil_append, wipeE, List.foldr, retV, if_true, Bool.not_true, Bool.not_false, Bool.false_eq_true, if_false, decide_eq_true_eq, qt, q_mulL, List.foldl_cons, List.foldl_nil, List.zip_cons_cons, List.zip_nil_right, isTL, Rn_stuck, ite_stuck, not_true_eq_false, not_false_eq_true, Bool.not_eq_true, Bool.not_eq_false, decide_eq_false_iff_not, beq_self_eq_true, Bool.or_false, Bool.false_or, Bool.or_self, Bool.and_self, Bool.and_true, Bool.true_and, Bool.false_and, Bool.and_false, Bool.or_true, Bool.true_or, decide_true, decide_false, Bool.true_eq_false, List.take_length, List.length_map, Val.bl.injEq, ite_self, List.length_cons, List.length_nil, Nat.reduceAdd, Nat.reduceMul, Nat.reduceSub, Nat.reducePow, Nat.reduceLT, Nat.reduceLeDiff, Int.reducePow, Int.reduceToNat, Int.reduceAdd, Int.reduceMul, Int.reduceSub, Int.reduceNeg, Int.reduceLT, Int.reduceLE, Int.reduceAbs, Int.reduceEq, Int.reduceNe, Int.cast_ofNat_Int, SZv, and_self, true_and, and_true, Nat.zero_le, or_true, true_or, Nat.zero_add, Int.natCast_add, Int.natCast_one, ge_iff_le, gt_iff_lt])
  | `(tactic| exists "v", [$ts,*]) => `(tactic| try simp (maxSteps := 2000000) only [Rn_bind, Rn_ok, Rn_some, Rn_og, Rn_obind, Rn_omap, wps, qs, List.getElem?_cons_zero, List.getElem?_cons_succ, Option.some.injEq, exists_eq_left', List.set_cons_zero, List.set_cons_succ, List.map_cons, List.map_nil, List.replicate, List.cons_append, List.nil_append, wipeE, List.foldr, retV, if_true, Bool.not_true, Bool.not_false, Bool.false_eq_true, if_false, decide_eq_true_eq, qt, q_mulL, List.foldl_cons, List.foldl_nil, List.zip_cons_cons, List.zip_nil_right, isTL, Rn_stuck, ite_stuck, not_true_eq_false, not_false_eq_true, Bool.not_eq_true, Bool.not_eq_false, decide_eq_false_iff_not, beq_self_eq_true, Bool.or_false, Bool.false_or, Bool.or_self, Bool.and_self, Bool.and_true, Bool.true_and, Bool.false_and, Bool.and_false, Bool.or_true, Bool.true_or, decide_true, decide_false, Bool.true_eq_false, List.take_length, List.length_map, Val.bl.injEq, ite_self, List.length_cons, List.length_nil, Nat.reduceAdd, Nat.reduceMul, Nat.reduceSub, Nat.reducePow, Nat.reduceLT, Nat.reduceLeDiff, Int.reducePow, Int.reduceToNat, Int.reduceAdd, Int.reduceMul, Int.reduceSub, Int.reduceNeg, Int.reduceLT, Int.reduceLE, Int.reduceAbs, Int.reduceEq, Int.reduceNe, Int.cast_ofNat_Int, SZv, and_self, true_and, and_true, Nat.zero_le, or_true, true_or, Nat.zero_add, Int.natCast_add, Int.natCast_one, ge_iff_le, gt_iff_lt, $[$ts:term],*])
  | `(tactic| exists "v*", [$ts,*]) => `(tactic| try simp (maxSteps := 2000000) only [Rn_bind, Rn_ok, Rn_some, Rn_og, Rn_obind, Rn_omap, wps, qs, List.getElem?_cons_zero, List.getElem?_cons_succ, Option.some.injEq, exists_eq_left', List.set_cons_zero, List.set_cons_succ, List.map_cons, List.map_nil, List.replicate, List.cons_append, List.nil_append, wipeE, List.foldr, retV, if_true, Bool.not_true, Bool.not_false, Bool.false_eq_true, if_false, decide_eq_true_eq, qt, q_mulL, List.foldl_cons, List.foldl_nil, List.zip_cons_cons, List.zip_nil_right, isTL, Rn_stuck, ite_stuck, not_true_eq_false, not_false_eq_true, Bool.not_eq_true, Bool.not_eq_false, decide_eq_false_iff_not, beq_self_eq_true, Bool.or_false, Bool.false_or, Bool.or_self, Bool.and_self, Bool.and_true, Bool.true_and, Bool.false_and, Bool.and_false, Bool.or_true, Bool.true_or, decide_true, decide_false, Bool.true_eq_false, List.take_length, List.length_map, Val.bl.injEq, ite_self, List.length_cons, List.length_nil, Nat.reduceAdd, Nat.reduceMul, Nat.reduceSub, Nat.reducePow, Nat.reduceLT, Nat.reduceLeDiff, Int.reducePow, Int.reduceToNat, Int.reduceAdd, Int.reduceMul, Int.reduceSub, Int.reduceNeg, Int.reduceLT, Int.reduceLE, Int.reduceAbs, Int.reduceEq, Int.reduceNe, Int.cast_ofNat_Int, SZv, and_self, true_and, and_true, Nat.zero_le, or_true, true_or, Nat.zero_add, Int.natCast_add, Int.natCast_one, ge_iff_le, gt_iff_lt, $[$ts:term],*, *])
  | `(tactic| exists "sd") => `(tactic| first | decide | omega | (simp only [List.length_cons, List.length_nil, List.length_map, List.length_append, SZv]; omega) | (constructor <;> exists "sd"))
  | `(tactic| exists "s") => `(tactic| repeat (refine And.intro (by exists "sd") ?_))
  | `(tactic| exists "nx", $D, $D1:ident, $x:ident, $a:ident, $b:ident) => `(tactic| refine DH.next H.h5 hf $D (by omega) (by omega) (by omega) fun h' $x $D1 $a $b => ?_)

/-! end of words -/
theorem Rn_eq {α : Type} {r : Res α} {v : α} {h : MH} (k : Rn r fun a h' => a = v ∧ h' = h) : r = .ok v h := by
  obtain ⟨a, h', e, rfl, rfl⟩ := k
  exact e
theorem Rn_pick {L : List Val} {x : Int} {h : MH} {Q : Val → MH → Prop} (a : 0 ≤ x) (b : x < L.length) (k : ∀ v ∈ L, Q v h) : Rn (ofO (ixv L x) h) Q := by
  obtain ⟨v, hv, ev⟩ := ixv_mem a b
  rw [ev, Rn_some]
  exact k v hv
theorem Rn_pickI {L : List Val} {x : Int} {h : MH} {Q : Val → MH → Prop} (a : 0 ≤ x) (b : x < L.length) (k : ∀ (j : Nat) (v : Val), x = j → L[j]? = some v → Q v h) : Rn (ofO (ixv L x) h) Q := by
  rw [ixv_ok a b, List.getElem?_eq_getElem (show x.toNat < L.length by omega), Rn_some]
  exact k x.toNat _ (by omega) (List.getElem?_eq_getElem _)
theorem szL_at : ∀ {l : List Val} {j : Nat} {v : Val}, l[j]? = some v → szL (l.take j) + sz v + szL (l.drop (j + 1)) = szL l
  | u :: l, 0, v, e => by cases e; simp [szL]
  | u :: l, j + 1, v, e => by
    have := szL_at (l := l) (j := j) e
    simp only [List.take_succ_cons, List.drop_succ_cons, szL]
    omega
/-- is_whole -/
abbrev f1 : Nat := 1
def d1 : MDef := ⟨false, 1, 0, (Ss.cons (.ret (.bop true (Es.cons (.isi [.int] (.var 0)) (Es.cons (.not (.isi [.bool] (.var 0))) Es.nil))))
    Ss.nil)⟩
def n1 : List Str := ["thing"]

/-- is_from -/
abbrev f2 : Nat := 2
def d2 : MDef := ⟨false, 3, 0, (Ss.cons (.ret (.bop true (Es.cons (.call f1 (Es.cons (.var 0) Es.nil)) (Es.cons (.cmp2 .le .le (.var 1) (.var 0) (.var 2)) Es.nil))))
    Ss.nil)⟩
def n2 : List Str := ["thing", "low", "high"]

/-- _law_whole -/
abbrev f7 : Nat := 7
def d7 : MDef := ⟨false, 1, 0, (Ss.cons (.ret (.bop true (Es.cons (.isi [.int] (.var 0)) (Es.cons (.not (.isi [.bool] (.var 0))) Es.nil))))
    Ss.nil)⟩
def n7 : List Str := ["_law_thing"]
def wholeB : Val → Bool
  | .int _ => true
  | _ => false
def fromB (v : Val) (lo hi : Int) : Bool := match v with
  | .int i => decide (lo ≤ i) && decide (i ≤ hi)
  | _ => false
section
variable {P : Nat → Option MDef} {fuel d base : Nat} {h : MH} {v : Val}
theorem is_whole_eq (h1 : P 1 = some d1) (hv : dle 60 v = true) : callM P fuel (d + 1) base 1 [v] h = .ok (.bl (wholeB v)) h := by
  refine Rn_eq (Rn_callF h1 rfl rfl fun C cc cb cf => ?_)
  simp only [d1]
  cases v <;> first | (cases hv; done) | (exists "w"; simp [wholeB, below, dle])
theorem whole_eq (h7 : P 7 = some d7) (hv : dle 60 v = true) : callM P fuel (d + 1) base 7 [v] h = .ok (.bl (wholeB v)) h := by
  refine Rn_eq (Rn_callF h7 rfl rfl fun C cc cb cf => ?_)
  simp only [d7]
  cases v <;> first | (cases hv; done) | (exists "w"; simp [wholeB, below, dle])
theorem is_from_eq (h1 : P 1 = some d1) (h2 : P 2 = some d2) (hv : dle 60 v = true) {lo hi : Int} : callM P fuel (d + 2) base 2 [v, .int lo, .int hi] h = .ok (.bl (fromB v lo hi)) h := by
  refine Rn_eq (Rn_callF h2 rfl rfl fun C cc cb cf => ?_)
  simp only [d2]
  exists "w"
  exists "w", [cc, is_whole_eq h1 hv]
  cases v <;> first | (cases hv; done) | (exists "w"; simp [wholeB, fromB, below, dle]; done) | (rename_i i; by_cases e : lo ≤ i <;> exists "w" <;> simp [wholeB, fromB, below, dle, e])
end
/-- _law_odd -/
abbrev f9 : Nat := 9
def d9 : MDef := ⟨false, 1, 1, (Ss.cons (.asg (.nm 1) (.lst false (Es.cons (.cst .non) (Es.cons (.cst (.bl true)) (Es.cons (.cst (.bl false)) (Es.cons (.cst (.int 0)) (Es.cons (.cst (.int 1)) (Es.cons (.neg (.cst (.int 1))) (Es.cons (.cst (.int 2)) (Es.cons (.cst (.int 8)) (Es.cons (.bin .pow false (.cst (.int 10)) (.cst (.int 12))) (Es.cons (.bin .add false (.bin .pow false (.cst (.int 10)) (.cst (.int 12))) (.cst (.int 1))) (Es.cons (.bin .pow false (.cst (.int 10)) (.cst (.int 30))) (Es.cons (.cst (.str "")) (Es.cons (.cst (.str "0")) (Es.cons (.tup Es.nil) (Es.cons (.tup (Es.cons (.cst (.int 0)) Es.nil)) (Es.cons (.tup (Es.cons (.cst (.int 0)) (Es.cons (.cst (.int 1)) Es.nil))) (Es.cons (.lst false Es.nil) (Es.cons .dct0 (Es.cons (.lst false (Es.cons (.cst (.int 0)) Es.nil)) Es.nil)))))))))))))))))))))
    (Ss.cons (.ret (.idx (.var 1) (.call f5 (Es.cons (.var 0) (Es.cons (.cb .len false (Es.cons (.var 1) Es.nil)) Es.nil)))))
    Ss.nil))⟩
def n9 : List Str := ["_law_deck_here", "_law_some"]
/-- _law_bent -/
abbrev f10 : Nat := 10
def d10 : MDef := ⟨false, 3, 1, (Ss.cons (.iff (.bop true (Es.cons (.isi [.tuple] (.var 1)) (Es.cons (.cmp .ne (.var 1) (.tup Es.nil)) (Es.cons (.cmp .gt (.var 2) (.cst (.int 0))) (Es.cons (.cmp .gt (.call f5 (Es.cons (.var 0) (Es.cons (.cst (.int 4)) Es.nil))) (.cst (.int 0))) Es.nil))))) (Ss.cons (.asg (.nm 3) (.call f5 (Es.cons (.var 0) (Es.cons (.cb .len false (Es.cons (.var 1) Es.nil)) Es.nil))))
    (Ss.cons (.ret (.bin .add false (.bin .add false (.slc false (.var 1) false .nil true (.var 3)) (.tup (Es.cons (.call f10 (Es.cons (.var 0) (Es.cons (.idx (.var 1) (.var 3)) (Es.cons (.bin .sub false (.var 2) (.cst (.int 1))) Es.nil)))) Es.nil))) (.slc false (.var 1) true (.bin .add false (.var 3) (.cst (.int 1))) false .nil)))
    Ss.nil)) Ss.nil)
    (Ss.cons (.iff (.isi [.tuple] (.var 1)) (Ss.cons (.ret (.idx (.lst false (Es.cons (.slc false (.var 1) true (.cst (.int 1)) false .nil) (Es.cons (.bin .add false (.var 1) (.slc false (.var 1) true (.neg (.cst (.int 1))) false .nil)) (Es.cons (.rev false (.var 1)) (Es.cons (.cb .list false (Es.cons (.var 1) Es.nil)) (Es.cons (.call f9 (Es.cons (.var 0) Es.nil)) Es.nil)))))) (.call f5 (Es.cons (.var 0) (Es.cons (.cst (.int 5)) Es.nil)))))
    Ss.nil) Ss.nil)
    (Ss.cons (.iff (.isi [.int] (.var 1)) (Ss.cons (.ret (.idx (.lst false (Es.cons (.bin .add false (.var 1) (.cst (.int 1))) (Es.cons (.bin .sub false (.var 1) (.cst (.int 1))) (Es.cons (.cb .str false (Es.cons (.var 1) Es.nil)) (Es.cons (.cmp .eq (.var 1) (.cst (.int 1))) (Es.cons (.cst (.int 0)) (Es.cons (.call f9 (Es.cons (.var 0) Es.nil)) Es.nil))))))) (.call f5 (Es.cons (.var 0) (Es.cons (.cst (.int 6)) Es.nil)))))
    Ss.nil) Ss.nil)
    (Ss.cons (.ret (.call f9 (Es.cons (.var 0) Es.nil)))
    Ss.nil))))⟩
def n10 : List Str := ["_law_deck_here", "_law_thing", "_law_deep", "_law_at"]

theorem nice_cut {M k : Nat} {l : List Val} (h : ∀ v ∈ l, nice M k v = true) (lo hi : Option Int) : ∀ v ∈ cut l lo hi, nice M k v = true := fun v hv => h v (List.mem_of_mem_drop (List.mem_of_mem_take hv))
theorem szL_cut (l : List Val) (lo hi : Option Int) : szL (cut l lo hi) ≤ szL l := by
  unfold cut
  have a := szL_split (l.drop (six l.length 0 lo)) (six l.length l.length hi - six l.length 0 lo)
  have b := szL_split l (six l.length 0 lo)
  omega
section
variable {P : Nat → Option MDef} {fuel d base : Nat} {r : MH} {n m : Int} {h : MH} {Q : Val → MH → Prop}
theorem DH.odd (h5 : P 5 = some d5) (h9 : P 9 = some d9) (hf : 70 ≤ fuel) (D : DH r n h) (hn : n ≤ 2 ^ 50) (k : ∀ h' v, DH r (n + 1) h' → nice (10 ^ 30) 2 v = true → sz v ≤ 3 → Q v h') : Rn (callM P fuel (d + 2) base 9 [.ref 1] h) Q := by
  refine Rn_callD D h9 rfl rfl fun C cc cb cf => ?_
  simp only [d9]
  exists "v", [cc]
  refine DH.next h5 hf D hn (by decide) (by decide) fun h' x D1 a b => ?_
  exists "v"
  refine Rn_pick a b fun v hv => ?_
  have hn : nice (10 ^ 30) 2 v = true ∧ sz v ≤ 3 := by
    clear D1 a b
    revert v
    decide +kernel
  exact endD (dle_up (by decide) (nice_dle hn.1)) D1 fun h' D' => k h' v D' hn.1 hn.2
theorem itr_tupM {M k : Nat} {l : List Val} (h : itr M (k + 1) (.tup l) = true) : ∀ v ∈ l, itr M k v = true := List.all_eq_true.mp h
theorem itr_up {M : Nat} : ∀ {k k' : Nat} {v : Val}, k ≤ k' → itr M k v = true → itr M k' v = true
  | k, k', .int i, _, h => by
    have h : i.natAbs ≤ M := by cases k <;> exact of_decide_eq_true h
    cases k' <;> exact decide_eq_true h
  | 0, 0, .tup l, _, h => h
  | 0, k' + 1, .tup l, _, h => by
    have : l = [] := List.isEmpty_iff.mp h
    subst this; rfl
  | k + 1, k' + 1, .tup l, e, h => by
    simp only [itr, List.all_eq_true] at h ⊢
    exact fun v hv => itr_up (by omega) (h v hv)
  | k, _, .non, _, h => by cases k <;> cases h
  | k, _, .bl _, _, h => by cases k <;> cases h
  | k, _, .str _, _, h => by cases k <;> cases h
  | k, _, .dct0, _, h => by cases k <;> cases h
  | k, _, .lst _, _, h => by cases k <;> cases h
  | k, _, .scr _, _, h => by cases k <;> cases h
  | k, _, .ref _, _, h => by cases k <;> cases h
theorem digits_ok {i : Int} : (Str.ofString (toString i)).cps.toList.all (fun c => decide (c < 16 ^ 8)) = true ∧ PyData.strOk (Str.ofString (toString i)) = true := by
  have h : ∀ c ∈ (Str.ofString (toString i)).cps.toList, c < 0x110000 := by
    intro c hc
    rw [Str.ofString_eq_toList] at hc
    obtain ⟨x, _, rfl⟩ := List.mem_map.mp hc
    have := x.valid
    simp only [UInt32.isValidChar, Nat.isValidChar] at this
    show x.val.toNat < _
    omega
  refine ⟨List.all_eq_true.mpr fun c hc => decide_eq_true (Nat.lt_of_lt_of_le (h c hc) (by decide)), ?_⟩
  unfold PyData.strOk
  rw [← Array.all_toList]
  exact List.all_eq_true.mpr fun c hc => decide_eq_true (h c hc)
theorem cut_len (l : List Val) (lo hi : Option Int) : (cut l lo hi).length ≤ l.length := by
  unfold cut
  rw [List.length_take, List.length_drop]
  omega
theorem DH.bent (h5 : P 5 = some d5) (h9 : P 9 = some d9) (h10 : P 10 = some d10) (hf : 70 ≤ fuel) : ∀ (deep : Nat) {k d : Nat} {v : Val} {base : Nat} {n : Int} {h : MH} {Q : Val → MH → Prop}, DH r n h → n + 10 * (deep + 1) ≤ 2 ^ 50 → itr (10 ^ 30) (k + 1) v = true → k + deep + 4 ≤ 60 → sz v ≤ 1000 →
    (∀ h' u, DH r (n + 10 * (deep + 1)) h' → nice (10 ^ 31) (k + deep + 3) u = true → sz u ≤ sz v + sz v + 100 → Q u h') → Rn (callM P fuel (d + deep + 3) base 10 [.ref 1, v, .int deep] h) Q
  | deep, k, d, v, base, n, h, Q, D, hn, hv, hk, hs, q => by
    refine Rn_callD D h10 rfl rfl fun C cc cb cf => ?_
    simp only [d10]
    have fin : ∀ (u : Val) (h1 : MH) (n1 : Int), DH r n1 h1 → n1 ≤ n + 10 * (deep + 1) → nice (10 ^ 31) (k + deep + 3) u = true → sz u ≤ sz v + sz v + 100 → dle 60 u = true ∧ ∃ s m, DH (r ++ s) m h1 ∧ ∀ (h' : MH), DH r m h' → Q u h' :=
      fun u h1 n1 D1 e a b => endD (dle_up (by omega) (nice_dle a)) D1 fun h' D2 => q h' u (D2.up e) a b
    cases v with
    | tup l =>
      have hl1 := szL_len l
      have hs' : 1 + szL l ≤ 1000 := hs
      have hnl : ∀ u ∈ l, nice (10 ^ 31) (k + deep + 2) u = true := fun u hu => nice_up (by decide) (by omega) (itr_nice (itr_tupM hv u hu))
      have hN : ∀ {m : List Val}, (∀ u ∈ m, nice (10 ^ 31) (k + deep + 2) u = true) → nice (10 ^ 31) (k + deep + 3) (.tup m) = true := fun h => nice_tup h
      have R : ∀ (h1 : MH) (n1 : Int), DH r n1 h1 → n1 ≤ n + 1 → Rn (callM P fuel (d + deep + 2) (List.length r + 2) f9 [Val.ref 1] h1) fun v h => Rn (callM P fuel (d + deep + 2) (List.length r + 2) f5 [Val.ref 1, Val.int 5] h) fun y h => Rn (ofO (intV y) h) fun j h =>
          Rn (ofO (ixv [Val.tup (MP.cut l (some 1) none), Val.tup (l ++ MP.cut l (some (-1)) none), Val.tup l.reverse, Val.lst l, v] j) h) fun v h => dle 60 v = true ∧ ∃ s m, DH (r ++ s) m h ∧ ∀ (h' : MH), DH r m h' → Q v h' := by
        intro h1 n1 D1 e1
        refine DH.odd h5 h9 hf D1 (by omega) fun h2 v D2 nv sv => ?_
        refine DH.next h5 hf D2 (by omega) (by omega) (by omega) fun h3 x D3 a3 b3 => ?_
        exists "v"
        refine Rn_pick a3 b3 fun u hu => ?_
        have c1 := szL_cut l (some 1) none
        have c2 := szL_cut l (some (-1)) none
        refine fin u h3 _ D3 (by omega) ?_ ?_
        · simp only [List.mem_cons, List.not_mem_nil, or_false] at hu
          rcases hu with rfl | rfl | rfl | rfl | rfl
          · exact hN fun u hu => nice_cut hnl _ _ u hu
          · exact hN fun u hu => (List.mem_append.mp hu).elim (hnl u) (nice_cut hnl _ _ u)
          · exact hN fun u hu => hnl u (List.mem_reverse.mp hu)
          · exact nice_lst hnl
          · exact nice_up (by decide) (by omega) nv
        · simp only [List.mem_cons, List.not_mem_nil, or_false] at hu
          rcases hu with rfl | rfl | rfl | rfl | rfl <;> simp only [sz, szL_app, szL_rev] <;> omega
      have hc := cut_len l (some (-1)) none
      exists "v", [cc]
      by_cases hl : l = []
      · subst hl
        exists "v", [List.isEmpty_nil]
        exists "s"
        exact R h n D (by omega)
      · have hle : l.isEmpty = false := by cases l <;> first | rfl | exact absurd rfl hl
        have hlp : 0 < l.length := List.length_pos_iff.mpr hl
        exists "v", [hle]
        cases deep with
        | zero =>
          exists "v", [show ¬ (0 : Int) < ((0 : Nat) : Int) by decide]
          exists "s"
          exact R h n D (by omega)
        | succ deep =>
          rw [if_pos (by omega)]
          refine DH.next h5 hf D (by omega) (by omega) (by omega) fun h1 x D1 a1 b1 => ?_
          exists "v"
          by_cases hx : 0 < x
          · exists "v", [hx]
            refine DH.next h5 hf D1 (by omega) (by omega) (by omega) fun h2 at_ D2 a2 b2 => ?_
            exists "v"
            refine Rn_pickI a2 b2 fun jj u ej eu => ?_
            have hu := List.mem_of_getElem? eu
            have hsu := szL_mem hu
            rw [show (deep : Int) + 1 - 1 = deep by omega, show d + (deep + 1) + 2 = d + deep + 3 by omega]
            have hiu := itr_tupM hv u hu
            have c1 := szL_cut l none (some at_)
            have c2 := szL_cut l (some (at_ + 1)) none
            have c3 := cut_len l none (some at_)
            have c4 := cut_len l (some (at_ + 1)) none
            have F : ∀ h' w, DH r (n + 1 + 1 + 10 * (deep + 1)) h' → nice (10 ^ 31) (k + (deep + 1) + 2) w = true → sz w ≤ sz u + sz u + 100 → (MP.cut l none (some at_)).length ≤ 16777215 ∧ (MP.cut l none (some at_) ++ [w]).length + (MP.cut l (some (at_ + 1)) none).length ≤ 16777216 ∧
                dle 60 (Val.tup (MP.cut l none (some at_) ++ [w] ++ MP.cut l (some (at_ + 1)) none)) = true ∧ ∃ s m, DH (r ++ s) m h' ∧ ∀ (h'' : MH), DH r m h'' → Q (Val.tup (MP.cut l none (some at_) ++ [w] ++ MP.cut l (some (at_ + 1)) none)) h'' := by
              intro h' w D3 nw sw
              refine ⟨by omega, by rw [List.length_append]; simp only [List.length_cons, List.length_nil]; omega, fin _ h' _ D3 (by omega) (hN fun y hy => ?_) ?_⟩
              · rcases List.mem_append.mp hy with hy | hy
                · rcases List.mem_append.mp hy with hy | hy
                  · exact nice_cut hnl _ _ y hy
                  · rw [List.mem_singleton.mp hy]; exact nw
                · exact nice_cut hnl _ _ y hy
              · have : szL (MP.cut l none (some at_)) + szL (MP.cut l (some (at_ + 1)) none) + sz u ≤ szL l := by
                  subst ej
                  rw [cut_to _ a2, cut_from _ (by omega), Int.toNat_natCast, show ((jj : Int) + 1).toNat = jj + 1 by omega]
                  have := szL_at eu
                  omega
                simp only [sz, szL_app, szL]
                omega
            cases k with
            | zero => exact DH.bent h5 h9 h10 hf deep (k := 0) D2 (by omega) (itr_up (by omega) hiu) (by omega) (by omega) fun h' w D3 nw sw => F h' w D3 (nice_up (Nat.le_refl _) (by omega) nw) sw
            | succ k => exact DH.bent h5 h9 h10 hf deep (k := k) D2 (by omega) hiu (by omega) (by omega) fun h' w D3 nw sw => F h' w D3 (nice_up (Nat.le_refl _) (by omega) nw) sw
          · exists "v", [hx]
            exists "s"
            exact R h1 _ D1 (by omega)
    | int i =>
      have hi : i.natAbs ≤ 10 ^ 30 := of_decide_eq_true hv
      exists "v", [cc]
      refine ⟨Nat.lt_of_le_of_lt hi (by decide +kernel), ?_⟩
      refine DH.odd h5 h9 hf D (by omega) fun h2 v D2 nv sv => ?_
      refine DH.next h5 hf D2 (by omega) (by omega) (by omega) fun h3 x D3 a3 b3 => ?_
      exists "v"
      refine Rn_pick a3 b3 fun u hu => ?_
      have ht := int_text_length_le10 (a := i) (k := 31) (by decide) (by omega)
      refine fin u h3 _ D3 (by omega) ?_ ?_
      · simp only [List.mem_cons, List.not_mem_nil, or_false] at hu
        rcases hu with rfl | rfl | rfl | rfl | rfl | rfl
        · exact nice_int (by omega)
        · exact nice_int (by omega)
        · have := digits_ok (i := i)
          simp only [nice, this.1, this.2, Bool.and_self]
        · rfl
        · exact nice_int (by omega)
        · exact nice_up (by decide) (by omega) nv
      · simp only [List.mem_cons, List.not_mem_nil, or_false] at hu
        rcases hu with rfl | rfl | rfl | rfl | rfl | rfl <;> simp only [sz, ofString_length] <;> omega
    | _ => cases hv
end
theorem lits_new (h : MH) (l : List Val) : lits (.ref h.length) (h ++ [.lst l]) = some l := by simp [lits]
theorem set_new (h : MH) (c c' : Cell) : List.set (h ++ [c]) h.length c' = h ++ [c'] := by simp
theorem sits_new (h : MH) (l : List Val) : sits (.ref h.length) (h ++ [.lst l]) = some l := by simp [sits, lits]
theorem q_addR {n : Nat} {l y : List Val} {h : MH} (e : lits (.ref n) h = some l) : bin .add (.ref n) (.lst y) h = some (.nl (l ++ y)) := by
  show (match lits (.ref n) h, lits (.lst y) h with | some x, some y => some (RV.nl (x ++ y)) | _, _ => none) = _
  rw [e]
  rfl
/-- data of a law's own: bounded in all -/
def Gd (k S : Nat) (u : Val) : Prop := nice (10 ^ 60) k u = true ∧ sz u ≤ S
theorem Gd.up {k k' S S' : Nat} {u : Val} (h : Gd k S u) (a : k ≤ k') (b : S ≤ S') : Gd k' S' u := ⟨nice_up (Nat.le_refl _) a h.1, Nat.le_trans h.2 b⟩
theorem Gd.int {k S : Nat} {i : Int} (h : i.natAbs ≤ 10 ^ 60) (hS : 1 ≤ S) : Gd k S (.int i) := ⟨nice_int h, hS⟩
theorem Gd.bl {k S : Nat} {i : Bool} (hS : 1 ≤ S) : Gd k S (.bl i) := ⟨by cases k <;> rfl, hS⟩
theorem szL_le {S : Nat} : ∀ {l : List Val}, (∀ u ∈ l, sz u ≤ S) → szL l ≤ S * l.length
  | [], _ => Nat.zero_le _
  | v :: l, h => by
    have := szL_le (l := l) fun u hu => h u (List.mem_cons_of_mem _ hu)
    have := h v List.mem_cons_self
    simp only [szL, List.length_cons, Nat.mul_add]
    omega
theorem Gd.tup {k S n : Nat} {l : List Val} (h : ∀ u ∈ l, Gd k S u) (hn : l.length ≤ n) : Gd (k + 1) (1 + S * n) (.tup l) :=
  ⟨nice_tup fun u hu => (h u hu).1, by have := szL_le fun u hu => (h u hu).2; have := Nat.mul_le_mul_left S hn; simp only [sz]; omega⟩
theorem Gd.lst {k S n : Nat} {l : List Val} (h : ∀ u ∈ l, Gd k S u) (hn : l.length ≤ n) : Gd (k + 1) (1 + S * n) (.lst l) :=
  ⟨nice_lst fun u hu => (h u hu).1, by have := szL_le fun u hu => (h u hu).2; have := Nat.mul_le_mul_left S hn; simp only [sz]; omega⟩
theorem Gd.dle {k S : Nat} {u : Val} (h : Gd k S u) (hk : k ≤ 60) : dle 60 u = true := dle_up hk (nice_dle h.1)
theorem Gd.repr {k S : Nat} {u : Val} {h : MH} (g : Gd k S u) (hk : k ≤ 60) (hS : S ≤ 100000) : bi .repr [u] h = some (.v (.str (toD u).shown)) := nice_repr (M := 10 ^ 60) (by decide) hk g.1 (Nat.le_trans g.2 hS)
theorem Rn_compMap {f : Val → MH → Res (Option Val)} (p : Val → Val) {h : MH} {Q : List Val → MH → Prop} {l : List Val} (k : ∀ x ∈ l, Rn (f x h) fun y h' => y = some (p x) ∧ h' = h) (q : Q (l.map p) h) : Rn (compLoop f l h) Q :=
  Rn_compP (fun x => some (p x)) k (by rw [List.filterMap_eq_map']; exact q)
theorem filterMap_fil (p : Val → Bool) (l : List Val) : l.filterMap (fun x => if p x = true then some x else none) = l.filter p := by
  induction l with
  | nil => rfl
  | cons u l ih => cases e : p u <;> simp [e, ih]
theorem Rn_compFil {f : Val → MH → Res (Option Val)} (p : Val → Bool) {h : MH} {Q : List Val → MH → Prop} {l : List Val} (k : ∀ x ∈ l, Rn (f x h) fun y h' => y = (if p x = true then some x else none) ∧ h' = h) (q : Q (l.filter p) h) : Rn (compLoop f l h) Q :=
  Rn_compP (fun x => if p x = true then some x else none) k (by rw [filterMap_fil]; exact q)
theorem dle_tup60 {l : List Val} (h : dle 60 (.tup l) = true) : ∀ u ∈ l, dle 60 u = true := fun u hu => dle_up (k := 59) (by omega) (List.all_eq_true.mp (show l.all (dle 59) = true from h) u hu)
theorem dle_lst60 {l : List Val} (h : dle 60 (.lst l) = true) : ∀ u ∈ l, dle 60 u = true := fun u hu => dle_up (k := 59) (by omega) (List.all_eq_true.mp (show l.all (dle 59) = true from h) u hu)
theorem fromB_int {v : Val} {lo hi : Int} (h : fromB v lo hi = true) : ∃ i, v = .int i ∧ lo ≤ i ∧ i ≤ hi := by
  cases v with
  | int i => simp only [fromB, Bool.and_eq_true, decide_eq_true_eq] at h; exact ⟨i, rfl, h⟩
  | _ => cases h
theorem wholeB_int {v : Val} (h : wholeB v = true) : ∃ i, v = .int i := by
  cases v <;> first | exact ⟨_, rfl⟩ | cases h
theorem fromB_whole {v : Val} {lo hi : Int} (h : wholeB v = false) : fromB v lo hi = false := by
  cases v <;> first | rfl | cases h
theorem len2 {l : List Val} (h : (l.length : Int) = 2) : ∃ a b, l = [a, b] := by
  match l, h with
  | [a, b], _ => exact ⟨a, b, rfl⟩
  | [], h => simp at h
  | [_], h => simp at h
  | _ :: _ :: _ :: _, h => simp only [List.length_cons] at h; omega
theorem len3 {l : List Val} (h : (l.length : Int) = 3) : ∃ a b c, l = [a, b, c] := by
  match l, h with
  | [a, b, c], _ => exact ⟨a, b, c, rfl⟩
  | [], h => simp at h
  | [_], h => simp at h
  | [_, _], h => simp at h
  | _ :: _ :: _ :: _ :: _, h => simp only [List.length_cons] at h; omega
theorem sz_tup_len {l : List Val} {n : Nat} (h : sz (.tup l) ≤ n) : l.length ≤ n := by have := szL_len l; simp only [sz] at h; omega
theorem map_bl (p : Val → Bool) (l : List Val) : blsOf (l.map fun u => .bl (p u)) = some (l.map p) := by
  induction l with
  | nil => rfl
  | cons u l ih => rw [List.map_cons, blsOf, ih]; rfl
theorem all_id (p : Val → Bool) (l : List Val) : (l.map p).all id = l.all p := by rw [List.all_map]; rfl
theorem fromB_i (k lo hi : Int) : fromB (.int k) lo hi = (decide (lo ≤ k) && decide (k ≤ hi)) := rfl
theorem rep_mem {l : List Val} {k : Int} {u : Val} (h : u ∈ rep l k) : u ∈ l := by
  unfold rep at h
  obtain ⟨m, hm, hu⟩ := List.mem_flatten.mp h
  rw [(List.mem_replicate.mp hm).2] at hu
  exact hu
theorem cut_mem {l : List Val} {lo hi : Option Int} {u : Val} (h : u ∈ cut l lo hi) : u ∈ l := List.mem_of_mem_drop (List.mem_of_mem_take h)
theorem cut_to_len (l : List Val) {f : Int} (h : 0 ≤ f) : (cut l none (some f)).length ≤ f.toNat := by
  rw [cut_to _ h, List.length_take]; omega
theorem Gd.ints {l : List Int} (h : ∀ i ∈ l, i.natAbs ≤ 10 ^ 60) : ∀ u ∈ l.map Val.int, Gd 0 1 u := by
  intro u hu
  obtain ⟨i, hi, rfl⟩ := List.mem_map.mp hu
  exact Gd.int (h i hi) (by decide)
theorem Gd.tup1 {k S : Nat} {a : Val} (ha : Gd k S a) : Gd (k + 1) (1 + S * 1) (.tup [a]) := Gd.tup (n := 1) (fun u hu => by
  simp only [List.mem_cons, List.not_mem_nil, or_false] at hu
  subst hu
  exact ha) (by simp)
theorem Gd.lst1 {k S : Nat} {a : Val} (ha : Gd k S a) : Gd (k + 1) (1 + S * 1) (.lst [a]) := Gd.lst (n := 1) (fun u hu => by
  simp only [List.mem_cons, List.not_mem_nil, or_false] at hu
  subst hu
  exact ha) (by simp)
theorem Gd.tup2 {k S : Nat} {a b : Val} (ha : Gd k S a) (hb : Gd k S b) : Gd (k + 1) (1 + S * 2) (.tup [a, b]) := Gd.tup (n := 2) (fun u hu => by
  simp only [List.mem_cons, List.not_mem_nil, or_false] at hu
  rcases hu with rfl | rfl
  · exact ha
  · exact hb) (by simp)
theorem Gd.lst2 {k S : Nat} {a b : Val} (ha : Gd k S a) (hb : Gd k S b) : Gd (k + 1) (1 + S * 2) (.lst [a, b]) := Gd.lst (n := 2) (fun u hu => by
  simp only [List.mem_cons, List.not_mem_nil, or_false] at hu
  rcases hu with rfl | rfl
  · exact ha
  · exact hb) (by simp)
theorem Gd.tup3 {k S : Nat} {a b c : Val} (ha : Gd k S a) (hb : Gd k S b) (hc : Gd k S c) : Gd (k + 1) (1 + S * 3) (.tup [a, b, c]) := Gd.tup (n := 3) (fun u hu => by
  simp only [List.mem_cons, List.not_mem_nil, or_false] at hu
  rcases hu with rfl | rfl | rfl
  · exact ha
  · exact hb
  · exact hc) (by simp)
theorem Gd.lst3 {k S : Nat} {a b c : Val} (ha : Gd k S a) (hb : Gd k S b) (hc : Gd k S c) : Gd (k + 1) (1 + S * 3) (.lst [a, b, c]) := Gd.lst (n := 3) (fun u hu => by
  simp only [List.mem_cons, List.not_mem_nil, or_false] at hu
  rcases hu with rfl | rfl | rfl
  · exact ha
  · exact hb
  · exact hc) (by simp)
theorem Gd.tup4 {k S : Nat} {a b c d : Val} (ha : Gd k S a) (hb : Gd k S b) (hc : Gd k S c) (hd : Gd k S d) : Gd (k + 1) (1 + S * 4) (.tup [a, b, c, d]) := Gd.tup (n := 4) (fun u hu => by
  simp only [List.mem_cons, List.not_mem_nil, or_false] at hu
  rcases hu with rfl | rfl | rfl | rfl
  · exact ha
  · exact hb
  · exact hc
  · exact hd) (by simp)
theorem Gd.lst4 {k S : Nat} {a b c d : Val} (ha : Gd k S a) (hb : Gd k S b) (hc : Gd k S c) (hd : Gd k S d) : Gd (k + 1) (1 + S * 4) (.lst [a, b, c, d]) := Gd.lst (n := 4) (fun u hu => by
  simp only [List.mem_cons, List.not_mem_nil, or_false] at hu
  rcases hu with rfl | rfl | rfl | rfl
  · exact ha
  · exact hb
  · exact hc
  · exact hd) (by simp)
/-- a list of such data -/
def GL (k S : Nat) (l : List Val) : Prop := (∀ u ∈ l, nice (10 ^ 60) k u = true) ∧ szL l ≤ S
theorem GL.nil {k : Nat} : GL k 0 [] := ⟨(fun _ z => nomatch z), Nat.zero_le _⟩
theorem GL.cons {k S S' : Nat} {u : Val} {l : List Val} (h : Gd k S u) (h' : GL k S' l) : GL k (S + S') (u :: l) :=
  ⟨fun v hv => (List.mem_cons.mp hv).elim (fun e => e ▸ h.1) (h'.1 v), by have := h.2; have := h'.2; simp only [szL]; omega⟩
theorem GL.app {k S S' : Nat} {l l' : List Val} (h : GL k S l) (h' : GL k S' l') : GL k (S + S') (l ++ l') :=
  ⟨fun v hv => (List.mem_append.mp hv).elim (h.1 v) (h'.1 v), by have := h.2; have := h'.2; rw [szL_app]; omega⟩
theorem GL.up {k k' S S' : Nat} {l : List Val} (h : GL k S l) (a : k ≤ k') (b : S ≤ S') : GL k' S' l := ⟨fun v hv => nice_up (Nat.le_refl _) a (h.1 v hv), Nat.le_trans h.2 b⟩
theorem GL.all {k S n : Nat} {l : List Val} (h : ∀ u ∈ l, Gd k S u) (hn : l.length ≤ n) : GL k (S * n) l :=
  ⟨fun u hu => (h u hu).1, by have := szL_le fun u hu => (h u hu).2; have := Nat.mul_le_mul_left S hn; omega⟩
theorem GL.lst {k S : Nat} {l : List Val} (h : GL k S l) : Gd (k + 1) (1 + S) (.lst l) := ⟨nice_lst h.1, by have := h.2; simp only [sz]; omega⟩
theorem GL.tup {k S : Nat} {l : List Val} (h : GL k S l) : Gd (k + 1) (1 + S) (.tup l) := ⟨nice_tup h.1, by have := h.2; simp only [sz]; omega⟩
theorem GL.mem {k S : Nat} {l : List Val} (h : GL k S l) {u : Val} (hu : u ∈ l) : Gd k S u := ⟨h.1 u hu, Nat.le_trans (szL_mem hu) h.2⟩
theorem GL.len {k S : Nat} {l : List Val} (h : GL k S l) : l.length ≤ S := Nat.le_trans (szL_len l) h.2
theorem GL.cut {k S : Nat} {l : List Val} (h : GL k S l) (lo hi : Option Int) : GL k S (cut l lo hi) := ⟨fun u hu => h.1 u (cut_mem hu), Nat.le_trans (szL_cut _ _ _) h.2⟩
theorem Gd.ofTup {k S : Nat} {l : List Val} (h : Gd k S (.tup l)) : GL (k - 1) S l := ⟨nice_tupM h.1, by have := h.2; simp only [sz] at this; omega⟩
theorem rep_len (l : List Val) (k : Int) : (rep l k).length = k.toNat * l.length := by
  unfold rep
  induction k.toNat with
  | zero => simp
  | succ n ih => rw [List.replicate_succ, List.flatten_cons, List.length_append, ih, Nat.succ_mul, Nat.add_comm]
end MP

set_option maxHeartbeats 4000000
/-! MiniX: deeds and plans by their form. -/
namespace MP
open PySem
set_option hygiene false in
local macro_rules
  | `(tactic| exists "w") => `(tactic| try simp (maxSteps := 2000000) only [Rn_bind, Rn_ok, Rn_some, Rn_og, Rn_obind, Rn_omap, wps, qs, List.getElem?_cons_zero, List.getElem?_cons_succ, Option.some.injEq, exists_eq_left', List.set_cons_zero, List.set_cons_succ, List.map_cons, List.map_nil, List.replicate, List.cons_append, List.nil_append, wipeE, List.foldr, retV, if_true, Bool.not_true, Bool.not_false, Bool.false_eq_true, if_false, decide_eq_true_eq])
  | `(tactic| exists "w", [$ts,*]) => `(tactic| try simp (maxSteps := 2000000) only [Rn_bind, Rn_ok, Rn_some, Rn_og, Rn_obind, Rn_omap, wps, qs, List.getElem?_cons_zero, List.getElem?_cons_succ, Option.some.injEq, exists_eq_left', List.set_cons_zero, List.set_cons_succ, List.map_cons, List.map_nil, List.replicate, List.cons_append, List.nil_append, wipeE, List.foldr, retV, if_true, Bool.not_true, Bool.not_false, Bool.false_eq_true, if_false, decide_eq_true_eq, $[$ts:term],*])
  | `(tactic| exists "v") => `(tactic| try simp (maxSteps := 2000000) only [Rn_bind, Rn_ok, Rn_some, Rn_og, Rn_obind, Rn_omap, wps, qs, List.getElem?_cons_zero, List.getElem?_cons_succ, Option.some.injEq, exists_eq_left', List.set_cons_zero, List.set_cons_succ, List.map_cons, List.map_nil, List.replicate, List.cons_append, List.nil_append, wipeE, List.foldr, retV, if_true, Bool.not_true, Bool.not_false, Bool.false_eq_true, if_false, decide_eq_true_eq, qt, q_mulL, List.foldl_cons, List.foldl_nil, List.zip_cons_cons, List.zip_nil_right, isTL, Rn_stuck, ite_stuck, not_true_eq_false, not_false_eq_true, Bool.not_eq_true, Bool.not_eq_false, decide_eq_false_iff_not, beq_self_eq_true, Bool.or_false, Bool.false_or, Bool.or_self, Bool.and_self, Bool.and_true, Bool.true_and, Bool.false_and, Bool.and_false, Bool.or_true, Bool.true_or, decide_true, decide_false, Bool.true_eq_false, List.take_length, List.length_map, Val.bl.injEq, ite_self, List.length_cons, List.length_nil, Nat.reduceAdd, Nat.reduceMul, Nat.reduceSub, Nat.reducePow, Nat.reduceLT, Nat.reduceLeDiff, Int.reducePow, Int.reduceToNat, Int.reduceAdd, Int.reduceMul, Int.reduceSub, Int.reduceNeg, Int.reduceLT, Int.reduceLE, Int.reduceAbs, Int.reduceEq, Int.reduceNe, Int.cast_ofNat_Int, SZv, and_self, true_and, and_true, Nat.zero_le, or_true, true_or, Nat.zero_add, Int.natCast_add, Int.natCast_one, ge_iff_le, gt_iff_lt])
  | `(tactic| exists "v", [$ts,*]) => `(tactic| try simp (maxSteps := 2000000) only [Rn_bind, Rn_ok, Rn_some, Rn_og, Rn_obind, Rn_omap, wps, qs, List.getElem?_cons_zero, List.getElem?_cons_succ, Option.some.injEq, exists_eq_left', List.set_cons_zero, List.set_cons_succ, List.map_cons, List.map_nil, List.replicate, List.cons_append, List.nil_append, wipeE, List.foldr, retV, if_true, Bool.not_true, Bool.not_false, Bool.false_eq_true, if_false, decide_eq_true_eq, qt, q_mulL, List.foldl_cons, List.foldl_nil, List.zip_cons_cons, List.zip_nil_right, isTL, Rn_stuck, ite_stuck, not_true_eq_false, not_false_eq_true, Bool.not_eq_true, Bool.not_eq_false, decide_eq_false_iff_not, beq_self_eq_true, Bool.or_false, Bool.false_or, Bool.or_self, Bool.and_self, Bool.and_true, Bool.true_and, Bool.false_and, Bool.and_false, Bool.or_true, Bool.true_or, decide_true, decide_false, Bool.true_eq_false, List.take_length, List.length_map, Val.bl.injEq, ite_self, List.length_cons, List.length_nil, Nat.reduceAdd, Nat.reduceMul, Nat.reduceSub, Nat.reducePow, Nat.reduceLT, Nat.reduceLeDiff, Int.reducePow, Int.reduceToNat, Int.reduceAdd, Int.reduceMul, Int.reduceSub, Int.reduceNeg, Int.reduceLT, Int.reduceLE, Int.reduceAbs, Int.reduceEq, Int.reduceNe, Int.cast_ofNat_Int, SZv, and_self, true_and, and_true, Nat.zero_le, or_true, true_or, Nat.zero_add, Int.natCast_add, Int.natCast_one, ge_iff_le, gt_iff_lt, $[$ts:term],*])
  | `(tactic| exists "v*", [$ts,*]) => `(tactic| try simp (maxSteps := 2000000) only [Rn_bind, Rn_ok, Rn_some, Rn_og, Rn_obind, Rn_omap, wps, qs, List.getElem?_cons_zero, List.getElem?_cons_succ, Option.some.injEq, exists_eq_left', List.set_cons_zero, List.set_cons_succ, List.map_cons, List.map_nil, List.replicate, List.cons_append, List.nil_append, wipeE, List.foldr, retV, if_true, Bool.not_true, Bool.not_false, Bool.false_eq_true, if_false, decide_eq_true_eq, qt, q_mulL, List.foldl_cons, List.foldl_nil, List.zip_cons_cons, List.zip_nil_right, isTL, Rn_stuck, ite_stuck, not_true_eq_false, not_false_eq_true, Bool.not_eq_true, Bool.not_eq_false, decide_eq_false_iff_not, beq_self_eq_true, Bool.or_false, Bool.false_or, Bool.or_self, Bool.and_self, Bool.and_true, Bool.true_and, Bool.false_and, Bool.and_false, Bool.or_true, Bool.true_or, decide_true, decide_false, Bool.true_eq_false, List.take_length, List.length_map, Val.bl.injEq, ite_self, List.length_cons, List.length_nil, Nat.reduceAdd, Nat.reduceMul, Nat.reduceSub, Nat.reducePow, Nat.reduceLT, Nat.reduceLeDiff, Int.reducePow, Int.reduceToNat, Int.reduceAdd, Int.reduceMul, Int.reduceSub, Int.reduceNeg, Int.reduceLT, Int.reduceLE, Int.reduceAbs, Int.reduceEq, Int.reduceNe, Int.cast_ofNat_Int, SZv, and_self, true_and, and_true, Nat.zero_le, or_true, true_or, Nat.zero_add, Int.natCast_add, Int.natCast_one, ge_iff_le, gt_iff_lt, $[$ts:term],*, *])
  | `(tactic| exists "sd") => `(tactic| first | decide | omega | (simp only [List.length_cons, List.length_nil, List.length_map, List.length_append, SZv]; omega) | (constructor <;> exists "sd"))
  | `(tactic| exists "s") => `(tactic| repeat (refine And.intro (by exists "sd") ?_))
  | `(tactic| exists "nx", $D, $D1:ident, $x:ident, $a:ident, $b:ident) => `(tactic| refine DH.next H.h5 hf $D (by omega) (by omega) (by omega) fun h' $x $D1 $a $b => ?_)

/-! end of words -/
/-- is_deed -/
abbrev f48 : Nat := 48
def d48 : MDef := ⟨false, 2, 1, (Ss.cons (.iff (.bop false (Es.cons (.not (.isi [.tuple] (.var 1))) (Es.cons (.cmp .ne (.cb .len false (Es.cons (.var 1) Es.nil)) (.cst (.int 3))) (Es.cons (.not (.call f2 (Es.cons (.idx (.var 1) (.cst (.int 0))) (Es.cons (.cst (.int 0)) (Es.cons (.bin .sub false (.idx (.var 0) (.cst (.int 1))) (.cst (.int 1))) Es.nil))))) Es.nil)))) (Ss.cons (.ret (.cst (.bl false)))
    Ss.nil) Ss.nil)
    (Ss.cons (.asg (.nm 2) (.bin .sub false (.cb .len false (Es.cons (.idx (.var 0) (.cst (.int 0))) Es.nil)) (.cst (.int 1))))
    (Ss.cons (.ret (.bop true (Es.cons (.call f2 (Es.cons (.idx (.var 1) (.cst (.int 1))) (Es.cons (.cst (.int 0)) (Es.cons (.var 2) Es.nil)))) (Es.cons (.call f2 (Es.cons (.idx (.var 1) (.cst (.int 2))) (Es.cons (.cst (.int 0)) (Es.cons (.var 2) Es.nil)))) (Es.cons (.cmp .ne (.idx (.var 1) (.cst (.int 1))) (.idx (.var 1) (.cst (.int 2)))) Es.nil)))))
    Ss.nil)))⟩
def n48 : List Str := ["house", "thing", "last"]
/-- is_plan_row -/
abbrev f57 : Nat := 57
def d57 : MDef := ⟨false, 2, 1, (Ss.cons (.iff (.bop false (Es.cons (.not (.isi [.tuple] (.var 1))) (Es.cons (.cmp .ne (.cb .len false (Es.cons (.var 1) Es.nil)) (.cst (.int 2))) (Es.cons (.not (.call f2 (Es.cons (.idx (.var 1) (.cst (.int 0))) (Es.cons (.cst (.int 1)) (Es.cons (.glb "GREAT" (.int 1000000000000)) Es.nil))))) Es.nil)))) (Ss.cons (.ret (.cst (.bl false)))
    Ss.nil) Ss.nil)
    (Ss.cons (.iff (.bop false (Es.cons (.not (.isi [.tuple] (.idx (.var 1) (.cst (.int 1))))) (Es.cons (.not (.cmp2 .le .le (.cst (.int 1)) (.cb .len false (Es.cons (.idx (.var 1) (.cst (.int 1))) Es.nil)) (.glb "STEPS" (.int 20)))) Es.nil))) (Ss.cons (.ret (.cst (.bl false)))
    Ss.nil) Ss.nil)
    (Ss.cons (.ret (.cb .all false (Es.cons (.comp false (.call f48 (Es.cons (.var 0) (Es.cons (.var 2) Es.nil))) (.nm 2) (.val (.idx (.var 1) (.cst (.int 1)))) Es.nil [2]) Es.nil)))
    Ss.nil)))⟩
def n57 : List Str := ["house", "thing", "deed"]
/-- is_plan -/
abbrev f58 : Nat := 58
def d58 : MDef := ⟨false, 2, 1, (Ss.cons (.iff (.bop false (Es.cons (.not (.isi [.tuple] (.var 1))) (Es.cons (.cmp .gt (.cb .len false (Es.cons (.var 1) Es.nil)) (.glb "ROWS" (.int 600))) Es.nil))) (Ss.cons (.ret (.cst (.bl false)))
    Ss.nil) Ss.nil)
    (Ss.cons (.ret (.cb .all false (Es.cons (.comp false (.call f57 (Es.cons (.var 0) (Es.cons (.var 2) Es.nil))) (.nm 2) (.val (.var 1)) Es.nil [2]) Es.nil)))
    Ss.nil))⟩
def n58 : List Str := ["house", "thing", "one"]

section
variable {P : Nat → Option MDef} {fuel d base : Nat}
def deedB (rooms : Nat) (kinds : Int) (v : Val) : Bool := match v with
  | .tup [a, b, c] => fromB a 0 (kinds - 1) && fromB b 0 ((rooms : Int) - 1) && fromB c 0 ((rooms : Int) - 1) && (match b, c with | .int i, .int j => !decide (i = j) | _, _ => false)
  | _ => false
theorem dle_three {a b c : Val} (h : dle 60 (.tup [a, b, c]) = true) : dle 60 a = true ∧ dle 60 b = true ∧ dle 60 c = true := by
  have h : ([a, b, c] : List Val).all (dle 59) = true := h
  simp only [List.all_cons, List.all_nil, Bool.and_true, Bool.and_eq_true] at h
  exact ⟨dle_up (by omega) h.1, dle_up (by omega) h.2.1, dle_up (by omega) h.2.2⟩
theorem deedB_len {rooms : Nat} {kinds : Int} {l : List Val} (h : ¬ (l.length : Int) = 3) : deedB rooms kinds (.tup l) = false := by
  match l, h with
  | [], _ => rfl
  | [_], _ => rfl
  | [_, _], _ => rfl
  | [_, _, _], h => exact absurd rfl h
  | _ :: _ :: _ :: _ :: _, _ => rfl
theorem is_deed_eq (h1 : P 1 = some d1) (h2 : P 2 = some d2) (h48 : P 48 = some d48) {sizes : List Int} {kinds : Int} {v : Val} {h : MH} (hv : dle 60 v = true) : callM P fuel (d + 3) base 48 [hoV sizes kinds, v] h = .ok (.bl (deedB sizes.length kinds v)) h := by
  refine Rn_eq (Rn_callF h48 rfl rfl fun C cc cb cf => ?_)
  simp only [d48, hoV, tI]
  cases v with
  | tup l =>
    exists "v", [cc]
    by_cases hlen : (l.length : Int) = 3
    · obtain ⟨a, b, c, rfl⟩ := len3 hlen
      obtain ⟨ha, hb, hc⟩ := dle_three hv
      exists "v", [is_from_eq h1 h2 ha, is_from_eq h1 h2 hb, is_from_eq h1 h2 hc, deedB]
      cases ea : fromB a 0 (kinds - 1) <;> cases eb : fromB b 0 ((sizes.length : Int) - 1) <;> cases ec : fromB c 0 ((sizes.length : Int) - 1) <;> exists "v"
      obtain ⟨i, rfl, _⟩ := fromB_int eb
      obtain ⟨j, rfl, _⟩ := fromB_int ec
      exists "v"
    · exists "v", [hlen, deedB_len hlen]
  | scr _ => cases hv
  | ref _ => cases hv
  | _ => exists "v", [cc, deedB]

def rowB (rooms : Nat) (kinds : Int) (v : Val) : Bool := match v with
  | .tup [m, .tup ds] => fromB m 1 1000000000000 && decide (1 ≤ (ds.length : Int)) && decide ((ds.length : Int) ≤ 20) && ds.all (deedB rooms kinds)
  | _ => false
def planB (rooms : Nat) (kinds : Int) (v : Val) : Bool := match v with
  | .tup l => decide ((l.length : Int) ≤ 600) && l.all (rowB rooms kinds)
  | _ => false
theorem rowB_len {rooms : Nat} {kinds : Int} {l : List Val} (h : ¬ (l.length : Int) = 2) : rowB rooms kinds (.tup l) = false := by
  match l, h with
  | [], _ => rfl
  | [_], _ => simp [rowB]
  | [_, _], h => exact absurd rfl h
  | _ :: _ :: _ :: _, _ => simp [rowB]
theorem is_plan_row_eq (h1 : P 1 = some d1) (h2 : P 2 = some d2) (h48 : P 48 = some d48) (h57 : P 57 = some d57) {sizes : List Int} {kinds : Int} {v : Val} {h : MH} (hv : dle 60 v = true) : callM P fuel (d + 4) base 57 [hoV sizes kinds, v] h = .ok (.bl (rowB sizes.length kinds v)) h := by
  refine Rn_eq (Rn_callF h57 rfl rfl fun C cc cb cf => ?_)
  simp only [d57]
  cases v with
  | tup l =>
    exists "v", [cc]
    by_cases hlen : (l.length : Int) = 2
    · obtain ⟨a, b, rfl⟩ := len2 hlen
      have hb := dle_tup60 hv b (by simp)
      have ha := dle_tup60 hv a (by simp)
      exists "v", [is_from_eq h1 h2 ha]
      cases ea : fromB a 1 1000000000000 with
      | false => cases b <;> exists "v", [rowB, ea]
      | true =>
        cases b with
        | tup m =>
          have hm := dle_tup60 hb
          by_cases h1' : 1 ≤ (m.length : Int)
          · by_cases h2' : (m.length : Int) ≤ 20
            · exists "v", [rowB, h1', h2', ea]
              refine Rn_compMap (fun u => .bl (deedB sizes.length kinds u)) (fun x hx => ?_) ?_
              · exists "v", [cc, is_deed_eq h1 h2 h48 (hm x hx)]
              · exists "v", [map_bl, all_id]
                omega
            · exists "v", [rowB, h1', h2', ea]
          · exists "v", [rowB, h1', ea]
        | scr _ => cases hb
        | ref _ => cases hb
        | _ => exists "v", [rowB, ea]
    · exists "v", [hlen, rowB_len hlen]
  | scr _ => cases hv
  | ref _ => cases hv
  | _ => exists "v", [cc, rowB]
theorem is_plan_eq (h1 : P 1 = some d1) (h2 : P 2 = some d2) (h48 : P 48 = some d48) (h57 : P 57 = some d57) (h58 : P 58 = some d58) {sizes : List Int} {kinds : Int} {v : Val} {h : MH} (hv : dle 60 v = true) : callM P fuel (d + 5) base 58 [hoV sizes kinds, v] h = .ok (.bl (planB sizes.length kinds v)) h := by
  refine Rn_eq (Rn_callF h58 rfl rfl fun C cc cb cf => ?_)
  simp only [d58]
  cases v with
  | tup l =>
    have hm := dle_tup60 hv
    by_cases h2' : (l.length : Int) ≤ 600
    · exists "v", [cc, planB, h2', Int.not_lt.mpr h2']
      refine Rn_compMap (fun u => .bl (rowB sizes.length kinds u)) (fun x hx => ?_) ?_
      · exists "v", [cc, is_plan_row_eq h1 h2 h48 h57 (hm x hx)]
      · exists "v", [map_bl, all_id]
        omega
    · exists "v", [planB, h2', Int.not_le.mp h2']
  | scr _ => cases hv
  | ref _ => cases hv
  | _ => exists "v", [cc, planB]
end
end MP

set_option maxHeartbeats 4000000
/-! MiniY: places, things, alike. -/
namespace MP
open PySem
local macro_rules
  | `(tactic| decreasing_trivial) => `(tactic| try simp only [Rn_bind, Rn_ok, Rn_some, Rn_og, Rn_obind, wps, qs, List.getElem?_cons_zero, List.getElem?_cons_succ, Option.some.injEq, exists_eq_left', List.set_cons_zero, List.set_cons_succ, List.map_cons, List.map_nil, List.replicate, List.cons_append, List.nil_append, wipeE, List.foldr, retV, if_true, Bool.not_true, Bool.not_false, Bool.false_eq_true, if_false, decide_eq_true_eq, Option.bind_some])
set_option hygiene false in
local macro_rules
  | `(tactic| exists "w") => `(tactic| try simp (maxSteps := 2000000) only [Rn_bind, Rn_ok, Rn_some, Rn_og, Rn_obind, Rn_omap, wps, qs, List.getElem?_cons_zero, List.getElem?_cons_succ, Option.some.injEq, exists_eq_left', List.set_cons_zero, List.set_cons_succ, List.map_cons, List.map_nil, List.replicate, List.cons_append, List.nil_append, wipeE, List.foldr, retV, if_true, Bool.not_true, Bool.not_false, Bool.false_eq_true, if_false, decide_eq_true_eq])
  | `(tactic| exists "w", [$ts,*]) => `(tactic| try simp (maxSteps := 2000000) only [Rn_bind, Rn_ok, Rn_some, Rn_og, Rn_obind, Rn_omap, wps, qs, List.getElem?_cons_zero, List.getElem?_cons_succ, Option.some.injEq, exists_eq_left', List.set_cons_zero, List.set_cons_succ, List.map_cons, List.map_nil, List.replicate, List.cons_append, List.nil_append, wipeE, List.foldr, retV, if_true, Bool.not_true, Bool.not_false, Bool.false_eq_true, if_false, decide_eq_true_eq, $[$ts:term],*])
  | `(tactic| exists "v") => `(tactic| try simp (maxSteps := 2000000) only [Rn_bind, Rn_ok, Rn_some, Rn_og, Rn_obind, Rn_omap, wps, qs, List.getElem?_cons_zero, List.getElem?_cons_succ, Option.some.injEq, exists_eq_left', List.set_cons_zero, List.set_cons_succ, List.map_cons, List.map_nil, List.replicate, List.cons_append, List.nil_append, wipeE, List.foldr, retV, if_true, Bool.not_true, Bool.not_false, Bool.false_eq_true, if_false, decide_eq_true_eq, qt, q_mulL, List.foldl_cons, List.foldl_nil, List.zip_cons_cons, List.zip_nil_right, isTL, Rn_stuck, ite_stuck, not_true_eq_false, not_false_eq_true, Bool.not_eq_true, Bool.not_eq_false, decide_eq_false_iff_not, beq_self_eq_true, Bool.or_false, Bool.false_or, Bool.or_self, Bool.and_self, Bool.and_true, Bool.true_and, Bool.false_and, Bool.and_false, Bool.or_true, Bool.true_or, decide_true, decide_false, Bool.true_eq_false, List.take_length, List.length_map, Val.bl.injEq, ite_self, List.length_cons, List.length_nil, Nat.reduceAdd, Nat.reduceMul, Nat.reduceSub, Nat.reducePow, Nat.reduceLT, Nat.reduceLeDiff, Int.reducePow, Int.reduceToNat, Int.reduceAdd, Int.reduceMul, Int.reduceSub, Int.reduceNeg, Int.reduceLT, Int.reduceLE, Int.reduceAbs, Int.reduceEq, Int.reduceNe, Int.cast_ofNat_Int, SZv, and_self, true_and, and_true, Nat.zero_le, or_true, true_or, Nat.zero_add, Int.natCast_add, Int.natCast_one, ge_iff_le, gt_iff_lt])
  | `(tactic| exists "v", [$ts,*]) => `(tactic| try simp (maxSteps := 2000000) only [Rn_bind, Rn_ok, Rn_some, Rn_og, Rn_obind, Rn_omap, wps, qs, List.getElem?_cons_zero, List.getElem?_cons_succ, Option.some.injEq, exists_eq_left', List.set_cons_zero, List.set_cons_succ, List.map_cons, List.map_nil, List.replicate, List.cons_append, List.nil_append, wipeE, List.foldr, retV, if_true, Bool.not_true, Bool.not_false, Bool.false_eq_true, if_false, decide_eq_true_eq, qt, q_mulL, List.foldl_cons, List.foldl_nil, List.zip_cons_cons, List.zip_nil_right, isTL, Rn_stuck, ite_stuck, not_true_eq_false, not_false_eq_true, Bool.not_eq_true, Bool.not_eq_false, decide_eq_false_iff_not, beq_self_eq_true, Bool.or_false, Bool.false_or, Bool.or_self, Bool.and_self, Bool.and_true, Bool.true_and, Bool.false_and, Bool.and_false, Bool.or_true, Bool.true_or, decide_true, decide_false, Bool.true_eq_false, List.take_length, List.length_map, Val.bl.injEq, ite_self, List.length_cons, List.length_nil, Nat.reduceAdd, Nat.reduceMul, Nat.reduceSub, Nat.reducePow, Nat.reduceLT, Nat.reduceLeDiff, Int.reducePow, Int.reduceToNat, Int.reduceAdd, Int.reduceMul, Int.reduceSub, Int.reduceNeg, Int.reduceLT, Int.reduceLE, Int.reduceAbs, Int.reduceEq, Int.reduceNe, Int.cast_ofNat_Int, SZv, and_self, true_and, and_true, Nat.zero_le, or_true, true_or, Nat.zero_add, Int.natCast_add, Int.natCast_one, ge_iff_le, gt_iff_lt, $[$ts:term],*])
  | `(tactic| exists "v*", [$ts,*]) => `(tactic| try simp (maxSteps := 2000000) only [Rn_bind, Rn_ok, Rn_some, Rn_og, Rn_obind, Rn_omap, wps, qs, List.getElem?_cons_zero, List.getElem?_cons_succ, Option.some.injEq, exists_eq_left', List.set_cons_zero, List.set_cons_succ, List.map_cons, List.map_nil, List.replicate, List.cons_append, List.nil_append, wipeE, List.foldr, retV, if_true, Bool.not_true, Bool.not_false, Bool.false_eq_true, if_false, decide_eq_true_eq, qt, q_mulL, List.foldl_cons, List.foldl_nil, List.zip_cons_cons, List.zip_nil_right, isTL, Rn_stuck, ite_stuck, not_true_eq_false, not_false_eq_true, Bool.not_eq_true, Bool.not_eq_false, decide_eq_false_iff_not, beq_self_eq_true, Bool.or_false, Bool.false_or, Bool.or_self, Bool.and_self, Bool.and_true, Bool.true_and, Bool.false_and, Bool.and_false, Bool.or_true, Bool.true_or, decide_true, decide_false, Bool.true_eq_false, List.take_length, List.length_map, Val.bl.injEq, ite_self, List.length_cons, List.length_nil, Nat.reduceAdd, Nat.reduceMul, Nat.reduceSub, Nat.reducePow, Nat.reduceLT, Nat.reduceLeDiff, Int.reducePow, Int.reduceToNat, Int.reduceAdd, Int.reduceMul, Int.reduceSub, Int.reduceNeg, Int.reduceLT, Int.reduceLE, Int.reduceAbs, Int.reduceEq, Int.reduceNe, Int.cast_ofNat_Int, SZv, and_self, true_and, and_true, Nat.zero_le, or_true, true_or, Nat.zero_add, Int.natCast_add, Int.natCast_one, ge_iff_le, gt_iff_lt, $[$ts:term],*, *])
  | `(tactic| exists "sd") => `(tactic| first | decide | omega | (simp only [List.length_cons, List.length_nil, List.length_map, List.length_append, SZv]; omega) | (constructor <;> exists "sd"))
  | `(tactic| exists "s") => `(tactic| repeat (refine And.intro (by exists "sd") ?_))
  | `(tactic| exists "nx", $D, $D1:ident, $x:ident, $a:ident, $b:ident) => `(tactic| refine DH.next H.h5 hf $D (by omega) (by omega) (by omega) fun h' $x $D1 $a $b => ?_)

/-! end of words -/
/-- places -/
abbrev f23 : Nat := 23
def d23 : MDef := ⟨false, 2, 2, (Ss.cons (.ret (.cb .tuple false (Es.cons (.comp false (.bin .sub false (.var 2) (.cb .sum false (Es.cons (.var 3) Es.nil))) (.tp [(.nm 2), (.nm 3)]) (.zip (.idx (.var 0) (.cst (.int 0))) (.var 1)) Es.nil [2, 3]) Es.nil)))
    Ss.nil)⟩
def n23 : List Str := ["house", "stand", "size", "row"]
/-- things -/
abbrev f24 : Nat := 24
def d24 : MDef := ⟨false, 1, 2, (Ss.cons (.ret (.cb .tuple false (Es.cons (.comp false (.cb .sum false (Es.cons (.comp false (.idx (.var 1) (.var 2)) (.nm 1) (.val (.var 0)) Es.nil [1]) Es.nil)) (.nm 2) (.rng (.cb .len false (Es.cons (.idx (.var 0) (.cst (.int 0))) Es.nil))) Es.nil [2]) Es.nil)))
    Ss.nil)⟩
def n24 : List Str := ["stand", "row", "kind"]
/-- _law_same -/
abbrev f25 : Nat := 25
def d25 : MDef := ⟨false, 2, 1, (Ss.cons (.iff (.isi [.tuple, .list] (.var 1)) (Ss.cons (.iff (.cmp .ne (.isi [.tuple] (.var 0)) (.isi [.tuple] (.var 1))) (Ss.cons (.ret (.cst (.bl false)))
    Ss.nil) Ss.nil)
    (Ss.cons (.iff (.cmp .ne (.isi [.list] (.var 0)) (.isi [.list] (.var 1))) (Ss.cons (.ret (.cst (.bl false)))
    Ss.nil) Ss.nil)
    (Ss.cons (.iff (.cmp .ne (.cb .len false (Es.cons (.var 0) Es.nil)) (.cb .len false (Es.cons (.var 1) Es.nil))) (Ss.cons (.ret (.cst (.bl false)))
    Ss.nil) Ss.nil)
    (Ss.cons (.ret (.cmp .eq (.comp false (.var 2) (.nm 2) (.rng (.cb .len false (Es.cons (.var 1) Es.nil))) (Es.cons (.not (.call f25 (Es.cons (.idx (.var 0) (.var 2)) (Es.cons (.idx (.var 1) (.var 2)) Es.nil)))) Es.nil) [2]) (.lst false Es.nil)))
    Ss.nil)))) Ss.nil)
    (Ss.cons (.iff (.isn false (.var 1)) (Ss.cons (.ret (.isn false (.var 0)))
    Ss.nil) Ss.nil)
    (Ss.cons (.iff (.isi [.str] (.var 1)) (Ss.cons (.ret (.bop true (Es.cons (.isi [.str] (.var 0)) (Es.cons (.cmp .eq (.var 0) (.var 1)) Es.nil))))
    Ss.nil) Ss.nil)
    (Ss.cons (.ret (.bop true (Es.cons (.isi [.int] (.var 0)) (Es.cons (.cmp .eq (.isi [.bool] (.var 0)) (.isi [.bool] (.var 1))) (Es.cons (.cmp .eq (.var 0) (.var 1)) Es.nil)))))
    Ss.nil))))⟩
def n25 : List Str := ["_law_found", "_law_due", "_law_k"]

section
variable {P : Nat → Option MDef} {fuel d base : Nat}
def pl : Nat → Val → Bool
  | _, .int _ => true
  | n + 1, .tup l => decide (l.length ≤ 1000) && l.all (pl n)
  | n + 1, .lst l => decide (l.length ≤ 1000) && l.all (pl n)
  | _, _ => false
theorem q_bne (a b : Bool) (h : MH) : cmp .ne (.bl a) (.bl b) h = some (!(a == b)) := by cases a <;> cases b <;> rfl
theorem q_beq (a b : Bool) (h : MH) : cmp .eq (.bl a) (.bl b) h = some (a == b) := by cases a <;> cases b <;> rfl
theorem q_e0 (h : MH) : cmp .eq (.lst []) (.lst []) h = some true := rfl
theorem fm_none {α β : Type} (l : List α) : l.filterMap (fun _ => (none : Option β)) = [] := by induction l <;> simp_all
theorem same_int (h25 : P 25 = some d25) (i : Int) {h : MH} {Q : Val → MH → Prop} (q : Q (.bl true) h) : Rn (callM P fuel (d + 1) base 25 [.int i, .int i] h) Q := by
  refine Rn_callF h25 rfl rfl fun C cc cb cf => ?_
  simp only [d25]
  decreasing_trivial
  simp only [show (Ty.tuple == Ty.int) = false from rfl, show (Ty.list == Ty.int) = false from rfl, show (Ty.str == Ty.int) = false from rfl, show (Ty.int == Ty.int) = true from rfl, show (Ty.bool == Ty.int) = false from rfl, Bool.or_self, q_beq, qs, Rn_some, decide_true, beq_self_eq_true, Bool.false_eq_true, if_false, if_true]
  exact ⟨rfl, by rw [List.take_length]; exact q⟩
theorem same_ok (h25 : P 25 = some d25) : ∀ (n : Nat) (v : Val) (d base : Nat) (h : MH) (Q : Val → MH → Prop), pl n v = true → Q (.bl true) h → Rn (callM P fuel (d + n + 1) base 25 [v, v] h) Q := by
  intro n
  induction n with
  | zero =>
    intro v d base h Q hv q
    cases v <;> try (cases hv; done)
    exact same_int h25 _ q
  | succ n ih =>
    intro v d base h Q hv q
    cases v <;> try (cases hv; done)
    · exact same_int h25 _ q
    · rename_i l
      simp only [pl, Bool.and_eq_true, decide_eq_true_eq] at hv
      obtain ⟨hl, hp⟩ := hv
      refine Rn_callF h25 rfl rfl fun C cc cb cf => ?_
      have SZe : SZ = 16777216 := rfl
      simp only [d25]
      decreasing_trivial
      simp only [show (Ty.tuple == Ty.tuple) = true from rfl, show (Ty.list == Ty.tuple) = false from rfl, Bool.true_or, q_bne, Rn_some, qs, beq_self_eq_true, Bool.not_true, decide_true, Bool.false_eq_true, if_false, if_true, wps]
      rw [if_pos (by omega)]
      refine Rn_compP (fun _ => none) ?_ ?_
      · intro x hx
        obtain ⟨j, e⟩ := List.getElem?_of_mem hx
        obtain ⟨rfl, hj⟩ := rangeV_get e
        have hj2 : j < l.length := by omega
        have hv : ixv l (j : Int) = some l[j] := by
          rw [ixv_ok (by omega) hj, Int.toNat_natCast, List.getElem?_eq_getElem hj2]
        decreasing_trivial
        simp only [hv, Rn_some, cc]
        refine ih l[j] d _ _ _ (List.all_eq_true.mp hp _ (List.getElem_mem hj2)) ?_
        decreasing_trivial
        simp only [and_self]
      · rw [fm_none]
        simp only [wps, q_e0, Rn_some, retV, List.length_nil]
        exact ⟨Nat.zero_le _, Nat.zero_le _, rfl, by rw [List.take_length]; exact q⟩
    · rename_i l
      simp only [pl, Bool.and_eq_true, decide_eq_true_eq] at hv
      obtain ⟨hl, hp⟩ := hv
      refine Rn_callF h25 rfl rfl fun C cc cb cf => ?_
      have SZe : SZ = 16777216 := rfl
      simp only [d25]
      decreasing_trivial
      simp only [show (Ty.list == Ty.list) = true from rfl, show (Ty.tuple == Ty.list) = false from rfl, Bool.or_true, q_bne, Rn_some, qs, beq_self_eq_true, Bool.not_true, decide_true, Bool.false_eq_true, if_false, if_true, wps]
      rw [if_pos (by omega)]
      refine Rn_compP (fun _ => none) ?_ ?_
      · intro x hx
        obtain ⟨j, e⟩ := List.getElem?_of_mem hx
        obtain ⟨rfl, hj⟩ := rangeV_get e
        have hj2 : j < l.length := by omega
        have hv : ixv l (j : Int) = some l[j] := by
          rw [ixv_ok (by omega) hj, Int.toNat_natCast, List.getElem?_eq_getElem hj2]
        decreasing_trivial
        simp only [hv, Rn_some, cc]
        refine ih l[j] d _ _ _ (List.all_eq_true.mp hp _ (List.getElem_mem hj2)) ?_
        decreasing_trivial
        simp only [and_self]
      · rw [fm_none]
        simp only [wps, q_e0, Rn_some, retV, List.length_nil]
        exact ⟨Nat.zero_le _, Nat.zero_le _, rfl, by rw [List.take_length]; exact q⟩
/-! sums of rows and of kinds -/
theorem col_cons (row : List Int) (st : List (List Int)) (j : Nat) : col (row :: st) j = row.getD j 0 + col st j := by simp [col]
theorem sum_map_add (f g : Nat → Int) (l : List Nat) : (l.map fun j => f j + g j).sum = (l.map f).sum + (l.map g).sum := by
  induction l with
  | nil => rfl
  | cons a l ih => simp only [List.map_cons, List.sum_cons, ih]; omega
theorem row_range (row : List Int) : ∀ k, row.length = k → ((List.range k).map fun j => row.getD j 0).sum = row.sum := fun k h => by
  have : (List.range k).map (fun j => row.getD j 0) = row := by
    apply List.ext_getElem
    · simp [h]
    · intro i h1 h2
      simp [List.getD_eq_getElem?_getD, h2]
  rw [this]
theorem total (k : Nat) : ∀ (st : List (List Int)), (∀ row ∈ st, row.length = k) → (st.map List.sum).sum = ((List.range k).map (col st)).sum
  | [], _ => by
    have : (List.range k).map (col []) = (List.range k).map fun _ => (0 : Int) := rfl
    have z : ∀ k : Nat, ((List.range k).map fun _ => (0 : Int)).sum = 0 := fun k => by
      induction k with
      | zero => rfl
      | succ k ih => rw [List.range_succ, List.map_append, List.sum_append, ih]; simp
    rw [this, z]
    rfl
  | row :: st, h => by
    rw [List.map_cons, List.sum_cons, total k st fun r hr => h r (List.mem_cons_of_mem _ hr), ← row_range row k (h row List.mem_cons_self)]
    have : (List.range k).map (col (row :: st)) = (List.range k).map fun j => row.getD j 0 + col st j := by
      apply List.map_congr_left
      intro j _
      exact col_cons row st j
    rw [this, sum_map_add]

theorem same_eq (h25 : P 25 = some d25) {n : Nat} {v : Val} {h : MH} (hv : pl n v = true) : callM P fuel (d + n + 1) base 25 [v, v] h = .ok (.bl true) h := Rn_eq (same_ok h25 n v d base h _ hv ⟨rfl, rfl⟩)
def placesF (sizes : List Int) (st : List (List Int)) : List Int := List.zipWith (fun s row => s - row.sum) sizes st
def thingsF (k : Nat) (st : List (List Int)) : List Int := (List.range k).map (col st)
def pPl (x : Val) : Val := match x with
  | .tup [.int s, .tup l] => .int (s - ((intsOf l).getD []).sum)
  | _ => .non
theorem pPl_zip : ∀ (sizes : List Int) (st : List (List Int)), (zipV (sizes.map .int) (st.map tI)).map pPl = (placesF sizes st).map .int
  | [], _ => by simp [zipV, placesF]
  | _ :: _, [] => by simp [zipV, placesF]
  | s :: sizes, row :: st => by
    have := pPl_zip sizes st
    simp only [zipV, List.map_cons, List.zip_cons_cons, placesF, List.zipWith_cons_cons] at this ⊢
    rw [this]
    simp only [pPl, tI, intsOf_map, Option.getD_some]
theorem zip_mem2 {a b : List Val} {x : Val} (h : x ∈ zipV a b) : ∃ u ∈ a, ∃ v ∈ b, x = .tup [u, v] := by
  obtain ⟨⟨u, v⟩, hp, rfl⟩ := List.mem_map.mp h
  exact ⟨u, (List.of_mem_zip hp).1, v, (List.of_mem_zip hp).2, rfl⟩
theorem places_eq (h23 : P 23 = some d23) {sizes : List Int} {kinds : Int} {st : List (List Int)} {h : MH} (hl : sizes.length ≤ 1000) : callM P fuel (d + 1) base 23 [hoV sizes kinds, stV st] h = .ok (tI (placesF sizes st)) h := by
  refine Rn_eq (Rn_callF h23 rfl rfl fun C cc cb cf => ?_)
  simp only [d23, hoV, tI, stV]
  exists "v", [isTL]
  refine Rn_compMap pPl (fun x hx => ?_) ?_
  · obtain ⟨u, hu, v, hv, rfl⟩ := zip_mem2 hx
    obtain ⟨s, hs, rfl⟩ := List.mem_map.mp hu
    obtain ⟨row, hr, rfl⟩ := List.mem_map.mp hv
    exists "v", [cc, tI, Option.bind_some, Option.map_some, pPl, Option.getD_some]
  · have e := pPl_zip sizes st
    rw [e]
    have : (placesF sizes st).length ≤ 1000 := by unfold placesF; rw [List.length_zipWith]; omega
    exists "v"
    refine ⟨by omega, ?_⟩
    exact tI_dle 59 _
theorem things_eq (h24 : P 24 = some d24) {L k : Nat} {st : List (List Int)} {h : MH} (S : Sq L k st) (hL : 0 < L) (hl : L ≤ 1000) (hk : k ≤ 1000) : callM P fuel (d + 1) base 24 [stV st] h = .ok (tI (thingsF k st)) h := by
  refine Rn_eq (Rn_callF h24 rfl rfl fun C cc cb cf => ?_)
  have hlen := S.len
  obtain ⟨row0, rest, rfl⟩ : ∃ a l, st = a :: l := by
    cases st with
    | nil => simp at hlen; omega
    | cons a l => exact ⟨a, l, rfl⟩
  have h0 : row0.length = k := S.rl _ List.mem_cons_self
  simp only [d24, stV, List.map_cons]
  exists "v", [tI, h0]
  refine ⟨⟨by omega, by omega⟩, ?_⟩
  refine Rn_compMap (fun x => .int (col (row0 :: rest) (match x with | .int i => i.toNat | _ => 0))) (fun x hx => ?_) ?_
  · obtain ⟨j, e⟩ := List.getElem?_of_mem hx
    obtain ⟨rfl, hj⟩ := rangeV_get e
    exists "v", [walk]
    rw [show (Val.tup (row0.map .int) :: rest.map tI) = (row0 :: rest).map tI from rfl]
    refine Rn_compMap (fun x => match x with | .tup l => (l[j]?).getD .non | _ => .non) (fun x hx => ?_) ?_
    · obtain ⟨row, hr, rfl⟩ := List.mem_map.mp hx
      have hj2 : j < row.length := by have := S.rl row hr; omega
      exists "v", [tI]
      rw [ix_num hj2]
      exists "v"
      simp [hj2]
    · have e2 : ((row0 :: rest).map tI).map (fun x => match x with | .tup l => (l[j]?).getD .non | _ => .non) = ((row0 :: rest).map fun row => row.getD j 0).map Val.int := by
        rw [List.map_map, List.map_map]
        refine List.map_congr_left fun row hr => ?_
        have hj2 : j < row.length := by have := S.rl row hr; omega
        simp [tI, hj2]
      rw [e2]
      have ec : col (row0 :: rest) j = ((row0 :: rest).map fun row => row.getD j 0).sum := rfl
      have el : ((row0 :: rest).map fun row => row.getD j 0).length = L := by rw [List.length_map, hlen]
      generalize ((row0 :: rest).map fun row => row.getD j 0) = ns at ec el ⊢
      exists "v", [Int.toNat_natCast, ec]
      omega
  · have e3 : (rangeV 0 k).map (fun x => Val.int (col (row0 :: rest) (match x with | .int i => i.toNat | _ => 0))) = (thingsF k (row0 :: rest)).map Val.int := by
      unfold rangeV thingsF
      rw [List.map_map, List.map_map, show (((k : Nat) : Int) - 0).toNat = k by omega]
      refine List.map_congr_left fun j _ => ?_
      simp
    rw [e3]
    have : (thingsF k (row0 :: rest)).length = k := by simp [thingsF]
    exists "v"
    exact ⟨by omega, tI_dle 59 _⟩
structure Sta (sizes : List Int) (k : Nat) (st : List (List Int)) : Prop where
  sq : Sq sizes.length k st
  el : ∀ row ∈ st, ∀ x ∈ row, x.natAbs ≤ 10 ^ 13
theorem Sta.gd {sizes : List Int} {k : Nat} {st : List (List Int)} (h : Sta sizes k st) (hl : sizes.length ≤ 8) (hk : k ≤ 6) : Gd 2 57 (stV st) :=
  Gd.tup (k := 1) (S := 7) (n := 8) (fun u hu => by
    obtain ⟨row, hr, rfl⟩ := List.mem_map.mp hu
    exact Gd.tup (k := 0) (S := 1) (n := 6) (Gd.ints fun i hi => by have := h.el row hr i hi; omega) (by rw [List.length_map, h.sq.rl row hr]; exact hk)) (by rw [List.length_map, h.sq.len]; exact hl)
theorem pl_tI (n : Nat) {l : List Int} (h : l.length ≤ 100) : pl (n + 1) (tI l) = true := by
  simp only [pl, tI, Bool.and_eq_true, decide_eq_true_eq, List.length_map, List.all_map, List.all_eq_true]
  refine ⟨by omega, fun x _ => ?_⟩
  cases n <;> rfl
theorem zipV_get {l m : List Val} {i : Nat} {v : Val} (e : (zipV l m)[i]? = some v) : ∃ a b, l[i]? = some a ∧ m[i]? = some b ∧ v = .tup [a, b] := by
  unfold zipV at e
  rw [List.getElem?_map, Option.map_eq_some_iff] at e
  obtain ⟨⟨a, b⟩, e1, e2⟩ := e
  rw [List.getElem?_zip_eq_some] at e1
  exact ⟨a, b, e1.1, e1.2, e2.symm⟩
theorem rep1 (v : Val) (k : Int) : rep [v] k = List.replicate k.toNat v := by simp [rep]

theorem StOk.sta {sizes : List Int} {k : Nat} {st : List (List Int)} (hst : StOk sizes k st) (hsz : ∀ s ∈ sizes, SizeOk s) : Sta sizes k st := ⟨hst.st.sq, fun row hr z hz => by
  obtain ⟨a, ea⟩ := List.getElem?_of_mem hr
  have la := (List.getElem?_eq_some_iff.mp ea).1
  obtain ⟨b, eb⟩ := List.getElem?_of_mem hz
  have ls : a < sizes.length := by rw [← hst.len]; exact la
  have R := hst.row a row sizes[a] ea (List.getElem?_eq_getElem ls)
  have z0 := R.nn z hz
  have := le_sum b R.nn
  rw [List.getD_eq_getElem?_getD, eb] at this
  have := hsz sizes[a] (List.getElem_mem ls)
  unfold SizeOk at this
  have := R.le
  simp only [Option.getD_some] at *
  omega⟩
theorem hoV_gd {sizes : List Int} {kinds : Int} (hsz : ∀ s ∈ sizes, SizeOk s) (hl : sizes.length ≤ 8) (hk : kinds.natAbs ≤ 100) : Gd 2 19 (hoV sizes kinds) :=
  Gd.tup2 (k := 1) (S := 9) (a := .tup (sizes.map .int)) (b := .int kinds) (Gd.tup (k := 0) (S := 1) (n := 8) (Gd.ints fun i hi => by have := hsz i hi; unfold SizeOk at this; omega) (by rw [List.length_map]; omega)) (Gd.int (by omega) (by decide))
end
end MP

set_option maxHeartbeats 4000000
/-! MiniZ: is_stand, deeds_at, moved_many by equations; chains of deeds; equality of nested int tuples. -/
namespace MP
open PySem
set_option hygiene false in
local macro_rules
  | `(tactic| exists "w") => `(tactic| try simp (maxSteps := 2000000) only [Rn_bind, Rn_ok, Rn_some, Rn_og, Rn_obind, Rn_omap, wps, qs, List.getElem?_cons_zero, List.getElem?_cons_succ, Option.some.injEq, exists_eq_left', List.set_cons_zero, List.set_cons_succ, List.map_cons, List.map_nil, List.replicate, List.cons_append, List.nil_append, wipeE, List.foldr, retV, if_true, Bool.not_true, Bool.not_false, Bool.false_eq_true, if_false, decide_eq_true_eq])
  | `(tactic| exists "w", [$ts,*]) => `(tactic| try simp (maxSteps := 2000000) only [Rn_bind, Rn_ok, Rn_some, Rn_og, Rn_obind, Rn_omap, wps, qs, List.getElem?_cons_zero, List.getElem?_cons_succ, Option.some.injEq, exists_eq_left', List.set_cons_zero, List.set_cons_succ, List.map_cons, List.map_nil, List.replicate, List.cons_append, List.nil_append, wipeE, List.foldr, retV, if_true, Bool.not_true, Bool.not_false, Bool.false_eq_true, if_false, decide_eq_true_eq, $[$ts:term],*])
  | `(tactic| exists "v") => `(tactic| try simp (maxSteps := 2000000) only [Rn_bind, Rn_ok, Rn_some, Rn_og, Rn_obind, Rn_omap, wps, qs, List.getElem?_cons_zero, List.getElem?_cons_succ, Option.some.injEq, exists_eq_left', List.set_cons_zero, List.set_cons_succ, List.map_cons, List.map_nil, List.replicate, List.cons_append, List.nil_append, wipeE, List.foldr, retV, if_true, Bool.not_true, Bool.not_false, Bool.false_eq_true, if_false, decide_eq_true_eq, qt, q_mulL, List.foldl_cons, List.foldl_nil, List.zip_cons_cons, List.zip_nil_right, isTL, Rn_stuck, ite_stuck, not_true_eq_false, not_false_eq_true, Bool.not_eq_true, Bool.not_eq_false, decide_eq_false_iff_not, beq_self_eq_true, Bool.or_false, Bool.false_or, Bool.or_self, Bool.and_self, Bool.and_true, Bool.true_and, Bool.false_and, Bool.and_false, Bool.or_true, Bool.true_or, decide_true, decide_false, Bool.true_eq_false, List.take_length, List.length_map, Val.bl.injEq, ite_self, List.length_cons, List.length_nil, Nat.reduceAdd, Nat.reduceMul, Nat.reduceSub, Nat.reducePow, Nat.reduceLT, Nat.reduceLeDiff, Int.reducePow, Int.reduceToNat, Int.reduceAdd, Int.reduceMul, Int.reduceSub, Int.reduceNeg, Int.reduceLT, Int.reduceLE, Int.reduceAbs, Int.reduceEq, Int.reduceNe, Int.cast_ofNat_Int, SZv, and_self, true_and, and_true, Nat.zero_le, or_true, true_or, Nat.zero_add, Int.natCast_add, Int.natCast_one, ge_iff_le, gt_iff_lt])
  | `(tactic| exists "v", [$ts,*]) => `(tactic| try simp (maxSteps := 2000000) only [Rn_bind, Rn_ok, Rn_some, Rn_og, Rn_obind, Rn_omap, wps, qs, List.getElem?_cons_zero, List.getElem?_cons_succ, Option.some.injEq, exists_eq_left', List.set_cons_zero, List.set_cons_succ, List.map_cons, List.map_nil, List.replicate, List.cons_append, List.nil_append, wipeE, List.foldr, retV, if_true, Bool.not_true, Bool.not_false, Bool.false_eq_true, if_false, decide_eq_true_eq, qt, q_mulL, List.foldl_cons, List.foldl_nil, List.zip_cons_cons, List.zip_nil_right, isTL, Rn_stuck, ite_stuck, not_true_eq_false, not_false_eq_true, Bool.not_eq_true, Bool.not_eq_false, decide_eq_false_iff_not, beq_self_eq_true, Bool.or_false, Bool.false_or, Bool.or_self, Bool.and_self, Bool.and_true, Bool.true_and, Bool.false_and, Bool.and_false, Bool.or_true, Bool.true_or, decide_true, decide_false, Bool.true_eq_false, List.take_length, List.length_map, Val.bl.injEq, ite_self, List.length_cons, List.length_nil, Nat.reduceAdd, Nat.reduceMul, Nat.reduceSub, Nat.reducePow, Nat.reduceLT, Nat.reduceLeDiff, Int.reducePow, Int.reduceToNat, Int.reduceAdd, Int.reduceMul, Int.reduceSub, Int.reduceNeg, Int.reduceLT, Int.reduceLE, Int.reduceAbs, Int.reduceEq, Int.reduceNe, Int.cast_ofNat_Int, SZv, and_self, true_and, and_true, Nat.zero_le, or_true, true_or, Nat.zero_add, Int.natCast_add, Int.natCast_one, ge_iff_le, gt_iff_lt, $[$ts:term],*])
  | `(tactic| exists "v*", [$ts,*]) => `(tactic| try simp (maxSteps := 2000000) only [Rn_bind, Rn_ok, Rn_some, Rn_og, Rn_obind, Rn_omap, wps, qs, List.getElem?_cons_zero, List.getElem?_cons_succ, Option.some.injEq, exists_eq_left', List.set_cons_zero, List.set_cons_succ, List.map_cons, List.map_nil, List.replicate, List.cons_append, List.nil_append, wipeE, List.foldr, retV, if_true, Bool.not_true, Bool.not_false, Bool.false_eq_true, if_false, decide_eq_true_eq, qt, q_mulL, List.foldl_cons, List.foldl_nil, List.zip_cons_cons, List.zip_nil_right, isTL, Rn_stuck, ite_stuck, not_true_eq_false, not_false_eq_true, Bool.not_eq_true, Bool.not_eq_false, decide_eq_false_iff_not, beq_self_eq_true, Bool.or_false, Bool.false_or, Bool.or_self, Bool.and_self, Bool.and_true, Bool.true_and, Bool.false_and, Bool.and_false, Bool.or_true, Bool.true_or, decide_true, decide_false, Bool.true_eq_false, List.take_length, List.length_map, Val.bl.injEq, ite_self, List.length_cons, List.length_nil, Nat.reduceAdd, Nat.reduceMul, Nat.reduceSub, Nat.reducePow, Nat.reduceLT, Nat.reduceLeDiff, Int.reducePow, Int.reduceToNat, Int.reduceAdd, Int.reduceMul, Int.reduceSub, Int.reduceNeg, Int.reduceLT, Int.reduceLE, Int.reduceAbs, Int.reduceEq, Int.reduceNe, Int.cast_ofNat_Int, SZv, and_self, true_and, and_true, Nat.zero_le, or_true, true_or, Nat.zero_add, Int.natCast_add, Int.natCast_one, ge_iff_le, gt_iff_lt, $[$ts:term],*, *])
  | `(tactic| exists "sd") => `(tactic| first | decide | omega | (simp only [List.length_cons, List.length_nil, List.length_map, List.length_append, SZv]; omega) | (constructor <;> exists "sd"))
  | `(tactic| exists "s") => `(tactic| repeat (refine And.intro (by exists "sd") ?_))
  | `(tactic| exists "nx", $D, $D1:ident, $x:ident, $a:ident, $b:ident) => `(tactic| refine DH.next H.h5 hf $D (by omega) (by omega) (by omega) fun h' $x $D1 $a $b => ?_)


/-! end of words -/
/-- is_row -/
abbrev f14 : Nat := 14
def d14 : MDef := ⟨false, 3, 1, (Ss.cons (.iff (.bop false (Es.cons (.not (.isi [.tuple] (.var 2))) (Es.cons (.cmp .ne (.cb .len false (Es.cons (.var 2) Es.nil)) (.var 1)) Es.nil))) (Ss.cons (.ret (.cst (.bl false)))
    Ss.nil) Ss.nil)
    (Ss.cons (.ret (.bop true (Es.cons (.cb .all false (Es.cons (.comp false (.call f2 (Es.cons (.var 3) (Es.cons (.cst (.int 0)) (Es.cons (.var 0) Es.nil)))) (.nm 3) (.val (.var 2)) Es.nil [3]) Es.nil)) (Es.cons (.cmp .le (.cb .sum false (Es.cons (.var 2) Es.nil)) (.var 0)) Es.nil))))
    Ss.nil))⟩
def n14 : List Str := ["size", "kinds", "thing", "number"]
/-- is_stand -/
abbrev f15 : Nat := 15
def d15 : MDef := ⟨false, 2, 4, (Ss.cons (.asg (.tp [(.nm 2), (.nm 3)]) (.var 0))
    (Ss.cons (.iff (.bop false (Es.cons (.not (.isi [.tuple] (.var 1))) (Es.cons (.cmp .ne (.cb .len false (Es.cons (.var 1) Es.nil)) (.cb .len false (Es.cons (.var 2) Es.nil))) Es.nil))) (Ss.cons (.ret (.cst (.bl false)))
    Ss.nil) Ss.nil)
    (Ss.cons (.ret (.cb .all false (Es.cons (.comp false (.call f14 (Es.cons (.var 4) (Es.cons (.var 3) (Es.cons (.var 5) Es.nil)))) (.tp [(.nm 4), (.nm 5)]) (.zip (.var 2) (.var 1)) Es.nil [4, 5]) Es.nil)))
    Ss.nil)))⟩
def n15 : List Str := ["house", "thing", "sizes", "kinds", "size", "row"]
/-- can_move -/
abbrev f44 : Nat := 44
def d44 : MDef := ⟨false, 3, 3, (Ss.cons (.asg (.tp [(.nm 3), (.nm 4), (.nm 5)]) (.var 2))
    (Ss.cons (.ret (.bop true (Es.cons (.cmp .gt (.idx (.idx (.var 1) (.var 4)) (.var 3)) (.cst (.int 0))) (Es.cons (.cmp .gt (.idx (.call f23 (Es.cons (.var 0) (Es.cons (.var 1) Es.nil))) (.var 5)) (.cst (.int 0))) Es.nil))))
    Ss.nil))⟩
def n44 : List Str := ["house", "stand", "deed", "kind", "here", "there"]
/-- deeds_at -/
abbrev f45 : Nat := 45
def d45 : MDef := ⟨false, 2, 7, (Ss.cons (.asg (.nm 2) (.cb .len false (Es.cons (.idx (.var 0) (.cst (.int 0))) Es.nil)))
    (Ss.cons (.asg (.nm 3) (.comp2 false (.tup (Es.cons (.var 4) (Es.cons (.var 5) Es.nil))) (.nm 4) (.rng (.var 2)) Es.nil (.nm 5) (.rng (.var 2)) (Es.cons (.cmp .ne (.var 4) (.var 5)) Es.nil) [4, 5] [5]))
    (Ss.cons (.asg (.nm 6) (.comp2 false (.tup (Es.cons (.var 7) (Es.cons (.var 4) (Es.cons (.var 5) Es.nil)))) (.nm 7) (.rng (.idx (.var 0) (.cst (.int 1)))) Es.nil (.tp [(.nm 4), (.nm 5)]) (.val (.var 3)) Es.nil [7, 4, 5] [4, 5]))
    (Ss.cons (.ret (.cb .tuple false (Es.cons (.comp false (.var 8) (.nm 8) (.val (.var 6)) (Es.cons (.call f44 (Es.cons (.var 0) (Es.cons (.var 1) (Es.cons (.var 8) Es.nil)))) Es.nil) [8]) Es.nil)))
    Ss.nil))))⟩
def n45 : List Str := ["house", "stand", "many", "pairs", "here", "there", "some", "kind", "deed"]
/-- put_by -/
abbrev f72 : Nat := 72
def d72 : MDef := ⟨false, 4, 1, (Ss.cons (.asg (.nm 4) (.idx (.var 0) (.var 1)))
    (Ss.cons (.ret (.bin .add false (.bin .add false (.slc false (.var 0) false .nil true (.var 1)) (.tup (Es.cons (.bin .add false (.bin .add false (.slc false (.var 4) false .nil true (.var 2)) (.tup (Es.cons (.bin .add false (.idx (.var 4) (.var 2)) (.var 3)) Es.nil))) (.slc false (.var 4) true (.bin .add false (.var 2) (.cst (.int 1))) false .nil)) Es.nil))) (.slc false (.var 0) true (.bin .add false (.var 1) (.cst (.int 1))) false .nil)))
    Ss.nil))⟩
def n72 : List Str := ["stand", "room", "kind", "many", "row"]
/-- check_deed -/
abbrev f104 : Nat := 104
def d104 : MDef := ⟨false, 2, 4, (Ss.cons (.asg (.tp [(.nm 2), (.nm 3), (.nm 4)]) (.var 1))
    (Ss.cons (.asg (.nm 5) (.bin .sub false (.cb .len false (Es.cons (.idx (.var 0) (.cst (.int 0))) Es.nil)) (.cst (.int 1))))
    (Ss.cons (.iff (.not (.call f2 (Es.cons (.var 2) (Es.cons (.cst (.int 0)) (Es.cons (.bin .sub false (.idx (.var 0) (.cst (.int 1))) (.cst (.int 1))) Es.nil))))) (Ss.cons (.rais "NoKind" (Es.cons (.var 2) Es.nil))
    Ss.nil) Ss.nil)
    (Ss.cons (.iff (.not (.call f2 (Es.cons (.var 3) (Es.cons (.cst (.int 0)) (Es.cons (.var 5) Es.nil))))) (Ss.cons (.rais "NoRoom" (Es.cons (.var 3) Es.nil))
    Ss.nil) Ss.nil)
    (Ss.cons (.iff (.bop false (Es.cons (.not (.call f2 (Es.cons (.var 4) (Es.cons (.cst (.int 0)) (Es.cons (.var 5) Es.nil))))) (Es.cons (.cmp .eq (.var 4) (.var 3)) Es.nil))) (Ss.cons (.rais "NoRoom" (Es.cons (.var 4) Es.nil))
    Ss.nil) Ss.nil)
    Ss.nil)))))⟩
def n104 : List Str := ["house", "deed", "kind", "here", "there", "last"]
/-- moved_many -/
abbrev f105 : Nat := 105
def d105 : MDef := ⟨false, 4, 5, (Ss.cons (.ex (.call f104 (Es.cons (.var 0) (Es.cons (.var 2) Es.nil))))
    (Ss.cons (.iff (.not (.call f2 (Es.cons (.var 3) (Es.cons (.cst (.int 0)) (Es.cons (.glb "GREAT" (.int 1000000000000)) Es.nil))))) (Ss.cons (.rais "NoNumber" (Es.cons (.var 3) Es.nil))
    Ss.nil) Ss.nil)
    (Ss.cons (.asg (.tp [(.nm 4), (.nm 5), (.nm 6)]) (.var 2))
    (Ss.cons (.par [7, 8] (Es.cons (.idx (.idx (.var 1) (.var 5)) (.var 4)) (Es.cons (.idx (.call f23 (Es.cons (.var 0) (Es.cons (.var 1) Es.nil))) (.var 6)) Es.nil)))
    (Ss.cons (.iff (.bop true (Es.cons (.cmp .lt (.var 7) (.var 3)) (Es.cons (.cmp .le (.var 7) (.var 8)) Es.nil))) (Ss.cons (.rais "Lacks" (Es.cons (.var 5) Es.nil))
    Ss.nil) Ss.nil)
    (Ss.cons (.iff (.cmp .lt (.var 8) (.var 3)) (Ss.cons (.rais "Full" (Es.cons (.var 6) Es.nil))
    Ss.nil) Ss.nil)
    (Ss.cons (.ret (.call f72 (Es.cons (.call f72 (Es.cons (.var 1) (Es.cons (.var 5) (Es.cons (.var 4) (Es.cons (.bin .sub false (.cst (.int 0)) (.var 3)) Es.nil))))) (Es.cons (.var 6) (Es.cons (.var 4) (Es.cons (.var 3) Es.nil))))))
    Ss.nil)))))))⟩
def n105 : List Str := ["house", "stand", "deed", "many", "kind", "here", "there", "some", "room"]
structure HRow (P : Nat → Option MDef) : Prop where
  h1 : P 1 = some d1
  h2 : P 2 = some d2
  h14 : P 14 = some d14
  h15 : P 15 = some d15
structure HMv (P : Nat → Option MDef) : Prop where
  h23 : P 23 = some d23
  h44 : P 44 = some d44
  h45 : P 45 = some d45
structure HMm (P : Nat → Option MDef) : Prop where
  h1 : P 1 = some d1
  h2 : P 2 = some d2
  h23 : P 23 = some d23
  h72 : P 72 = some d72
  h104 : P 104 = some d104
  h105 : P 105 = some d105
section
variable {P : Nat → Option MDef} {fuel d base : Nat}

def roomB (size kinds : Int) (v : Val) : Bool := match v with
  | .tup l => decide ((l.length : Int) = kinds) && l.all (fun u => fromB u 0 size) && (match intsOf l with | some ns => decide (ns.sum ≤ size) | none => false)
  | _ => false
def zipB (f : Int → Val → Bool) : List Int → List Val → Bool
  | s :: ss, v :: vs => f s v && zipB f ss vs
  | _, _ => true
def standB (sizes : List Int) (kinds : Int) (v : Val) : Bool := match v with
  | .tup l => decide ((l.length : Int) = (sizes.length : Int)) && zipB (fun s u => roomB s kinds u) sizes l
  | _ => false
theorem all_from {l : List Val} {lo hi : Int} (h : l.all (fun u => fromB u lo hi) = true) : ∃ ns : List Int, l = ns.map .int ∧ ∀ n ∈ ns, lo ≤ n ∧ n ≤ hi := by
  induction l with
  | nil => exact ⟨[], rfl, fun _ z => nomatch z⟩
  | cons u l ih =>
    rw [List.all_cons, Bool.and_eq_true] at h
    obtain ⟨i, rfl, a, b⟩ := fromB_int h.1
    obtain ⟨ns, rfl, k⟩ := ih h.2
    exact ⟨i :: ns, rfl, fun n hn => (List.mem_cons.mp hn).elim (fun e => e ▸ ⟨a, b⟩) (k n)⟩
theorem is_row_eq (H : HRow P) {size kinds : Int} {v : Val} {h : MH} (hv : dle 60 v = true) (hz : sz v ≤ 10000) : callM P fuel (d + 3) base 14 [.int size, .int kinds, v] h = .ok (.bl (roomB size kinds v)) h := by
  refine Rn_eq (Rn_callF H.h14 rfl rfl fun C cc cb cf => ?_)
  simp only [d14]
  cases v with
  | tup l =>
    have hm := dle_tup60 hv
    have hl := sz_tup_len hz
    exists "v", [cc]
    by_cases hlen : (l.length : Int) = kinds
    · exists "v", [hlen, walk]
      refine Rn_compMap (fun u => .bl (fromB u 0 size)) (fun x hx => ?_) ?_
      · exists "v", [cc, is_from_eq H.h1 H.h2 (hm x hx)]
      · exists "v", [map_bl, all_id, roomB, hlen]
        refine ⟨by omega, ?_⟩
        cases ea : l.all fun u => fromB u 0 size with
        | false => exists "v"
        | true =>
          obtain ⟨ns, rfl, _⟩ := all_from ea
          exists "v"
    · exists "v", [hlen, roomB]
  | scr _ => cases hv
  | ref _ => cases hv
  | _ => exists "v", [cc, roomB]
theorem zipB_all (f : Int → Val → Bool) : ∀ (ss : List Int) (l : List Val), zipB f ss l = ((zipV (ss.map .int) l).all fun x => match x with | .tup [.int s, v] => f s v | _ => false)
  | [], l => by simp [zipB, zipV]
  | s :: ss, [] => by simp [zipB, zipV]
  | s :: ss, v :: l => by
    have := zipB_all f ss l
    simp only [zipV] at this
    simp only [zipB, zipV, List.map_cons, List.zip_cons_cons, List.all_cons, this]
theorem is_stand_eq (H : HRow P) {sizes : List Int} {kinds : Int} {v : Val} {h : MH} (hv : dle 60 v = true) (hz : sz v ≤ 10000) : callM P fuel (d + 4) base 15 [hoV sizes kinds, v] h = .ok (.bl (standB sizes kinds v)) h := by
  refine Rn_eq (Rn_callF H.h15 rfl rfl fun C cc cb cf => ?_)
  simp only [d15, hoV, tI]
  cases v with
  | tup l =>
    have hm := dle_tup60 hv
    have hl := sz_tup_len hz
    exists "v", [cc]
    by_cases hlen : (l.length : Int) = (sizes.length : Int)
    · exists "v", [hlen]
      refine Rn_compMap (fun x => .bl (match x with | .tup [.int s, v] => roomB s kinds v | _ => false)) (fun x hx => ?_) ?_
      · obtain ⟨a, ha, b, hb, rfl⟩ := zip_mem2 hx
        obtain ⟨s, _, rfl⟩ := List.mem_map.mp ha
        have szb : sz b ≤ 10000 := Nat.le_trans (szL_mem hb) (by simp only [sz] at hz; omega)
        exists "v", [cc, is_row_eq H (hm b hb) szb, Option.bind_some]
      · exists "v", [map_bl, all_id, standB, hlen, zipB_all]
        simp [zipV]; omega
    · exists "v", [hlen, standB]
  | scr _ => cases hv
  | ref _ => cases hv
  | _ => exists "v", [cc, standB]
theorem rangeV_nat (n : Nat) : rangeV 0 (n : Int) = (List.range n).map fun (j : Nat) => Val.int (j : Int) := by
  unfold rangeV
  rw [show ((n : Int) - 0).toNat = n by omega]
  simp
def fr (sizes : List Int) (st : List (List Int)) (t : Nat) : Int := sizes.getD t 0 - (rowAt st t).sum
def trip (kd h t : Nat) : Val := .tup [.int kd, .int h, .int t]
def mv (sizes : List Int) (st : List (List Int)) (kd h t : Nat) : Bool := decide (0 < at2 st h kd) && decide (0 < fr sizes st t)
def dl (sizes : List Int) (k n : Nat) (st : List (List Int)) : List Val := (List.range k).flatMap fun kd => (List.range n).flatMap fun h => ((List.range n).filter fun t => (!decide (t = h) && mv sizes st kd h t)).map fun t => trip kd h t
theorem places_at {sizes : List Int} {st : List (List Int)} (hl : st.length = sizes.length) {t : Nat} (ht : t < st.length) : (placesF sizes st)[t]? = some (fr sizes st t) := by
  unfold placesF fr rowAt
  rw [List.getElem?_zipWith, List.getD_eq_getElem?_getD, List.getD_eq_getElem?_getD, List.getElem?_eq_getElem (show t < sizes.length by omega), List.getElem?_eq_getElem ht]
  rfl
theorem places_get {sizes : List Int} {st : List (List Int)} (hl : st.length = sizes.length) {t : Nat} (ht : t < st.length) : ixv ((placesF sizes st).map Val.int) (t : Int) = some (.int (fr sizes st t)) := by
  have e := places_at hl ht
  have l2 := (List.getElem?_eq_some_iff.mp e).1
  rw [ixv_ok (by omega) (by rw [List.length_map]; omega), Int.toNat_natCast, List.getElem?_map, e]
  rfl
variable {sizes : List Int} {kinds : Int} {st : List (List Int)} {k : Nat} {h : MH}
theorem can_move_eq (H : HMv P) (S : Sq sizes.length k st) (hl : sizes.length ≤ 1000) {kd hh t : Nat} (h1 : kd < k) (h2 : hh < sizes.length) (h3 : t < sizes.length) :
    callM P fuel (d + 2) base 44 [hoV sizes kinds, stV st, trip kd hh t] h = .ok (.bl (mv sizes st kd hh t)) h := by
  refine Rn_eq (Rn_callF H.h44 rfl rfl fun C cc cb cf => ?_)
  have l1 := S.len
  simp only [d44, trip, stV]
  exists "v", [cc, ix_row (st := st) (show hh < st.length by omega), tI]
  have l2 : kd < (rowAt st hh).length := by have := S.at_ (a := hh) h2; unfold rowAt; omega
  rw [ix_num l2]
  exists "v"
  rw [show Val.tup (st.map tI) = stV st from rfl]
  exists "v", [places_eq H.h23 hl, tI]
  rw [places_get l1 (by omega)]
  exists "v", [mv]
  by_cases e : 0 < (rowAt st hh).getD kd 0
  · exists "v", [e, at2]
  · exists "v", [e, at2]
def prB (n h : Nat) : List Val := ((List.range n).filter fun t => !decide (t = h)).map fun (t : Nat) => Val.tup [.int (h : Int), .int (t : Int)]
theorem len_flat {α β : Type} (f : α → List β) {m : Nat} : ∀ (l : List α), (∀ x ∈ l, (f x).length ≤ m) → (l.flatMap f).length ≤ m * l.length
  | [], _ => by simp
  | x :: l, h => by
    have := len_flat f l fun y hy => h y (List.mem_cons_of_mem _ hy)
    have := h x List.mem_cons_self
    simp only [List.flatMap_cons, List.length_append, List.length_cons, Nat.mul_add]
    omega
theorem prB_len (n h : Nat) : (prB n h).length ≤ n := by
  unfold prB
  rw [List.length_map]
  have := List.length_filter_le (fun t => !decide (t = h)) (List.range n)
  rw [List.length_range] at this
  exact this
theorem flat_congr {α β : Type} {f g : α → List β} : ∀ {l : List α}, (∀ x ∈ l, f x = g x) → l.flatMap f = l.flatMap g
  | [], _ => rfl
  | x :: l, h => by rw [List.flatMap_cons, List.flatMap_cons, h x List.mem_cons_self, flat_congr fun y hy => h y (List.mem_cons_of_mem _ hy)]
theorem dl_filter (k n : Nat) (p : Nat → Nat → Nat → Bool) (q : Val → Bool) (hq : ∀ kd h t, kd < k → h < n → t < n → q (trip kd h t) = p kd h t) :
    ((List.range k).flatMap fun kd => (((List.range n).flatMap (prB n)).map fun x => match x with | .tup [.int a, .int b] => Val.tup [.int (kd : Int), .int a, .int b] | _ => .non)).filter q =
    (List.range k).flatMap fun kd => (List.range n).flatMap fun h => ((List.range n).filter fun t => (!decide (t = h) && p kd h t)).map fun t => trip kd h t := by
  rw [List.filter_flatMap]
  refine flat_congr fun kd hkd => ?_
  rw [List.map_flatMap, List.filter_flatMap]
  refine flat_congr fun h hh => ?_
  unfold prB
  rw [List.map_map, List.filter_map]
  have e : ∀ l : List Nat, (∀ t ∈ l, t < n) → (((l.filter fun t => !decide (t = h)).filter (q ∘ ((fun x => match x with | .tup [.int a, .int b] => Val.tup [.int (kd : Int), .int a, .int b] | _ => .non) ∘ fun (t : Nat) => Val.tup [.int (h : Int), .int (t : Int)]))) = l.filter fun t => (!decide (t = h) && p kd h t)) := by
    intro l hl
    rw [List.filter_filter]
    refine List.filter_congr fun t ht => ?_
    have := hq kd h t (List.mem_range.mp hkd) (List.mem_range.mp hh) (hl t ht)
    simp only [Function.comp]
    rw [show Val.tup [.int (kd : Int), .int (h : Int), .int (t : Int)] = trip kd h t from rfl, this]
    exact Bool.and_comm _ _
  rw [e _ fun t ht => List.mem_range.mp ht]
  rfl
def cellD (sizes : List Int) (n : Nat) (st : List (List Int)) (kd h : Nat) : List Val := ((List.range n).filter fun t => (!decide (t = h) && mv sizes st kd h t)).map fun t => trip kd h t
theorem cellD_len (sizes : List Int) (n : Nat) (st : List (List Int)) (kd h : Nat) : (cellD sizes n st kd h).length ≤ n := by
  unfold cellD
  rw [List.length_map]
  have := List.length_filter_le (fun t => (!decide (t = h) && mv sizes st kd h t)) (List.range n)
  rw [List.length_range] at this
  exact this
def rowD (sizes : List Int) (n m : Nat) (st : List (List Int)) (kd : Nat) : List Val := (List.range m).flatMap (cellD sizes n st kd)
theorem rowD_len (sizes : List Int) (n m : Nat) (st : List (List Int)) (kd : Nat) : (rowD sizes n m st kd).length ≤ n * m := by
  have := len_flat (cellD sizes n st kd) (m := n) (List.range m) fun x _ => cellD_len ..
  rwa [List.length_range] at this
theorem dl_eq (sizes : List Int) (k n : Nat) (st : List (List Int)) : dl sizes k n st = (List.range k).flatMap (rowD sizes n n st) := rfl
theorem dlp_len (sizes : List Int) (k n : Nat) (st : List (List Int)) : ((List.range k).flatMap (rowD sizes n n st)).length ≤ n * n * k := by
  have := len_flat (rowD sizes n n st) (m := n * n) (List.range k) fun x _ => rowD_len ..
  rwa [List.length_range] at this
theorem dl_len {sizes : List Int} {st : List (List Int)} {k : Nat} (hl : sizes.length ≤ 8) (k6 : k ≤ 6) : (dl sizes k sizes.length st).length ≤ 384 := by
  have := dlp_len sizes k sizes.length st
  have h2 : sizes.length * sizes.length ≤ 8 * 8 := Nat.mul_le_mul hl hl
  have h3 : sizes.length * sizes.length * k ≤ 64 * 6 := Nat.mul_le_mul h2 k6
  rw [dl_eq]
  omega
theorem dl_mem {sizes : List Int} {st : List (List Int)} {k n : Nat} {x : Val} (h : x ∈ dl sizes k n st) : ∃ kd hh t : Nat, kd < k ∧ hh < n ∧ t < n ∧ x = trip kd hh t := by
  obtain ⟨kd, hkd, hx⟩ := List.mem_flatMap.mp h
  obtain ⟨hh, hhh, hx⟩ := List.mem_flatMap.mp hx
  obtain ⟨t, ht, rfl⟩ := List.mem_map.mp hx
  exact ⟨kd, hh, t, List.mem_range.mp hkd, List.mem_range.mp hhh, List.mem_range.mp (List.mem_filter.mp ht).1, rfl⟩
theorem dl_gd {sizes : List Int} {st : List (List Int)} {k : Nat} (hl : sizes.length ≤ 8) (k6 : k ≤ 6) : Gd 2 1537 (.tup (dl sizes k sizes.length st)) :=
  Gd.tup (k := 1) (S := 4) (n := 384) (fun u hu => by
    obtain ⟨kd, hh, t, h1, h2, h3, rfl⟩ := dl_mem hu
    exact Gd.tup3 (k := 0) (S := 1) (a := .int kd) (b := .int hh) (c := .int t) (Gd.int (by omega) (by decide)) (Gd.int (by omega) (by decide)) (Gd.int (by omega) (by decide))) (dl_len hl k6)
theorem dl_pl {sizes : List Int} {st : List (List Int)} {k : Nat} (hl : sizes.length ≤ 8) (k6 : k ≤ 6) : pl 2 (.tup (dl sizes k sizes.length st)) = true := by
  have := dl_len (st := st) hl k6
  simp only [pl, Bool.and_eq_true, decide_eq_true_eq, List.all_eq_true]
  refine ⟨by omega, fun x hx => ?_⟩
  obtain ⟨kd, hh, t, h1, h2, h3, rfl⟩ := dl_mem hx
  rfl
theorem deeds_at_eq (H : HMv P) (S : Sq sizes.length k st) (hl : sizes.length ≤ 8) (hk : kinds = k) (k6 : k ≤ 6) : callM P fuel (d + 3) base 45 [hoV sizes kinds, stV st] h = .ok (.tup (dl sizes k sizes.length st)) h := by
  refine Rn_eq (Rn_callF H.h45 rfl rfl fun C cc cb cf => ?_)
  have l1 := S.len
  simp only [d45, hoV, tI]
  exists "v", [cc, rangeV_nat]
  refine ⟨⟨by omega, by omega⟩, ?_⟩
  refine Rn_comp2P (fun x => match x with | .int i => prB sizes.length i.toNat | _ => []) (fun x hx => ?_) ?_
  · obtain ⟨hh, hm, rfl⟩ := List.mem_map.mp hx
    exists "v", [rangeV_nat]
    refine ⟨⟨by omega, by omega⟩, ?_⟩
    refine Rn_compP (fun x => match x with | .int t => if t = hh then none else some (.tup [.int (hh : Int), .int t]) | _ => none) (fun x hx => ?_) ?_
    · obtain ⟨t, ht, rfl⟩ := List.mem_map.mp hx
      exists "v"
      by_cases e : (hh : Int) = (t : Int)
      · have e2 : hh = t := by omega
        subst e2
        exists "v"
      · have e2 : ¬ (t : Int) = (hh : Int) := fun z => e z.symm
        exists "v", [e, e2]
    · refine ⟨?_, rfl⟩
      rw [List.filterMap_map]
      unfold prB
      rw [Int.toNat_natCast]
      have : ∀ l : List Nat, l.filterMap ((fun x => match x with | Val.int t => if t = (hh : Int) then none else some (Val.tup [.int (hh : Int), .int t]) | _ => none) ∘ fun (j : Nat) => Val.int (j : Int)) = (l.filter fun t => !decide (t = hh)).map fun (t : Nat) => Val.tup [.int (hh : Int), .int (t : Int)] := by
        intro l
        induction l with
        | nil => rfl
        | cons a l ih =>
          by_cases e : a = hh
          · subst e; simp [ih]
          · have e2 : ¬ (a : Int) = (hh : Int) := by omega
            simp [e, e2, ih]
      exact this _
  · rw [List.flatMap_map]
    simp only [Int.toNat_natCast]
    have lp := len_flat (prB sizes.length) (m := sizes.length) (List.range sizes.length) fun x _ => prB_len _ _
    rw [List.length_range] at lp
    simp only [show (fun a => prB sizes.length a) = prB sizes.length from rfl]
    have lp2 : sizes.length * sizes.length ≤ 8 * 8 := Nat.mul_le_mul hl hl
    exists "v", [hk, rangeV_nat]
    refine ⟨by omega, ⟨by omega, by omega⟩, ?_⟩
    refine Rn_comp2P (fun x => match x with | .int i => ((List.range sizes.length).flatMap (prB sizes.length)).map (fun x => match x with | .tup [.int a, .int b] => Val.tup [.int i, .int a, .int b] | _ => .non) | _ => []) (fun x hx => ?_) ?_
    · obtain ⟨kd, hm, rfl⟩ := List.mem_map.mp hx
      exists "v", [walk]
      refine Rn_compMap (fun x => match x with | .tup [.int a, .int b] => Val.tup [.int (kd : Int), .int a, .int b] | _ => .non) (fun x hx => ?_) ⟨rfl, rfl⟩
      obtain ⟨hh, _, hx⟩ := List.mem_flatMap.mp hx
      obtain ⟨t, _, rfl⟩ := List.mem_map.mp hx
      exists "v", [Option.bind_some]
    · rw [List.flatMap_map]
      have lq := len_flat (fun (kd : Nat) => ((List.range sizes.length).flatMap (prB sizes.length)).map fun x => match x with | .tup [.int a, .int b] => Val.tup [.int (kd : Int), .int a, .int b] | _ => .non) (m := sizes.length * sizes.length) (List.range k) fun x _ => by rw [List.length_map]; exact lp
      rw [List.length_range] at lq
      have lq2 : sizes.length * sizes.length * k ≤ 64 * 6 := Nat.mul_le_mul lp2 k6
      refine ⟨by dsimp only; omega, ?_⟩
      rw [show Val.tup [Val.tup (sizes.map Val.int), Val.int k] = hoV sizes k from rfl]
      refine Rn_compFil (fun x => match x with | .tup [.int kd, .int hh, .int t] => mv sizes st kd.toNat hh.toNat t.toNat | _ => false) (fun x hx => ?_) ?_
      · obtain ⟨kd, hkd, hx⟩ := List.mem_flatMap.mp hx
        obtain ⟨y, hy, rfl⟩ := List.mem_map.mp hx
        obtain ⟨hh, hhh, hy⟩ := List.mem_flatMap.mp hy
        obtain ⟨t, ht, rfl⟩ := List.mem_map.mp hy
        have ht := (List.mem_filter.mp ht).1
        rw [List.mem_range] at hkd hhh ht
        exists "v", [cc]
        rw [show Val.tup [Val.int kd, Val.int hh, Val.int t] = trip kd hh t from rfl, can_move_eq H S (by omega) hkd hhh ht]
        exists "v", [trip, Int.toNat_natCast]
        by_cases e : mv sizes st kd hh t = true
        · exists "v", [e]
        · rw [Bool.not_eq_true] at e
          exists "v", [e]
      · have e := dl_filter k sizes.length (mv sizes st) (fun x => match x with | .tup [.int kd, .int hh, .int t] => mv sizes st kd.toNat hh.toNat t.toNat | _ => false) fun kd h t _ _ _ => by simp [trip]
        dsimp only
        rw [e]
        rw [show ((List.range k).flatMap fun kd => (List.range sizes.length).flatMap fun h => ((List.range sizes.length).filter fun t => (!decide (t = h) && mv sizes st kd h t)).map fun t => trip kd h t) = dl sizes k sizes.length st from rfl]
        have ll := dl_len (sizes := sizes) (st := st) (k := k) hl k6
        exact ⟨by omega, (dl_gd hl k6).dle (by decide), rfl, List.take_length⟩
theorem pl_shp : ∀ (n m : Nat) (v : Val), n ≤ m → pl n v = true → shp m v = true
  | _, _, .int _, _, _ => by simp only [shp]
  | n + 1, 0, .tup l, h, _ => by omega
  | n + 1, 0, .lst l, h, _ => by omega
  | n + 1, m + 1, .tup l, h, e => by
    simp only [pl, Bool.and_eq_true] at e
    simp only [shp, List.all_eq_true]
    exact fun x hx => pl_shp n m x (by omega) (List.all_eq_true.mp e.2 x hx)
  | n + 1, m + 1, .lst l, h, e => by
    simp only [pl, Bool.and_eq_true] at e
    simp only [shp, List.all_eq_true]
    exact fun x hx => pl_shp n m x (by omega) (List.all_eq_true.mp e.2 x hx)
  | 0, _, .tup _, _, e => by simp [pl] at e
  | 0, _, .lst _, _, e => by simp [pl] at e
  | _, _, .non, _, e => by simp [pl] at e
  | _, _, .bl _, _, e => by simp [pl] at e
  | _, _, .str _, _, e => by simp [pl] at e
  | _, _, .dct0, _, e => by simp [pl] at e
  | _, _, .scr _, _, e => by simp [pl] at e
  | _, _, .ref _, _, e => by simp [pl] at e
theorem eq_same {n : Nat} {l : List Val} {h : MH} (hp : pl n (.tup l) = true) (hn : n ≤ 60) : cmpEq (.tup l) (.tup l) h = some true := by
  have e := pl_shp n 60 _ hn hp
  have e2 : pe (.tup l) h = some (toD (.tup l)) := by unfold pe; simp only [e, if_true]
  have e3 := SeqAt.eqv_refl _ (shp_lay 60 e).1
  cases l with
  | nil => rfl
  | cons a l =>
    have e0 : cmpE0 (.tup (a :: l)) (.tup (a :: l)) h = none := rfl
    have e4 : cmpEq (.tup (a :: l)) (.tup (a :: l)) h = (match cmpE0 (.tup (a :: l)) (.tup (a :: l)) h with
      | some c => some c
      | none => match pe (.tup (a :: l)) h, pe (.tup (a :: l)) h with
        | some x, some y => some (PyData.eqv x y)
        | _, _ => none) := rfl
    rw [e4, e0, e2]
    simp only [e3]
theorem ne_same {n : Nat} {l : List Val} {h : MH} (hp : pl n (.tup l) = true) (hn : n ≤ 60) : cmp .ne (.tup l) (.tup l) h = some false := by
  show (cmpEq _ _ h).map _ = _
  rw [eq_same hp hn]; rfl
theorem ne_tI {l : List Int} {h : MH} (hl : l.length ≤ 100) : cmp .ne (tI l) (tI l) h = some false := ne_same (pl_tI 0 hl) (by decide)
theorem ne_stV {L k : Nat} {st : List (List Int)} {h : MH} (S : Sq L k st) (hl : L ≤ 100) (hk : k ≤ 100) : cmp .ne (stV st) (stV st) h = some false := by
  refine ne_same (n := 2) ?_ (by decide)
  have := S.len
  simp only [pl, Bool.and_eq_true, decide_eq_true_eq, List.length_map, List.all_eq_true]
  refine ⟨by omega, fun x hx => ?_⟩
  obtain ⟨row, hr, rfl⟩ := List.mem_map.mp hx
  exact pl_tI 0 (by rw [S.rl row hr]; exact hk)
theorem in_dl {sizes : List Int} {k n : Nat} {st : List (List Int)} {kd a b : Nat} {h : MH} (hm : trip kd a b ∈ dl sizes k n st) : cmp .nin (trip kd a b) (.tup (dl sizes k n st)) h = some false := by
  have e1 : (dl sizes k n st).all (shp 59) = true := by
    rw [List.all_eq_true]
    intro x hx
    unfold dl at hx
    obtain ⟨kd, _, hx⟩ := List.mem_flatMap.mp hx
    obtain ⟨a, _, hx⟩ := List.mem_flatMap.mp hx
    obtain ⟨b, _, rfl⟩ := List.mem_map.mp hx
    simp [trip, shp]
  have e2 : pe (trip kd a b) h = some (toD (trip kd a b)) := by
    unfold pe trip; simp [shp]
  have e3 : inl (toD (trip kd a b)) (dl sizes k n st) = true := by
    unfold inl
    rw [List.any_eq_true]
    exact ⟨_, hm, SeqAt.eqv_refl _ (shp_lay 60 (by simp [trip, shp])).1⟩
  show (cmpIn _ _ h).map _ = _
  unfold cmpIn
  simp only [show flat (trip kd a b) = false from rfl, Bool.false_and, e2, e1, e3, if_true, Bool.false_eq_true, if_false]
  rfl
theorem mem_dl {sizes : List Int} {k n : Nat} {st : List (List Int)} {v : Val} : v ∈ dl sizes k n st ↔ ∃ kd a b, kd < k ∧ a < n ∧ b < n ∧ b ≠ a ∧ 0 < at2 st a kd ∧ 0 < fr sizes st b ∧ v = trip kd a b := by
  unfold dl
  simp only [List.mem_flatMap, List.mem_range, List.mem_map, List.mem_filter, mv, Bool.and_eq_true, Bool.not_eq_true', decide_eq_false_iff_not, decide_eq_true_eq]
  constructor
  · rintro ⟨kd, h1, a, h2, b, ⟨h3, h4, h5, h6⟩, rfl⟩
    exact ⟨kd, a, b, h1, h2, h3, h4, h5, h6, rfl⟩
  · rintro ⟨kd, a, b, h1, h2, h3, h4, h5, h6, rfl⟩
    exact ⟨kd, h1, a, h2, b, ⟨h3, h4, h5, h6⟩, rfl⟩
theorem set_getD {α : Type} {l : List α} {j : Nat} {d : α} (h : j < l.length) : l.set j (l.getD j d) = l := by
  rw [List.getD_eq_getElem?_getD, List.getElem?_eq_getElem h]; simp
theorem putL_add {st : List (List Int)} {a j : Nat} {x y : Int} (ha : a < st.length) (hk : j < (rowAt st a).length) : putL (putL st a j x) a j y = putL st a j (x + y) := by
  unfold rowAt at hk
  unfold putL
  rw [getD_set _ _ _ _ _ ha, if_pos rfl, getD_set _ _ _ _ _ hk, if_pos rfl, List.set_set, List.set_set, Int.add_assoc]
theorem putL_zero {st : List (List Int)} {a j : Nat} (ha : a < st.length) (hk : j < (rowAt st a).length) : putL st a j 0 = st := by
  unfold rowAt at hk
  unfold putL
  rw [Int.add_zero, set_getD hk, set_getD ha]
def mvF (st : List (List Int)) (kd a b : Nat) (m : Int) : List (List Int) := putL (putL st a kd (0 - m)) b kd m
theorem mvF_back {st : List (List Int)} {kd a b : Nat} {m : Int} (ha : a < st.length) (hb : b < st.length) (h1 : kd < (rowAt st a).length) (h2 : kd < (rowAt st b).length) : mvF (mvF st kd a b m) kd b a m = st := by
  unfold mvF
  have l1 : b < (putL st a kd (0 - m)).length := by rw [putL_len]; exact hb
  have l2 : kd < (rowAt (putL st a kd (0 - m)) b).length := by rw [len_put _ _ _ _ _ ha]; exact h2
  rw [putL_add l1 l2, show m + (0 - m) = 0 by omega, putL_zero l1 l2, putL_add ha h1, show 0 - m + m = 0 by omega, putL_zero ha h1]
theorem put_eq (h72 : P 72 = some d72) {L K : Nat} {st : List (List Int)} (S : Sq L K st) (hL : L ≤ 100) (hK : K ≤ 100) {a j : Nat} {m : Int} {h : MH} (ha : a < L) (hk : j < K) : callM P fuel (d + 1) base 72 [stV st, .int a, .int j, .int m] h = .ok (stV (putL st a j m)) h := by
  refine Rn_eq (Rn_callF h72 rfl rfl fun C cc cb cf => ?_)
  have l1 := S.len
  have l2 : (rowAt st a).length = K := S.at_ ha
  simp only [d72, stV]
  exists "v", [cc, ix_row (st := st) (show a < st.length by omega), tI, ix_num (row := rowAt st a) (show j < (rowAt st a).length by omega), cut_to _ (show (0 : Int) ≤ (a : Int) by omega), cut_to _ (show (0 : Int) ≤ (j : Int) by omega), cut_from _ (show (0 : Int) ≤ (a : Int) + 1 by omega), cut_from _ (show (0 : Int) ≤ (j : Int) + 1 by omega)]
  have lm : (st.map tI).length = L := by rw [List.length_map]; exact l1
  have lr : ((rowAt st a).map Val.int).length = K := by rw [List.length_map]; exact l2
  have eset : ∀ (l : List Val) (i : Nat) (x : Val), i < l.length → l.take i ++ [x] ++ l.drop (i + 1) = l.set i x := fun l i x hi => by
    rw [List.set_eq_take_append_cons_drop, if_pos hi]; simp
  simp only [Int.toNat_natCast, show ((j : Int) + 1).toNat = j + 1 by omega, show ((a : Int) + 1).toNat = a + 1 by omega]
  rw [eset _ j _ (by omega), eset _ a _ (by omega)]
  have ef : Val.tup ((st.map tI).set a (Val.tup (((rowAt st a).map Val.int).set j (.int ((rowAt st a).getD j 0 + m))))) = stV (putL st a j m) := by
    unfold putL stV rowAt
    rw [List.map_set]
    simp only [tI, List.map_set]
  rw [ef]
  refine ⟨by rw [List.length_take]; omega, by simp only [List.length_append, List.length_take, List.length_drop, List.length_cons, List.length_nil]; omega, by rw [List.length_take]; omega, by simp only [List.length_append, List.length_take, List.length_drop, List.length_cons, List.length_nil]; omega, ?_, rfl⟩
  exact stV_dle 58 _
theorem check_eq (H : HMm P) {sizes : List Int} {kinds : Int} {k kd a b : Nat} {h : MH} (hk : kinds = k) (h1 : kd < k) (h2 : a < sizes.length) (h3 : b < sizes.length) (h4 : b ≠ a) : callM P fuel (d + 3) base 104 [hoV sizes kinds, trip kd a b] h = .ok .non h := by
  refine Rn_eq (Rn_callF H.h104 rfl rfl fun C cc cb cf => ?_)
  have e1 : fromB (.int kd) 0 (kinds - 1) = true := by rw [fromB_i]; simp; omega
  have e2 : fromB (.int a) 0 ((sizes.length : Int) - 1) = true := by rw [fromB_i]; simp; omega
  have e3 : fromB (.int b) 0 ((sizes.length : Int) - 1) = true := by rw [fromB_i]; simp; omega
  have e4 : ¬ ((b : Int) = (a : Int)) := by omega
  simp only [d104, hoV, tI, trip]
  exists "v", [cc, walk, is_from_eq H.h1 H.h2 (v := .int kd) rfl, is_from_eq H.h1 H.h2 (v := .int a) rfl, is_from_eq H.h1 H.h2 (v := .int b) rfl, e1, e2, e3, e4]
  trace_state
theorem moved_eq (H : HMm P) {sizes : List Int} {kinds : Int} {st : List (List Int)} {k kd a b : Nat} {m : Int} {h : MH} (hk : kinds = k) (S : Sq sizes.length k st) (hl : sizes.length ≤ 100) (hK : k ≤ 100) (h1 : kd < k) (h2 : a < sizes.length) (h3 : b < sizes.length) (h4 : b ≠ a)
    (m0 : 0 ≤ m) (m1 : m ≤ at2 st a kd) (m2 : m ≤ fr sizes st b) (m3 : m ≤ 10 ^ 12) : callM P fuel (d + 4) base 105 [hoV sizes kinds, stV st, trip kd a b, .int m] h = .ok (stV (mvF st kd a b m)) h := by
  refine Rn_eq (Rn_callF H.h105 rfl rfl fun C cc cb cf => ?_)
  have l1 := S.len
  have l2 : (rowAt st a).length = k := S.at_ h2
  have e1 : fromB (.int m) 0 1000000000000 = true := by rw [fromB_i]; simp; omega
  have e5 := check_eq (fuel := fuel) (d := d) (base := h.length) H (h := h) hk h1 h2 h3 h4
  simp only [d105]
  exists "v", [cc, e5, is_from_eq H.h1 H.h2 (v := .int m) rfl, e1]
  simp only [trip]
  have e6 : ¬ (rowAt st a).getD kd 0 < m := by unfold at2 at m1; omega
  have e7 : ¬ fr sizes st b < m := by omega
  exists "v", [walk, cc, places_eq (d := d + 2) H.h23 (show sizes.length ≤ 1000 by omega)]
  simp only [stV]
  exists "v", [ix_row (st := st) (show a < st.length by omega), tI, ix_num (row := rowAt st a) (show kd < (rowAt st a).length by omega), places_get (sizes := sizes) l1 (show b < st.length by omega), e6, e7]
  simp only [show Val.tup (st.map tI) = stV st from rfl]
  exists "v", [put_eq (d := d + 2) H.h72 S hl hK h2 h1, put_eq (d := d + 2) H.h72 (S.put kd (0 - m) h2) hl hK h3 h1, mvF]
  exact ⟨stV_dle 58 _, rfl⟩
theorem placesF_sum : ∀ (sizes : List Int) (st : List (List Int)), sizes.length = st.length → (placesF sizes st).sum = sizes.sum - (st.map List.sum).sum
  | [], [], _ => rfl
  | s :: sizes, row :: st, h => by
    have := placesF_sum sizes st (by simpa using h)
    simp only [placesF, List.zipWith_cons_cons, List.sum_cons, List.map_cons] at this ⊢
    omega
def stepV (kd a b : Nat) (m : Int) (st : List (List Int)) : Val := .tup [.int kd, .int a, .int b, .int m, stV st]
inductive Ch (sizes : List Int) (k : Nat) (st0 : List (List Int)) : List Val → List (List Int) → Prop
  | nil : Ch sizes k st0 [] st0
  | snoc {P : List Val} {st : List (List Int)} {kd a b : Nat} {m : Int} : Ch sizes k st0 P st → St sizes k st → kd < k → a < sizes.length → b < sizes.length → b ≠ a → 0 < m → m ≤ at2 st a kd → m ≤ fr sizes st b → Ch sizes k st0 (P ++ [stepV kd a b m st]) (mvF st kd a b m)
theorem mv_St {sizes : List Int} {k : Nat} {st : List (List Int)} (s : St sizes k st) {kd a b : Nat} {m : Int} (h1 : kd < k) (h2 : a < sizes.length) (h3 : b < sizes.length) (h4 : b ≠ a) (h5 : 0 < m) (h6 : m ≤ at2 st a kd) (h7 : m ≤ fr sizes st b) :
    St sizes k (mvF st kd a b m) ∧ ∀ i, col (mvF st kd a b m) i = col st i :=
  s.move (by rw [s.len]; exact h2) (by rw [s.len]; exact h3) (Ne.symm h4) h1 (by omega) h6 h7
theorem Ch.ok {sizes : List Int} {k : Nat} {st0 st : List (List Int)} {P : List Val} (h0 : St sizes k st0) (h : Ch sizes k st0 P st) : St sizes k st ∧ ∀ i, col st i = col st0 i := by
  induction h with
  | nil => exact ⟨h0, fun _ => rfl⟩
  | snoc c s h1 h2 h3 h4 h5 h6 h7 ih =>
    have := mv_St s h1 h2 h3 h4 h5 h6 h7
    exact ⟨this.1, fun i => (this.2 i).trans (ih.2 i)⟩
theorem Ch.last {sizes : List Int} {k : Nat} {st0 st : List (List Int)} {P' : List Val} (h : Ch sizes k st0 P' st) : ∀ (P : List Val) (v : Val), P' = P ++ [v] →
    ∃ st1 kd a b m, v = stepV kd a b m st1 ∧ st = mvF st1 kd a b m ∧ Ch sizes k st0 P st1 ∧ St sizes k st1 ∧ kd < k ∧ a < sizes.length ∧ b < sizes.length ∧ b ≠ a ∧ 0 < m ∧ m ≤ at2 st1 a kd ∧ m ≤ fr sizes st1 b := by
  intro P v e
  cases h with
  | nil => simp at e
  | snoc c s h1 h2 h3 h4 h5 h6 h7 =>
    obtain ⟨rfl, e2⟩ := List.append_inj' e rfl
    cases e2
    exact ⟨_, _, _, _, _, rfl, rfl, c, s, h1, h2, h3, h4, h5, h6, h7⟩
theorem Ch.nil_eq {sizes : List Int} {k : Nat} {st0 st : List (List Int)} (h : Ch sizes k st0 [] st) : st = st0 := by
  generalize e : ([] : List Val) = P at h
  cases h with
  | nil => rfl
  | snoc => simp at e
theorem idx_at2 {st : List (List Int)} {row : List Int} (hr : row ∈ st) {x : Int} (hx : x ∈ row) : ∃ a j, a < st.length ∧ x = at2 st a j := by
  obtain ⟨a, ea⟩ := List.getElem?_of_mem hr
  obtain ⟨j, ej⟩ := List.getElem?_of_mem hx
  refine ⟨a, j, (List.getElem?_eq_some_iff.mp ea).1, ?_⟩
  unfold at2 rowAt
  rw [List.getD_eq_getElem?_getD (l := st), ea, Option.getD_some, List.getD_eq_getElem?_getD, ej, Option.getD_some]
theorem sta_St {sizes : List Int} {k : Nat} {st : List (List Int)} (s : St sizes k st) (hsz : ∀ s ∈ sizes, SizeOk s) : Sta sizes k st := ⟨s.sq, fun row hr x hx => by
  obtain ⟨a, j, la, rfl⟩ := idx_at2 hr hx
  have := s.nn a j
  have := s.big hsz a j la
  omega⟩
theorem zipB_of {f : Int → Val → Bool} : ∀ (ss : List Int) (st : List (List Int)), (∀ (i : Nat) (s : Int) (row : List Int), ss[i]? = some s → st[i]? = some row → f s (tI row) = true) → zipB f ss (st.map tI) = true
  | [], _, _ => by simp [zipB]
  | s :: ss, [], _ => by simp [zipB]
  | s :: ss, r :: st, h => by
    have := zipB_of ss st fun i s r e1 e2 => h (i + 1) s r e1 e2
    simp [zipB, h 0 s r rfl rfl, this]
theorem stand_true {sizes : List Int} {kinds : Int} {k : Nat} {st : List (List Int)} (hk : kinds = k) (s : St sizes k st) : standB sizes kinds (stV st) = true := by
  have hl := s.len
  simp only [standB, stV, Bool.and_eq_true, decide_eq_true_eq, List.length_map]
  refine ⟨by omega, zipB_of _ _ fun i z row e1 e2 => ?_⟩
  have la := (List.getElem?_eq_some_iff.mp e2).1
  have er : rowAt st i = row := by unfold rowAt; rw [List.getD_eq_getElem?_getD, e2]; rfl
  have ez : sizes.getD i 0 = z := by rw [List.getD_eq_getElem?_getD, e1]; rfl
  have hs := s.le i la
  have hr := s.rl i la
  rw [er] at hs hr
  rw [ez] at hs
  have nn : ∀ x ∈ row, 0 ≤ x := fun x hx => by
    obtain ⟨j, ej⟩ := List.getElem?_of_mem hx
    have := s.nn i j
    unfold at2 at this
    rw [er, List.getD_eq_getElem?_getD, ej] at this
    exact this
  simp only [tI, roomB, intsOf_map, Bool.and_eq_true, decide_eq_true_eq, List.length_map, List.all_eq_true]
  refine ⟨⟨by omega, fun u hu => ?_⟩, hs⟩
  obtain ⟨x, hx, rfl⟩ := List.mem_map.mp hu
  obtain ⟨j, ej⟩ := List.getElem?_of_mem hx
  have h1 := le_sum j nn
  rw [List.getD_eq_getElem?_getD, ej, Option.getD_some] at h1
  have h0 := nn x hx
  rw [fromB_i]
  simp; omega
theorem things_same {k : Nat} {st st0 : List (List Int)} (h : ∀ i, col st i = col st0 i) : thingsF k st = thingsF k st0 := List.map_congr_left fun i _ => h i
theorem back_facts {sizes : List Int} {k : Nat} {st : List (List Int)} (s : St sizes k st) {kd a b : Nat} {m : Int} (h1 : kd < k) (h2 : a < sizes.length) (h3 : b < sizes.length) (h4 : b ≠ a) (h5 : 0 < m) (h6 : m ≤ at2 st a kd) (h7 : m ≤ fr sizes st b) :
    m ≤ at2 (mvF st kd a b m) b kd ∧ m ≤ fr sizes (mvF st kd a b m) a := by
  have la : a < st.length := by rw [s.len]; exact h2
  have lb : b < st.length := by rw [s.len]; exact h3
  have l1 : kd < (rowAt st a).length := by rw [s.rl a la]; exact h1
  have l2 : b < (putL st a kd (0 - m)).length := by rw [putL_len]; exact lb
  have l3 : kd < (rowAt (putL st a kd (0 - m)) b).length := by rw [len_put _ _ _ _ _ la, s.rl b lb]; exact h1
  unfold mvF fr
  rw [at2_put _ _ _ _ _ _ l2 l3, if_pos ⟨rfl, rfl⟩, at2_put _ _ _ _ _ _ la l1, if_neg (fun z => h4 z.1), sum_put _ _ _ _ _ l2 l3, if_neg (Ne.symm h4), sum_put _ _ _ _ _ la l1, if_pos rfl]
  have := s.nn b kd
  have := s.le a la
  omega
end
end MP

/-! MiniTA: what hangs together by pairs of a room and a kind. -/
namespace MP
abbrev Prs := List (Nat × Nat)
inductive Cn (P : Prs) (r : Nat) : Nat → Prop
  | refl : Cn P r r
  | step {s t k : Nat} : Cn P r s → (s, k) ∈ P → (t, k) ∈ P → Cn P r t
theorem Cn.trans {P : Prs} {r s t : Nat} (a : Cn P r s) (b : Cn P s t) : Cn P r t := by
  induction b with
  | refl => exact a
  | step _ h1 h2 ih => exact .step ih h1 h2
theorem Cn.symm {P : Prs} {r s : Nat} (a : Cn P r s) : Cn P s r := by
  induction a with
  | refl => exact .refl
  | step _ h1 h2 ih => exact (Cn.step .refl h2 h1).trans ih
theorem Cn.mono {P Q : Prs} {r s : Nat} (h : ∀ p ∈ P, p ∈ Q) (a : Cn P r s) : Cn Q r s := by
  induction a with
  | refl => exact .refl
  | step _ h1 h2 ih => exact .step ih (h _ h1) (h _ h2)
/-- a room in which something is amiss -/
def InR (P : Prs) (r : Nat) : Prop := ∃ k, (r, k) ∈ P
theorem Cn.inR {P : Prs} {r s : Nat} (a : Cn P r s) (h : InR P r) : InR P s := by
  cases a with
  | refl => exact h
  | step _ _ h2 => exact ⟨_, h2⟩
abbrev Pc := List Nat × List Nat
structure IsC (P : Prs) (p : Pc) (r : Nat) : Prop where
  inr : InR P r
  up1 : p.1.Pairwise (· < ·)
  up2 : p.2.Pairwise (· < ·)
  rooms : ∀ x, x ∈ p.1 ↔ Cn P r x
  kinds : ∀ k, k ∈ p.2 ↔ ∃ s, Cn P r s ∧ (s, k) ∈ P
theorem upN_eq : ∀ {l m : List Nat}, l.Pairwise (· < ·) → m.Pairwise (· < ·) → (∀ x, x ∈ l ↔ x ∈ m) → l = m
  | [], [], _, _, _ => rfl
  | [], y :: m, _, _, h => absurd ((h y).mpr List.mem_cons_self) (by simp)
  | x :: l, [], _, _, h => absurd ((h x).mp List.mem_cons_self) (by simp)
  | x :: l, y :: m, hl, hm, h => by
    obtain ⟨l1, l2⟩ := List.pairwise_cons.mp hl
    obtain ⟨m1, m2⟩ := List.pairwise_cons.mp hm
    have e : x = y := by
      rcases List.mem_cons.mp ((h x).mp List.mem_cons_self) with e | e
      · exact e
      · rcases List.mem_cons.mp ((h y).mpr List.mem_cons_self) with e2 | e2
        · exact e2.symm
        · have := m1 x e
          have := l1 y e2
          omega
    subst e
    refine congrArg (x :: ·) (upN_eq l2 m2 fun z => ?_)
    constructor
    · intro hz
      rcases List.mem_cons.mp ((h z).mp (List.mem_cons_of_mem _ hz)) with e | e
      · have := l1 z hz; omega
      · exact e
    · intro hz
      rcases List.mem_cons.mp ((h z).mpr (List.mem_cons_of_mem _ hz)) with e | e
      · have := m1 z hz; omega
      · exact e
theorem IsC.self {P : Prs} {p : Pc} {r : Nat} (h : IsC P p r) : r ∈ p.1 := (h.rooms r).mpr .refl
/-- any of its rooms tells it -/
theorem IsC.at {P : Prs} {p : Pc} {r s : Nat} (h : IsC P p r) (hs : s ∈ p.1) : IsC P p s := by
  have c := (h.rooms s).mp hs
  exact ⟨c.inR h.inr, h.up1, h.up2, fun x => (h.rooms x).trans ⟨fun a => c.symm.trans a, fun a => c.trans a⟩, fun k => (h.kinds k).trans ⟨fun ⟨x, a, b⟩ => ⟨x, c.symm.trans a, b⟩, fun ⟨x, a, b⟩ => ⟨x, c.trans a, b⟩⟩⟩
theorem IsC.uniq {P : Prs} {p q : Pc} {r : Nat} (h : IsC P p r) (h' : IsC P q r) : p = q := by
  have e1 := upN_eq h.up1 h'.up1 fun x => (h.rooms x).trans (h'.rooms x).symm
  have e2 := upN_eq h.up2 h'.up2 fun x => (h.kinds x).trans (h'.kinds x).symm
  cases p; cases q
  simp only at e1 e2
  rw [e1, e2]
theorem IsC.meet {P : Prs} {p q : Pc} {r s x : Nat} (h : IsC P p r) (h' : IsC P q s) (h1 : x ∈ p.1) (h2 : x ∈ q.1) : p = q := (h.at h1).uniq (h'.at h2)
theorem IsC.meetK {P : Prs} {p q : Pc} {r s k : Nat} (h : IsC P p r) (h' : IsC P q s) (h1 : k ∈ p.2) (h2 : k ∈ q.2) : p = q := by
  obtain ⟨x, a, b⟩ := (h.kinds k).mp h1
  obtain ⟨y, c, d⟩ := (h'.kinds k).mp h2
  have hx : y ∈ p.1 := (h.rooms y).mpr (.step a b d)
  exact h.meet h' hx ((h'.rooms y).mpr c)
theorem IsC.kind {P : Prs} {p : Pc} {r s k : Nat} (h : IsC P p r) (hs : s ∈ p.1) (hp : (s, k) ∈ P) : k ∈ p.2 := (h.kinds k).mpr ⟨s, (h.rooms s).mp hs, hp⟩
theorem IsC.room {P : Prs} {p : Pc} {r s k : Nat} (h : IsC P p r) (hk : k ∈ p.2) (hp : (s, k) ∈ P) : s ∈ p.1 := by
  obtain ⟨x, a, b⟩ := (h.kinds k).mp hk
  exact (h.rooms s).mpr (.step a b hp)
def hd1 (p : Pc) : Nat := p.1.headD 0
theorem IsC.hd {P : Prs} {p : Pc} {r : Nat} (h : IsC P p r) : hd1 p ∈ p.1 ∧ ∀ x ∈ p.1, hd1 p ≤ x := by
  obtain ⟨A, B⟩ := p
  have hs := h.self
  cases A with
  | nil => simp at hs
  | cons a A =>
    refine ⟨List.mem_cons_self, fun x hx => ?_⟩
    show a ≤ x
    rcases List.mem_cons.mp hx with rfl | hx
    · exact Nat.le_refl _
    · exact Nat.le_of_lt ((List.pairwise_cons.mp h.up1).1 x hx)
/-- all that hang together, by their first rooms -/
structure Comps (P : Prs) (F : List Pc) : Prop where
  each : ∀ p ∈ F, ∃ r, IsC P p r
  up : F.Pairwise fun p q => hd1 p < hd1 q
  all : ∀ r, InR P r → ∃ p ∈ F, r ∈ p.1
theorem hdUp_eq : ∀ {F G : List Pc}, F.Pairwise (fun p q => hd1 p < hd1 q) → G.Pairwise (fun p q => hd1 p < hd1 q) → (∀ p, p ∈ F ↔ p ∈ G) → F = G
  | [], [], _, _, _ => rfl
  | [], y :: m, _, _, h => absurd ((h y).mpr List.mem_cons_self) (by simp)
  | x :: l, [], _, _, h => absurd ((h x).mp List.mem_cons_self) (by simp)
  | x :: l, y :: m, hl, hm, h => by
    obtain ⟨l1, l2⟩ := List.pairwise_cons.mp hl
    obtain ⟨m1, m2⟩ := List.pairwise_cons.mp hm
    have e : x = y := by
      rcases List.mem_cons.mp ((h x).mp List.mem_cons_self) with e | e
      · exact e
      · rcases List.mem_cons.mp ((h y).mpr List.mem_cons_self) with e2 | e2
        · exact e2.symm
        · have := m1 x e
          have := l1 y e2
          omega
    subst e
    refine congrArg (x :: ·) (hdUp_eq l2 m2 fun z => ?_)
    constructor
    · intro hz
      rcases List.mem_cons.mp ((h z).mp (List.mem_cons_of_mem _ hz)) with e | e
      · have := l1 z hz; subst e; omega
      · exact e
    · intro hz
      rcases List.mem_cons.mp ((h z).mpr (List.mem_cons_of_mem _ hz)) with e | e
      · have := m1 z hz; subst e; omega
      · exact e
theorem Comps.uniq {P : Prs} {F G : List Pc} (a : Comps P F) (b : Comps P G) : F = G := by
  have half : ∀ {F G : List Pc}, Comps P F → Comps P G → ∀ p ∈ F, p ∈ G := fun {F G} a b p hp => by
    obtain ⟨r, h⟩ := a.each p hp
    obtain ⟨q, hq, hr⟩ := b.all r h.inr
    obtain ⟨s, h'⟩ := b.each q hq
    rw [h.meet h' h.self hr]
    exact hq
  exact hdUp_eq a.up b.up fun p => ⟨half a b p, half b a p⟩
/-! ### piece by piece: the first room of each -/
structure Seen (P : Prs) (i : Nat) (F : List Pc) : Prop where
  each : ∀ p ∈ F, ∃ r, IsC P p r
  hd : ∀ p ∈ F, ∃ j k, j < i ∧ P[j]? = some (hd1 p, k)
  up : F.Pairwise fun p q => hd1 p < hd1 q
  all : ∀ (j r k : Nat), j < i → P[j]? = some (r, k) → ∃ p ∈ F, r ∈ p.1
theorem Seen.zero (P : Prs) : Seen P 0 [] := ⟨(fun _ z => nomatch z), (fun _ z => nomatch z), .nil, fun j r k h => absurd h (Nat.not_lt_zero _)⟩
theorem Seen.end {P : Prs} {i : Nat} {F : List Pc} (h : Seen P i F) (hi : P.length ≤ i) : Comps P F := by
  refine ⟨h.each, h.up, fun r ⟨k, hk⟩ => ?_⟩
  obtain ⟨j, hj⟩ := List.getElem?_of_mem hk
  exact h.all j r k (Nat.lt_of_lt_of_le (List.getElem?_eq_some_iff.mp hj).1 hi) hj
theorem Seen.old {P : Prs} {i r k : Nat} {F : List Pc} (h : Seen P i F) (e : P[i]? = some (r, k)) (hr : ∃ p ∈ F, r ∈ p.1) : Seen P (i + 1) F := by
  refine ⟨h.each, fun p hp => ?_, h.up, fun j s k' hj ej => ?_⟩
  · obtain ⟨j, k', a, b⟩ := h.hd p hp
    exact ⟨j, k', by omega, b⟩
  · by_cases c : j < i
    · exact h.all j s k' c ej
    · have : j = i := by omega
      subst this
      rw [e] at ej
      cases ej
      exact hr
theorem Seen.new {P : Prs} {i r k : Nat} {F : List Pc} {p : Pc} (h : Seen P i F) (hs : P.Pairwise fun a b => a.1 ≤ b.1) (e : P[i]? = some (r, k)) (hr : ¬ ∃ p ∈ F, r ∈ p.1) (hp : IsC P p r) : Seen P (i + 1) (F ++ [p]) := by
  have le : ∀ {j x k'}, P[j]? = some (x, k') → j < i → x ≤ r := fun {j x k'} a b => by
    obtain ⟨h1, e1⟩ := List.getElem?_eq_some_iff.mp a
    obtain ⟨h2, e2⟩ := List.getElem?_eq_some_iff.mp e
    have := List.pairwise_iff_getElem.mp hs j i h1 h2 b
    rw [e1, e2] at this
    exact this
  have first : hd1 p = r := by
    obtain ⟨h1, h2⟩ := hp.hd
    have h3 := h2 r hp.self
    by_cases c : hd1 p = r
    · exact c
    · have hc := (hp.rooms _).mp h1
      obtain ⟨k', hk'⟩ := hc.inR hp.inr
      obtain ⟨j, hj⟩ := List.getElem?_of_mem hk'
      have hlt : j < i := by
        rcases Nat.lt_or_ge j i with q | q
        · exact q
        · exfalso
          obtain ⟨g1, e1⟩ := List.getElem?_eq_some_iff.mp hj
          obtain ⟨g2, e2⟩ := List.getElem?_eq_some_iff.mp e
          rcases Nat.lt_or_eq_of_le q with q | q
          · have := List.pairwise_iff_getElem.mp hs i j g2 g1 q
            rw [e1, e2] at this
            simp only at this
            omega
          · subst q
            rw [e] at hj
            cases hj
            exact c rfl
      obtain ⟨q, hq, hx⟩ := h.all j _ _ hlt hj
      obtain ⟨s, hs'⟩ := h.each q hq
      exact absurd ⟨q, hq, (hs'.rooms r).mpr (((hs'.rooms _).mp hx).trans hc.symm)⟩ hr
  refine ⟨fun q hq => ?_, fun q hq => ?_, ?_, fun j s k' hj ej => ?_⟩
  · rcases List.mem_append.mp hq with hq | hq
    · exact h.each q hq
    · rw [List.mem_singleton.mp hq]; exact ⟨r, hp⟩
  · rcases List.mem_append.mp hq with hq | hq
    · obtain ⟨j, k', a, b⟩ := h.hd q hq
      exact ⟨j, k', by omega, b⟩
    · rw [List.mem_singleton.mp hq, first]; exact ⟨i, k, by omega, e⟩
  · rw [List.pairwise_append]
    refine ⟨h.up, List.pairwise_singleton _ _, fun a ha b hb => ?_⟩
    rw [List.mem_singleton.mp hb, first]
    obtain ⟨j, k', c, d⟩ := h.hd a ha
    have h1 := le d c
    obtain ⟨s, hs'⟩ := h.each a ha
    have h2 := hs'.hd.1
    rcases Nat.lt_or_eq_of_le h1 with q | q
    · exact q
    · exact absurd ⟨a, ha, q ▸ h2⟩ hr
  · by_cases c : j < i
    · obtain ⟨q, hq, hx⟩ := h.all j s k' c ej
      exact ⟨q, List.mem_append_left _ hq, hx⟩
    · have : j = i := by omega
      subst this
      rw [e] at ej
      cases ej
      exact ⟨p, by simp, hp.self⟩
/-! ### merging -/
/-- what hangs together by the pairs so far, in any order -/
structure Grp (P : Prs) (G : List Pc) : Prop where
  each : ∀ p ∈ G, ∃ r, IsC P p r
  all : ∀ r, InR P r → ∃ p ∈ G, r ∈ p.1
  nd : G.Nodup
theorem Grp.nil : Grp [] [] := ⟨(fun _ z => nomatch z), (fun r ⟨k, z⟩ => nomatch z), .nil⟩
def near (r k : Nat) (p : Pc) : Bool := p.1.contains r || p.2.contains k
theorem near_iff {r k : Nat} {p : Pc} : near r k p = true ↔ r ∈ p.1 ∨ k ∈ p.2 := by simp [near]
theorem Grp.add {P : Prs} {G : List Pc} (h : Grp P G) {r k : Nat} {p : Pc} (u1 : p.1.Pairwise (· < ·)) (u2 : p.2.Pairwise (· < ·))
    (m1 : ∀ x, x ∈ p.1 ↔ x = r ∨ ∃ q ∈ G, near r k q = true ∧ x ∈ q.1) (m2 : ∀ x, x ∈ p.2 ↔ x = k ∨ ∃ q ∈ G, near r k q = true ∧ x ∈ q.2) : Grp (P ++ [(r, k)]) (G.filter (fun q => !near r k q) ++ [p]) := by
  have sub : ∀ q ∈ P, q ∈ P ++ [(r, k)] := fun q hq => List.mem_append_left _ hq
  have new : (r, k) ∈ P ++ [(r, k)] := by simp
  have cases' : ∀ {s k'}, (s, k') ∈ P ++ [(r, k)] → (s, k') ∈ P ∨ (s = r ∧ k' = k) := fun {s k'} hq => by
    rcases List.mem_append.mp hq with hq | hq
    · exact .inl hq
    · rw [List.mem_singleton] at hq; cases hq; exact .inr ⟨rfl, rfl⟩
  have home : ∀ {s k'}, (s, k') ∈ P → ∃ q ∈ G, s ∈ q.1 ∧ k' ∈ q.2 := fun {s k'} hq => by
    obtain ⟨q, h1, h2⟩ := h.all s ⟨k', hq⟩
    obtain ⟨z, hz⟩ := h.each q h1
    exact ⟨q, h1, h2, hz.kind h2 hq⟩
  have isN : ∀ {x}, x ∈ p.1 ↔ x = r ∨ ∃ q ∈ G, near r k q = true ∧ x ∈ q.1 := fun {x} => m1 x
  have fwd : ∀ {x}, Cn (P ++ [(r, k)]) r x → x ∈ p.1 := fun {x} c => by
    induction c with
    | refl => exact (m1 r).mpr (.inl rfl)
    | @step s t k' _ h1 h2 ih =>
      -- the kind is k, or one of a piece that is near
      have kk : k' = k ∨ ∃ q ∈ G, near r k q = true ∧ k' ∈ q.2 := by
        rcases cases' h1 with h1 | ⟨_, h1⟩
        · obtain ⟨q, hq, hs, hk⟩ := home h1
          rcases (m1 s).mp ih with rfl | ⟨q', hq', hn, hs'⟩
          · exact .inr ⟨q, hq, near_iff.mpr (.inl hs), hk⟩
          · obtain ⟨z, hz⟩ := h.each q hq
            obtain ⟨z', hz'⟩ := h.each q' hq'
            have e := hz.meet hz' hs hs'
            subst e
            exact .inr ⟨q, hq, hn, hk⟩
        · exact .inl h1
      rcases cases' h2 with h2 | ⟨h2, _⟩
      · obtain ⟨q, hq, ht, hk⟩ := home h2
        refine (m1 t).mpr (.inr ⟨q, hq, ?_, ht⟩)
        rcases kk with rfl | ⟨q', hq', hn, hk'⟩
        · exact near_iff.mpr (.inr hk)
        · obtain ⟨z, hz⟩ := h.each q hq
          obtain ⟨z', hz'⟩ := h.each q' hq'
          rw [hz.meetK hz' hk hk']
          exact hn
      · exact (m1 t).mpr (.inl h2)
  have bwd : ∀ {x}, x ∈ p.1 → Cn (P ++ [(r, k)]) r x := fun {x} hx => by
    rcases (m1 x).mp hx with rfl | ⟨q, hq, hn, hx'⟩
    · exact .refl
    · obtain ⟨z, hz⟩ := h.each q hq
      rcases near_iff.mp hn with hr | hk
      · exact (((hz.rooms r).mp hr).symm.trans ((hz.rooms x).mp hx')).mono sub
      · obtain ⟨y, a, b⟩ := (hz.kinds k).mp hk
        exact (Cn.step .refl new (sub _ b)).trans ((a.symm.trans ((hz.rooms x).mp hx')).mono sub)
  have isP : IsC (P ++ [(r, k)]) p r := by
    refine ⟨⟨k, new⟩, u1, u2, fun x => ⟨bwd, fwd⟩, fun k' => ⟨fun hk => ?_, fun ⟨s, hs, hp⟩ => ?_⟩⟩
    · rcases (m2 k').mp hk with rfl | ⟨q, hq, hn, hk'⟩
      · exact ⟨r, .refl, new⟩
      · obtain ⟨z, hz⟩ := h.each q hq
        obtain ⟨y, a, b⟩ := (hz.kinds k').mp hk'
        exact ⟨y, bwd ((m1 y).mpr (.inr ⟨q, hq, hn, (hz.rooms y).mpr a⟩)), sub _ b⟩
    · rcases cases' hp with hp | ⟨_, hp⟩
      · obtain ⟨q, hq, h1, h2⟩ := home hp
        refine (m2 k').mpr (.inr ⟨q, hq, ?_, h2⟩)
        rcases (m1 s).mp (fwd hs) with rfl | ⟨q', hq', hn, hs'⟩
        · exact near_iff.mpr (.inl h1)
        · obtain ⟨z, hz⟩ := h.each q hq
          obtain ⟨z', hz'⟩ := h.each q' hq'
          rw [hz.meet hz' h1 hs']
          exact hn
      · exact (m2 k').mpr (.inl hp)
  have far : ∀ q ∈ G, near r k q = false → ∃ z, IsC (P ++ [(r, k)]) q z := fun q hq hn => by
    obtain ⟨z, hz⟩ := h.each q hq
    have nr : ¬ (r ∈ q.1 ∨ k ∈ q.2) := fun c => by rw [near_iff.mpr c] at hn; cases hn
    have same : ∀ {x}, Cn (P ++ [(r, k)]) z x → Cn P z x := fun {x} c => by
      induction c with
      | refl => exact .refl
      | @step s t k' _ h1 h2 ih =>
        have hs := (hz.rooms s).mpr ih
        rcases cases' h1 with g1 | ⟨g1, _⟩
        · rcases cases' h2 with g2 | ⟨_, g2⟩
          · exact .step ih g1 g2
          · exact absurd (.inr (g2 ▸ hz.kind hs g1)) nr
        · exact absurd (.inl (g1 ▸ hs)) nr
    refine ⟨z, ⟨_, sub _ hz.inr.choose_spec⟩, hz.up1, hz.up2, fun x => (hz.rooms x).trans ⟨Cn.mono sub, same⟩, fun k' => (hz.kinds k').trans ⟨fun ⟨s, a, b⟩ => ⟨s, a.mono sub, sub _ b⟩, fun ⟨s, a, b⟩ => ?_⟩⟩
    have hs := same a
    rcases cases' b with b | ⟨rfl, rfl⟩
    · exact ⟨s, hs, b⟩
    · exact absurd (.inl ((hz.rooms s).mpr hs)) nr
  refine ⟨fun q hq => ?_, fun s ⟨k', hs⟩ => ?_, ?_⟩
  · rcases List.mem_append.mp hq with hq | hq
    · rw [List.mem_filter] at hq
      exact far q hq.1 (by simpa using hq.2)
    · rw [List.mem_singleton.mp hq]; exact ⟨r, isP⟩
  · rcases cases' hs with hs | ⟨rfl, _⟩
    · obtain ⟨q, hq, h1, h2⟩ := home hs
      by_cases hn : near r k q = true
      · exact ⟨p, by simp, (m1 s).mpr (.inr ⟨q, hq, hn, h1⟩)⟩
      · exact ⟨q, by simp [hq, hn], h1⟩
    · exact ⟨p, by simp, isP.self⟩
  · rw [List.nodup_append]
    refine ⟨h.nd.filter _, by simp, fun a ha b hb e => ?_⟩
    rw [List.mem_singleton.mp hb] at e
    subst e
    rw [List.mem_filter] at ha
    have : near r k a = true := near_iff.mpr (.inl isP.self)
    rw [this] at ha
    exact absurd ha.2 (by decide)
/-- rising by the first rooms, it is all -/
theorem Grp.comps {P : Prs} {G F : List Pc} (h : Grp P G) (hm : ∀ p, p ∈ F ↔ p ∈ G) (up : F.Pairwise fun p q => hd1 p ≤ hd1 q) (nd : F.Nodup) : Comps P F := by
  refine ⟨fun p hp => h.each p ((hm p).mp hp), ?_, fun r hr => ?_⟩
  · have both := List.pairwise_and_iff.mpr ⟨up, nd⟩
    refine both.imp_of_mem fun {a b} ha hb ⟨h1, h2⟩ => ?_
    rcases Nat.lt_or_eq_of_le h1 with q | q
    · exact q
    · obtain ⟨z, hz⟩ := h.each a ((hm a).mp ha)
      obtain ⟨z', hz'⟩ := h.each b ((hm b).mp hb)
      exact absurd (hz.meet hz' hz.hd.1 (q ▸ hz'.hd.1)) h2
  · obtain ⟨p, hp, h1⟩ := h.all r hr
    exact ⟨p, (hm p).mpr hp, h1⟩
end MP

set_option maxHeartbeats 4000000
/-! MiniTB: amiss, ties, piece_of, pieces. -/
namespace MP
open PySem
set_option hygiene false in
local macro_rules
  | `(tactic| exists "w") => `(tactic| try simp (maxSteps := 2000000) only [Rn_bind, Rn_ok, Rn_some, Rn_og, Rn_obind, Rn_omap, wps, qs, List.getElem?_cons_zero, List.getElem?_cons_succ, Option.some.injEq, exists_eq_left', List.set_cons_zero, List.set_cons_succ, List.map_cons, List.map_nil, List.replicate, List.cons_append, List.nil_append, wipeE, List.foldr, retV, if_true, Bool.not_true, Bool.not_false, Bool.false_eq_true, if_false, decide_eq_true_eq])
  | `(tactic| exists "w", [$ts,*]) => `(tactic| try simp (maxSteps := 2000000) only [Rn_bind, Rn_ok, Rn_some, Rn_og, Rn_obind, Rn_omap, wps, qs, List.getElem?_cons_zero, List.getElem?_cons_succ, Option.some.injEq, exists_eq_left', List.set_cons_zero, List.set_cons_succ, List.map_cons, List.map_nil, List.replicate, List.cons_append, List.nil_append, wipeE, List.foldr, retV, if_true, Bool.not_true, Bool.not_false, Bool.false_eq_true, if_false, decide_eq_true_eq, $[$ts:term],*])
  | `(tactic| exists "v") => `(tactic| try simp (maxSteps := 2000000) only [Rn_bind, Rn_ok, Rn_some, Rn_og, Rn_obind, Rn_omap, wps, qs, List.getElem?_cons_zero, List.getElem?_cons_succ, Option.some.injEq, exists_eq_left', List.set_cons_zero, List.set_cons_succ, List.map_cons, List.map_nil, List.replicate, List.cons_append, List.nil_append, wipeE, List.foldr, retV, if_true, Bool.not_true, Bool.not_false, Bool.false_eq_true, if_false, decide_eq_true_eq, qt, q_mulL, List.foldl_cons, List.foldl_nil, List.zip_cons_cons, List.zip_nil_right, isTL, Rn_stuck, ite_stuck, not_true_eq_false, not_false_eq_true, Bool.not_eq_true, Bool.not_eq_false, decide_eq_false_iff_not, beq_self_eq_true, Bool.or_false, Bool.false_or, Bool.or_self, Bool.and_self, Bool.and_true, Bool.true_and, Bool.false_and, Bool.and_false, Bool.or_true, Bool.true_or, decide_true, decide_false, Bool.true_eq_false, List.take_length, List.length_map, Val.bl.injEq, ite_self, List.length_cons, List.length_nil, Nat.reduceAdd, Nat.reduceMul, Nat.reduceSub, Nat.reducePow, Nat.reduceLT, Nat.reduceLeDiff, Int.reducePow, Int.reduceToNat, Int.reduceAdd, Int.reduceMul, Int.reduceSub, Int.reduceNeg, Int.reduceLT, Int.reduceLE, Int.reduceAbs, Int.reduceEq, Int.reduceNe, Int.cast_ofNat_Int, SZv, and_self, true_and, and_true, Nat.zero_le, or_true, true_or, Nat.zero_add, Int.natCast_add, Int.natCast_one, ge_iff_le, gt_iff_lt])
  | `(tactic| exists "v", [$ts,*]) => `(tactic| try simp (maxSteps := 2000000) only [Rn_bind, Rn_ok, Rn_some, Rn_og, Rn_obind, Rn_omap, wps, qs, List.getElem?_cons_zero, List.getElem?_cons_succ, Option.some.injEq, exists_eq_left', List.set_cons_zero, List.set_cons_succ, List.map_cons, List.map_nil, List.replicate, List.cons_append, List.nil_append, wipeE, List.foldr, retV, if_true, Bool.not_true, Bool.not_false, Bool.false_eq_true, if_false, decide_eq_true_eq, qt, q_mulL, List.foldl_cons, List.foldl_nil, List.zip_cons_cons, List.zip_nil_right, isTL, Rn_stuck, ite_stuck, not_true_eq_false, not_false_eq_true, Bool.not_eq_true, Bool.not_eq_false, decide_eq_false_iff_not, beq_self_eq_true, Bool.or_false, Bool.false_or, Bool.or_self, Bool.and_self, Bool.and_true, Bool.true_and, Bool.false_and, Bool.and_false, Bool.or_true, Bool.true_or, decide_true, decide_false, Bool.true_eq_false, List.take_length, List.length_map, Val.bl.injEq, ite_self, List.length_cons, List.length_nil, Nat.reduceAdd, Nat.reduceMul, Nat.reduceSub, Nat.reducePow, Nat.reduceLT, Nat.reduceLeDiff, Int.reducePow, Int.reduceToNat, Int.reduceAdd, Int.reduceMul, Int.reduceSub, Int.reduceNeg, Int.reduceLT, Int.reduceLE, Int.reduceAbs, Int.reduceEq, Int.reduceNe, Int.cast_ofNat_Int, SZv, and_self, true_and, and_true, Nat.zero_le, or_true, true_or, Nat.zero_add, Int.natCast_add, Int.natCast_one, ge_iff_le, gt_iff_lt, $[$ts:term],*])
  | `(tactic| exists "v*", [$ts,*]) => `(tactic| try simp (maxSteps := 2000000) only [Rn_bind, Rn_ok, Rn_some, Rn_og, Rn_obind, Rn_omap, wps, qs, List.getElem?_cons_zero, List.getElem?_cons_succ, Option.some.injEq, exists_eq_left', List.set_cons_zero, List.set_cons_succ, List.map_cons, List.map_nil, List.replicate, List.cons_append, List.nil_append, wipeE, List.foldr, retV, if_true, Bool.not_true, Bool.not_false, Bool.false_eq_true, if_false, decide_eq_true_eq, qt, q_mulL, List.foldl_cons, List.foldl_nil, List.zip_cons_cons, List.zip_nil_right, isTL, Rn_stuck, ite_stuck, not_true_eq_false, not_false_eq_true, Bool.not_eq_true, Bool.not_eq_false, decide_eq_false_iff_not, beq_self_eq_true, Bool.or_false, Bool.false_or, Bool.or_self, Bool.and_self, Bool.and_true, Bool.true_and, Bool.false_and, Bool.and_false, Bool.or_true, Bool.true_or, decide_true, decide_false, Bool.true_eq_false, List.take_length, List.length_map, Val.bl.injEq, ite_self, List.length_cons, List.length_nil, Nat.reduceAdd, Nat.reduceMul, Nat.reduceSub, Nat.reducePow, Nat.reduceLT, Nat.reduceLeDiff, Int.reducePow, Int.reduceToNat, Int.reduceAdd, Int.reduceMul, Int.reduceSub, Int.reduceNeg, Int.reduceLT, Int.reduceLE, Int.reduceAbs, Int.reduceEq, Int.reduceNe, Int.cast_ofNat_Int, SZv, and_self, true_and, and_true, Nat.zero_le, or_true, true_or, Nat.zero_add, Int.natCast_add, Int.natCast_one, ge_iff_le, gt_iff_lt, $[$ts:term],*, *])
  | `(tactic| exists "sd") => `(tactic| first | decide | omega | (simp only [List.length_cons, List.length_nil, List.length_map, List.length_append, SZv]; omega) | (constructor <;> exists "sd"))
  | `(tactic| exists "s") => `(tactic| repeat (refine And.intro (by exists "sd") ?_))
  | `(tactic| exists "nx", $D, $D1:ident, $x:ident, $a:ident, $b:ident) => `(tactic| refine DH.next H.h5 hf $D (by omega) (by omega) (by omega) fun h' $x $D1 $a $b => ?_)

/-! end of words -/
/-- amiss -/
abbrev f27 : Nat := 27
def d27 : MDef := ⟨false, 2, 4, (Ss.cons (.ret (.cb .tuple false (Es.cons (.comp false (.cb .tuple false (Es.cons (.comp false (.bin .sub false (.var 2) (.var 3)) (.tp [(.nm 2), (.nm 3)]) (.zip (.var 4) (.var 5)) Es.nil [2, 3]) Es.nil)) (.tp [(.nm 4), (.nm 5)]) (.zip (.var 0) (.var 1)) Es.nil [4, 5]) Es.nil)))
    Ss.nil)⟩
def n27 : List Str := ["stand", "wish", "a", "b", "row", "wished"]

/-- ties -/
abbrev f35 : Nat := 35
def d35 : MDef := ⟨false, 2, 5, (Ss.cons (.asg (.nm 2) (.call f27 (Es.cons (.var 0) (Es.cons (.var 1) Es.nil))))
    (Ss.cons (.ret (.comp2 false (.tup (Es.cons (.var 3) (Es.cons (.var 5) Es.nil))) (.tp [(.nm 3), (.nm 4)]) (.enu (.var 2)) Es.nil (.tp [(.nm 5), (.nm 6)]) (.enu (.var 4)) (Es.cons (.cmp .ne (.var 6) (.cst (.int 0))) Es.nil) [3, 4, 5, 6] [5, 6]))
    Ss.nil))⟩
def n35 : List Str := ["stand", "wish", "rows", "room", "row", "kind", "number"]

/-- piece_of -/
abbrev f36 : Nat := 36
def b36_1 : Ss := (Ss.cons (.iff (.bop true (Es.cons (.cmp .eq (.var 5) (.idx (.var 2) (.var 4))) (Es.cons (.cmp .nin (.var 6) (.var 3)) Es.nil))) (Ss.cons (.ex (.app (.var 3) (.var 6)))
    (Ss.cons (.ex (.ext (.var 2) (.comp false (.var 7) (.tp [(.nm 7), (.nm 8)]) (.val (.var 0)) (Es.cons (.bop true (Es.cons (.cmp .eq (.var 8) (.var 6)) (Es.cons (.cmp .nin (.var 7) (.var 2)) Es.nil))) Es.nil) [7, 8])))
    Ss.nil)) Ss.nil)
    Ss.nil)
def d36 : MDef := ⟨false, 2, 7, (Ss.cons (.par [2, 3] (Es.cons (.lst true (Es.cons (.var 1) Es.nil)) (Es.cons (.lst true Es.nil) Es.nil)))
    (Ss.cons (.asg (.nm 4) (.cst (.int 0)))
    (Ss.cons (.whl (.cmp .lt (.var 4) (.cb .len false (Es.cons (.var 2) Es.nil))) (Ss.cons (.forr (.tp [(.nm 5), (.nm 6)]) (.val (.var 0)) b36_1)
    (Ss.cons (.augn 4 .add (.cst (.int 1)))
    Ss.nil)))
    (Ss.cons (.ret (.tup (Es.cons (.cb .tuple false (Es.cons (.cb .sorted false (Es.cons (.var 2) Es.nil)) Es.nil)) (Es.cons (.cb .tuple false (Es.cons (.cb .sorted false (Es.cons (.var 3) Es.nil)) Es.nil)) Es.nil))))
    Ss.nil))))⟩
def n36 : List Str := ["pairs", "room", "rooms", "kinds", "at", "one", "kind", "other", "tied"]

/-- pieces -/
abbrev f37 : Nat := 37
def b37_1 : Ss := (Ss.cons (.iff (.cmp .nin (.var 5) (.var 4)) (Ss.cons (.asg (.nm 7) (.call f36 (Es.cons (.var 2) (Es.cons (.var 5) Es.nil))))
    (Ss.cons (.ex (.app (.var 3) (.var 7)))
    (Ss.cons (.ex (.ext (.var 4) (.idx (.var 7) (.cst (.int 0)))))
    Ss.nil))) Ss.nil)
    Ss.nil)
def d37 : MDef := ⟨false, 2, 6, (Ss.cons (.asg (.nm 2) (.call f35 (Es.cons (.var 0) (Es.cons (.var 1) Es.nil))))
    (Ss.cons (.par [3, 4] (Es.cons (.lst true Es.nil) (Es.cons (.lst true Es.nil) Es.nil)))
    (Ss.cons (.forr (.tp [(.nm 5), (.nm 6)]) (.val (.var 2)) b37_1)
    (Ss.cons (.ret (.cb .tuple false (Es.cons (.var 3) Es.nil)))
    Ss.nil))))⟩
def n37 : List Str := ["stand", "wish", "pairs", "found", "seen", "room", "kind", "piece"]

section
variable {P : Nat → Option MDef} {fuel d base : Nat}
def am (st wi : List (List Int)) : List (List Int) := List.zipWith (fun a b => List.zipWith (· - ·) a b) st wi
def pin (x : Val) : Option Val := match x with
  | .tup [.int a, .int b] => some (.int (a - b))
  | _ => none
theorem zip_in : ∀ (a b : List Int), (zipV (a.map .int) (b.map .int)).filterMap pin = (List.zipWith (· - ·) a b).map .int
  | [], _ => by simp [zipV]
  | _ :: _, [] => by simp [zipV]
  | x :: a, y :: b => by
    have := zip_in a b
    simp only [zipV, List.map_cons, List.zip_cons_cons, List.filterMap_cons, pin, List.zipWith_cons_cons] at this ⊢
    rw [this]
def pout (f : List Val → Val) (x : Val) : Option Val := match x with
  | .tup [.tup l, .tup m] => some (f ((zipV l m).filterMap pin))
  | _ => none
theorem zip_out (f : List Val → Val) : ∀ (a b : List (List Int)), (zipV (a.map tI) (b.map tI)).filterMap (pout f) = (am a b).map fun row => f (row.map .int)
  | [], _ => by simp [zipV, am]
  | _ :: _, [] => by simp [zipV, am]
  | x :: a, y :: b => by
    have := zip_out f a b
    simp only [zipV, List.map_cons, List.zip_cons_cons, List.filterMap_cons, pout, tI, am, List.zipWith_cons_cons] at this ⊢
    rw [this]
    have := zip_in x y
    simp only [zipV] at this
    rw [this]
theorem am_len (a b : List (List Int)) : (am a b).length = min a.length b.length := by simp [am]
theorem zip_mem {a b : List Val} {x : Val} (h : x ∈ zipV a b) : ∃ u ∈ a, ∃ v ∈ b, x = .tup [u, v] := by
  unfold zipV at h
  obtain ⟨⟨u, v⟩, h1, rfl⟩ := List.mem_map.mp h
  have := List.of_mem_zip h1
  exact ⟨u, this.1, v, this.2, rfl⟩
theorem zip_len (a b : List Val) : (zipV a b).length = min a.length b.length := by simp [zipV]
theorem am_row {L K : Nat} {st wi : List (List Int)} (S : Sq L K st) (W : Sq L K wi) : Sq L K (am st wi) := by
  refine ⟨by rw [am_len, S.len, W.len, Nat.min_self], fun row hr => ?_⟩
  unfold am at hr
  obtain ⟨i, e⟩ := List.getElem?_of_mem hr
  rw [List.getElem?_zipWith] at e
  split at e
  · rename_i a b e1 e2
    cases e
    rw [List.length_zipWith, S.rl a (List.mem_of_getElem? e1), W.rl b (List.mem_of_getElem? e2), Nat.min_self]
  · cases e

theorem pout_row (f : List Val → Val) : True := trivial
theorem amiss_eq (h27 : P 27 = some d27) {L K : Nat} {st wi : List (List Int)} {h : MH} (hL : L ≤ 100) (hK : K ≤ 100) (S : Sq L K st) (W : Sq L K wi) : callM P fuel (d + 1) base 27 [stV st, stV wi] h = .ok (stV (am st wi)) h := by
  refine Rn_eq (Rn_callF h27 rfl rfl fun C cc cb cf => ?_)
  simp only [d27, stV]
  exists "v"
  refine Rn_compP (pout .tup) ?_ ?_
  · intro x hx
    obtain ⟨u, hu, v, hv, rfl⟩ := zip_mem hx
    obtain ⟨a, ha, rfl⟩ := List.mem_map.mp hu
    obtain ⟨b, hb, rfl⟩ := List.mem_map.mp hv
    simp only [tI]
    exists "v"
    refine Rn_compP pin ?_ ?_
    · intro y hy
      obtain ⟨u, hu, v, hv, rfl⟩ := zip_mem hy
      obtain ⟨i, _, rfl⟩ := List.mem_map.mp hu
      obtain ⟨j, _, rfl⟩ := List.mem_map.mp hv
      exists "v"
      simp only [pin, and_self]
    · exists "v"
      refine ⟨?_, ?_⟩
      · rw [zip_in, List.length_map, List.length_zipWith, S.rl a ha]; omega
      · simp [pout]
  · rw [zip_out]
    exists "v"
    have e : (am st wi).map (fun row => Val.tup (row.map .int)) = (am st wi).map tI := rfl
    rw [e]
    exact ⟨by rw [am_len, S.len]; omega, stV_dle 58 (am st wi), rfl⟩
theorem map_get {α : Type} {l : List α} {f : α → Val} {j : Nat} {x : Val} (e : (l.map f)[j]? = some x) : ∃ y, l[j]? = some y ∧ x = f y := by
  rw [List.getElem?_map, Option.map_eq_some_iff] at e
  obtain ⟨y, e1, e2⟩ := e
  exact ⟨y, e1, e2.symm⟩
/-! ### ties -/
def pr (p : Nat × Nat) : Val := .tup [.int p.1, .int p.2]
def rowT (r : Nat) (row : List Int) : Prs := row.zipIdx.filterMap fun x => if x.1 ≠ 0 then some (r, x.2) else none
def tie (A : List (List Int)) : Prs := A.zipIdx.flatMap fun x => rowT x.2 x.1
theorem enum_mem {l : List Val} {x : Val} (h : x ∈ enumV l) : ∃ i v, l[i]? = some v ∧ x = .tup [.int (i : Nat), v] := by
  unfold enumV at h
  obtain ⟨⟨v, i⟩, h1, rfl⟩ := List.mem_map.mp h
  exact ⟨i, v, by simpa using (List.mem_zipIdx_iff_getElem?.mp h1), rfl⟩
def pTie (r : Int) (x : Val) : Option Val := match x with
  | .tup [.int k, .int n] => if n = 0 then none else some (.tup [.int r, .int k])
  | _ => none
theorem pTie_row (r : Nat) (row : List Int) : (enumV (row.map .int)).filterMap (pTie r) = (rowT r row).map pr := by
  unfold enumV rowT
  rw [List.zipIdx_map, List.map_map, List.filterMap_map, List.map_filterMap]
  congr 1
  funext x
  obtain ⟨n, k⟩ := x
  by_cases c : n = 0 <;> simp [pTie, pr, c]
theorem flat_len {α β : Type} {f : α → List β} {K : Nat} : ∀ {l : List α}, (∀ x ∈ l, (f x).length ≤ K) → (l.flatMap f).length ≤ l.length * K
  | [], _ => by simp
  | x :: l, h => by
    have ih := flat_len fun y hy => h y (List.mem_cons_of_mem _ hy)
    have h1 := h x List.mem_cons_self
    rw [List.flatMap_cons, List.length_append, List.length_cons, Nat.add_mul]
    omega
theorem zipIdx_up {α : Type} (l : List α) : l.zipIdx.Pairwise fun a b => a.2 < b.2 := by
  rw [List.pairwise_iff_getElem]
  intro i j h1 h2 hij
  simp [hij]
theorem tie_mem {A : List (List Int)} {r k : Nat} : (r, k) ∈ tie A ↔ ∃ row x, A[r]? = some row ∧ row[k]? = some x ∧ x ≠ 0 := by
  unfold tie rowT
  rw [List.mem_flatMap]
  constructor
  · rintro ⟨⟨row, i⟩, h1, h2⟩
    have h1 := List.mem_zipIdx_iff_getElem?.mp h1
    obtain ⟨⟨x, j⟩, h3, h4⟩ := List.mem_filterMap.mp h2
    have h3 := List.mem_zipIdx_iff_getElem?.mp h3
    simp only [Option.ite_none_right_eq_some, Option.some.injEq, Prod.mk.injEq] at h1 h3 h4
    obtain ⟨h5, rfl, rfl⟩ := h4
    exact ⟨row, x, h1, h3, h5⟩
  · rintro ⟨row, x, h1, h2, h3⟩
    refine ⟨(row, r), List.mem_zipIdx_iff_getElem?.mpr h1, List.mem_filterMap.mpr ⟨(x, k), List.mem_zipIdx_iff_getElem?.mpr h2, ?_⟩⟩
    simp [h3]
theorem tie_lex (A : List (List Int)) : (tie A).Pairwise fun a b => a.1 < b.1 ∨ (a.1 = b.1 ∧ a.2 < b.2) := by
  unfold tie
  rw [List.pairwise_flatMap]
  refine ⟨fun x _ => ?_, (zipIdx_up A).imp fun {a b} hab x hx y hy => ?_⟩
  · unfold rowT
    rw [List.pairwise_filterMap]
    refine (zipIdx_up _).imp fun {a b} hab x hx y hy => ?_
    simp only [Option.ite_none_right_eq_some, Option.some.injEq] at hx hy
    obtain ⟨_, rfl⟩ := hx
    obtain ⟨_, rfl⟩ := hy
    exact .inr ⟨rfl, hab⟩
  · unfold rowT at hx hy
    obtain ⟨_, _, e1⟩ := List.mem_filterMap.mp hx
    obtain ⟨_, _, e2⟩ := List.mem_filterMap.mp hy
    simp only [Option.ite_none_right_eq_some, Option.some.injEq] at e1 e2
    obtain ⟨_, rfl⟩ := e1
    obtain ⟨_, rfl⟩ := e2
    exact .inl hab
theorem tie_up (A : List (List Int)) : (tie A).Pairwise fun a b => a.1 ≤ b.1 := (tie_lex A).imp fun h => by omega
theorem tie_nd (A : List (List Int)) : (tie A).Nodup := (tie_lex A).imp fun {a b} h e => by subst e; omega
theorem tie_len {L K : Nat} {A : List (List Int)} (S : Sq L K A) : (tie A).length ≤ L * K := by
  have h := flat_len (f := fun x : List Int × Nat => rowT x.2 x.1) (K := K) (l := A.zipIdx) fun x hx => by
    obtain ⟨row, i⟩ := x
    have h1 := List.mem_zipIdx_iff_getElem?.mp hx
    have h2 := S.rl row (List.mem_of_getElem? h1)
    refine Nat.le_trans (List.length_filterMap_le _ _) ?_
    rw [List.length_zipIdx, h2]
    exact Nat.le_refl _
  rw [List.length_zipIdx, S.len] at h
  exact h
theorem tie_lt {L K : Nat} {A : List (List Int)} (S : Sq L K A) {r k : Nat} (h : (r, k) ∈ tie A) : r < L ∧ k < K := by
  obtain ⟨row, x, h1, h2, _⟩ := tie_mem.mp h
  have h3 := S.rl row (List.mem_of_getElem? h1)
  have h4 := (List.getElem?_eq_some_iff.mp h1).1
  have h5 := (List.getElem?_eq_some_iff.mp h2).1
  rw [S.len] at h4
  omega
theorem ties_eq (h27 : P 27 = some d27) (h35 : P 35 = some d35) {L K : Nat} {st wi : List (List Int)} {h : MH} (hL : L ≤ 100) (hK : K ≤ 100) (S : Sq L K st) (W : Sq L K wi) : callM P fuel (d + 2) base 35 [stV st, stV wi] h = .ok (.lst ((tie (am st wi)).map pr)) h := by
  refine Rn_eq (Rn_callF h35 rfl rfl fun C cc cb cf => ?_)
  simp only [d35]
  have q1 : ∀ h, callM P fuel (d + 1) C.base 27 [stV st, stV wi] h = .ok (stV (am st wi)) h := fun h => amiss_eq h27 hL hK S W
  rw [cb] at q1
  exists "v", [cc, q1]
  simp only [stV]
  exists "v"
  refine Rn_comp2P (fun x => match x with | .tup [.int r, .tup row] => (enumV row).filterMap (pTie r) | _ => []) (fun x hx => ?_) ?_
  · obtain ⟨r, v, e1, rfl⟩ := enum_mem hx
    obtain ⟨row, e2, rfl⟩ := map_get e1
    simp only [tI]
    exists "v"
    refine Rn_compP (pTie r) (fun y hy => ?_) ?_
    · obtain ⟨k, u, e3, rfl⟩ := enum_mem hy
      obtain ⟨n, e4, rfl⟩ := map_get e3
      by_cases c : n = 0 <;> exists "v", [pTie, c]
    · exact ⟨rfl, rfl⟩
  · have e : (enumV ((am st wi).map tI)).flatMap (fun x => match x with | .tup [.int r, .tup row] => (enumV row).filterMap (pTie r) | _ => []) = (tie (am st wi)).map pr := by
      unfold enumV tie
      rw [List.zipIdx_map, List.map_map, List.flatMap_map, List.map_flatMap]
      congr 1
      funext x
      obtain ⟨row, r⟩ := x
      exact pTie_row r row
    rw [e]
    have l1 := tie_len (am_row S W)
    have l2 : L * K ≤ 100 * 100 := Nat.mul_le_mul hL hK
    refine ⟨by rw [List.length_map]; omega, ?_, rfl, by simp⟩
    show ((tie (am st wi)).map pr).all (dle 59) = true
    rw [List.all_map, List.all_eq_true]
    intro p _
    rfl
/-! ### piece_of -/
def nv (l : List Nat) : List Val := l.map fun i => .int (i : Nat)
theorem nv_len (l : List Nat) : (nv l).length = l.length := by simp [nv]
theorem nv_get {l : List Nat} {i x : Nat} (h : l[i]? = some x) : ixv (nv l) (i : Int) = some (.int (x : Nat)) := by
  have hi := (List.getElem?_eq_some_iff.mp h).1
  rw [ixv_ok (by omega) (by rw [nv_len]; omega), Int.toNat_natCast]
  simp [nv, h]
theorem nv_inl (k : Nat) (l : List Nat) : inl (.int (k : Int)) (nv l) = l.contains k := by
  unfold inl nv
  rw [List.any_map]
  induction l with
  | nil => rfl
  | cons x l ih =>
    rw [List.any_cons, List.contains_cons, ih]
    congr 1
    show PyData.eqv (.int (x : Int)) (.int (k : Int)) = _
    have e : ((x : Int) == (k : Int)) = (k == x) := by
      rw [Bool.eq_iff_iff, beq_iff_eq, beq_iff_eq]
      omega
    first
    | exact e
    | (simp only [PyData.eqv]; exact e)
theorem nv_shp (l : List Nat) : (nv l).all (shp 59) = true := by
  unfold nv; rw [List.all_map, List.all_eq_true]; intro x _; rfl
theorem nin_ref {k n : Nat} {l : List Nat} {h : MH} (e : lits (.ref n) h = some (nv l)) : cmp .nin (.int (k : Int)) (.ref n) h = some (!l.contains k) := by
  show (cmpIn _ _ _).map _ = _
  have : cmpIn (.int (k : Int)) (.ref n) h = some (l.contains k) := by
    unfold cmpIn
    simp only [show pe (.int (k : Int)) h = some (.int (k : Int)) from rfl, e, nv_shp, if_true, nv_inl]
  rw [this]
  rfl
theorem in_lst {k : Nat} {l : List Nat} {h : MH} : cmp .inn (.int (k : Int)) (.lst (nv l)) h = some (l.contains k) := by
  show cmpIn (.int (k : Int)) (.lst (nv l)) h = _
  unfold cmpIn
  simp only [show pe (.int (k : Int)) h = some (.int (k : Int)) from rfl, show lits (.lst (nv l)) h = some (nv l) from rfl, nv_shp, if_true, nv_inl]
def c2 (h : MH) (x y : List Val) : MH := h ++ [.lst x] ++ [.lst y]
theorem c2_0 (h : MH) (x y : List Val) : lits (.ref h.length) (c2 h x y) = some x := by simp [lits, c2]
theorem c2_1 (h : MH) (x y : List Val) : lits (.ref (h.length + 1)) (c2 h x y) = some y := by
  have e : (c2 h x y)[h.length + 1]? = some (.lst y) := by
    unfold c2
    rw [List.getElem?_append_right (by simp)]
    simp
  simp only [lits, e]
theorem c2_s0 (h : MH) (x y z : List Val) : (c2 h x y).set h.length (.lst z) = c2 h z y := by simp [c2]
theorem c2_s1 (h : MH) (x y z : List Val) : (c2 h x y).set (h.length + 1) (.lst z) = c2 h x z := by
  unfold c2
  rw [List.set_append_right _ _ (by simp)]
  simp
theorem c2_take (h : MH) (x y : List Val) : (c2 h x y).take h.length = h := by simp [c2]
def pcV (p : Pc) : Val := .tup [.tup (nv p.1), .tup (nv p.2)]
/-- the search so far: rooms found, kinds gone through, how many rooms are done -/
structure Bf (P : Prs) (N r : Nat) (R K : List Nat) (n : Nat) : Prop where
  nd : R.Nodup
  ndK : K.Nodup
  lt : ∀ x ∈ R, x < N
  ltK : ∀ x ∈ K, x < N
  c : ∀ x ∈ R, Cn P r x
  r0 : r ∈ R
  ck : ∀ k ∈ K, ∃ s, Cn P r s ∧ (s, k) ∈ P
  cl : ∀ k ∈ K, ∀ t, (t, k) ∈ P → t ∈ R
  dn : ∀ (i x k : Nat), i < n → R[i]? = some x → (x, k) ∈ P → k ∈ K
  le : n ≤ R.length
theorem nodup_len : ∀ (N : Nat) (l : List Nat), l.Nodup → (∀ x ∈ l, x < N) → l.length ≤ N
  | 0, l, _, h => by
    cases l with
    | nil => simp
    | cons x l => exact absurd (h x List.mem_cons_self) (Nat.not_lt_zero _)
  | N + 1, l, nd, h => by
    have h1 := nodup_len N (l.erase N) (nd.erase N) fun x hx => by
      have a := h x (List.mem_of_mem_erase hx)
      have b : x ≠ N := (nd.mem_erase_iff.mp hx).1
      omega
    have := List.length_erase (a := N) (l := l)
    split at this <;> omega
theorem Bf.first {P : Prs} {N r : Nat} (hr : r < N) : Bf P N r [r] [] 0 :=
  ⟨by simp, .nil, fun x hx => by rw [List.mem_singleton.mp hx]; exact hr, (fun _ z => nomatch z), fun x hx => by rw [List.mem_singleton.mp hx]; exact .refl, by simp, (fun _ z => nomatch z), (fun _ z => nomatch z), (fun i x k h => absurd h (Nat.not_lt_zero _)), by simp⟩
def newR (P : Prs) (R : List Nat) (k : Nat) : List Nat := P.filterMap fun p => if p.2 = k ∧ p.1 ∉ R then some p.1 else none
theorem newR_mem {P : Prs} {R : List Nat} {k x : Nat} : x ∈ newR P R k ↔ (x, k) ∈ P ∧ x ∉ R := by
  unfold newR
  rw [List.mem_filterMap]
  constructor
  · rintro ⟨⟨a, b⟩, h1, h2⟩
    simp only [Option.ite_none_right_eq_some, Option.some.injEq] at h2
    obtain ⟨⟨rfl, h3⟩, rfl⟩ := h2
    exact ⟨h1, h3⟩
  · rintro ⟨h1, h2⟩
    exact ⟨(x, k), h1, by simp [h2]⟩
theorem Bf.more {P : Prs} {N r n x k : Nat} {R K : List Nat} (h : Bf P N r R K n) (nd : P.Nodup) (hP : ∀ p ∈ P, p.1 < N ∧ p.2 < N) (hx : R[n]? = some x) (hk : (x, k) ∈ P) (hn : k ∉ K) : Bf P N r (R ++ newR P R k) (K ++ [k]) n := by
  have cx := h.c x (List.mem_of_getElem? hx)
  have sub : ∀ y ∈ R, y ∈ R ++ newR P R k := fun y hy => List.mem_append_left _ hy
  refine ⟨?_, ?_, fun y hy => ?_, fun y hy => ?_, fun y hy => ?_, sub _ h.r0, fun y hy => ?_, fun y hy t ht => ?_, fun i y k' hi hy hp => ?_, by rw [List.length_append]; have := h.le; omega⟩
  · rw [List.nodup_append]
    refine ⟨h.nd, ?_, fun a ha b hb e => ?_⟩
    · unfold newR
      rw [List.Nodup, List.pairwise_filterMap]
      refine nd.imp fun {a b} hab y hy z hz => ?_
      simp only [Option.ite_none_right_eq_some, Option.some.injEq] at hy hz
      obtain ⟨⟨h1, _⟩, rfl⟩ := hy
      obtain ⟨⟨h2, _⟩, rfl⟩ := hz
      intro e
      exact hab (Prod.ext e (h1.trans h2.symm))
    · subst e
      exact (newR_mem.mp hb).2 ha
  · rw [List.nodup_append]
    exact ⟨h.ndK, by simp, fun a ha b hb e => by rw [List.mem_singleton.mp hb] at e; subst e; exact hn ha⟩
  · rcases List.mem_append.mp hy with hy | hy
    · exact h.lt y hy
    · exact (hP _ (newR_mem.mp hy).1).1
  · rcases List.mem_append.mp hy with hy | hy
    · exact h.ltK y hy
    · rw [List.mem_singleton.mp hy]; exact (hP _ hk).2
  · rcases List.mem_append.mp hy with hy | hy
    · exact h.c y hy
    · exact .step cx hk (newR_mem.mp hy).1
  · rcases List.mem_append.mp hy with hy | hy
    · exact h.ck y hy
    · rw [List.mem_singleton.mp hy]; exact ⟨x, cx, hk⟩
  · rcases List.mem_append.mp hy with hy | hy
    · exact sub t (h.cl y hy t ht)
    · rw [List.mem_singleton.mp hy] at ht
      by_cases c : t ∈ R
      · exact sub t c
      · exact List.mem_append_right _ (newR_mem.mpr ⟨ht, c⟩)
  · have hn' : n < R.length := (List.getElem?_eq_some_iff.mp hx).1
    rw [List.getElem?_append_left (by omega)] at hy
    exact List.mem_append_left _ (h.dn i y k' hi hy hp)
theorem Bf.done {P : Prs} {N r : Nat} {R K : List Nat} (h : Bf P N r R K R.length) : (∀ x, x ∈ R ↔ Cn P r x) ∧ ∀ k, k ∈ K ↔ ∃ s, Cn P r s ∧ (s, k) ∈ P := by
  have all : ∀ x, Cn P r x → x ∈ R ∧ ∀ k, (x, k) ∈ P → k ∈ K := fun x c => by
    have kinds : ∀ y ∈ R, ∀ k, (y, k) ∈ P → k ∈ K := fun y hy k hp => by
      obtain ⟨i, hi⟩ := List.getElem?_of_mem hy
      exact h.dn i y k (List.getElem?_eq_some_iff.mp hi).1 hi hp
    induction c with
    | refl => exact ⟨h.r0, kinds _ h.r0⟩
    | step _ h1 h2 ih =>
      have := h.cl _ (ih.2 _ h1) _ h2
      exact ⟨this, kinds _ this⟩
  exact ⟨fun x => ⟨h.c x, fun c => (all x c).1⟩, fun k => ⟨h.ck k, fun ⟨s, c, hp⟩ => (all s c).2 k hp⟩⟩
theorem sort_nv {l : List Nat} (nd : l.Nodup) : ∃ A : List Nat, A.Pairwise (· < ·) ∧ (∀ x, x ∈ A ↔ x ∈ l) ∧ (sortI (l.map fun i : Nat => (i : Int))).map Val.int = nv A := by
  have pm := sortI_perm (l.map fun i : Nat => (i : Int))
  have up := sortI_sorted (l.map fun i : Nat => (i : Int))
  have nn : ∀ z ∈ sortI (l.map fun i : Nat => (i : Int)), 0 ≤ z := fun z hz => by
    obtain ⟨i, _, rfl⟩ := List.mem_map.mp (pm.mem_iff.mp hz)
    omega
  have nd2 : (sortI (l.map fun i : Nat => (i : Int))).Nodup := pm.nodup_iff.mpr (List.pairwise_map.mpr (nd.imp fun h e => h (by omega)))
  refine ⟨(sortI (l.map fun i : Nat => (i : Int))).map Int.toNat, ?_, fun x => ?_, ?_⟩
  · rw [List.pairwise_map]
    refine (List.pairwise_and_iff.mpr ⟨up, nd2⟩).imp_of_mem fun {a b} ha hb ⟨h1, h2⟩ => ?_
    have := nn a ha
    have := nn b hb
    omega
  · rw [List.mem_map]
    constructor
    · rintro ⟨z, hz, rfl⟩
      obtain ⟨i, hi, rfl⟩ := List.mem_map.mp (pm.mem_iff.mp hz)
      simpa using hi
    · intro hx
      exact ⟨(x : Int), pm.mem_iff.mpr (List.mem_map.mpr ⟨x, hx, rfl⟩), by simp⟩
  · unfold nv
    rw [List.map_map]
    refine List.map_congr_left fun z hz => ?_
    have := nn z hz
    show Val.int z = Val.int ((z.toNat : Nat) : Int)
    rw [Int.toNat_of_nonneg this]
theorem nv_ints (l : List Nat) : intsOf (nv l) = some (l.map fun i : Nat => (i : Int)) := by
  have := intsOf_map (l.map fun i : Nat => (i : Int))
  rw [List.map_map] at this
  exact this
def pNew (R : List Nat) (k : Nat) (x : Val) : Option Val := match x with
  | .tup [.int a, .int b] => if b = (k : Int) ∧ a.toNat ∉ R then some (.int a) else none
  | _ => none
theorem pNew_map (P : Prs) (R : List Nat) (k : Nat) : (P.map pr).filterMap (pNew R k) = nv (newR P R k) := by
  unfold nv newR
  rw [List.filterMap_map, List.map_filterMap]
  congr 1
  funext p
  obtain ⟨a, b⟩ := p
  by_cases c1 : b = k
  · subst c1
    by_cases c2 : a ∈ R <;> simp [pNew, pr, c2]
  · have : ¬ (b : Int) = k := by omega
    simp [pNew, pr, c1, this]
theorem w_ext : ∀ (C : EC) (g : ME) (h : MH) (Q : Val → MH → Prop) (o e : E), Rn (ev C (.ext o e) g h) Q ↔ Rn (ev C o g h) fun x h => Rn (ofO (lits x h) h) fun _ h => Rn (ev C e g h) fun y h => Rn (ofO (rfV x) h) fun n h => Rn (ofO (lits x h) h) fun l h => Rn (ofO (sits y h) h) fun m h => l.length + m.length ≤ SZ ∧ (C.base ≤ n ∨ m.all (dle 60) = true) ∧ Q .non (h.set n (.lst (l ++ m))) := fun C g h Q o e => by
  simp only [ev, Rn_bind]
  refine Rn_iff fun x h => Rn_iff fun _ h => Rn_iff fun y h => ?_
  cases x with
  | ref n => simp only [rfV, Rn_bind, Rn_some, Rn_ite, w_wr, Rn_stuck, ite_stuck]
  | _ => simp only [rfV, Rn_none, Rn_stuck]
theorem c2s_0 (h : MH) (x y : List Val) : sits (.ref h.length) (c2 h x y) = some x := c2_0 h x y
theorem piece_eq (h36 : P 36 = some d36) (hf : 70 ≤ fuel) {T : Prs} {N r : Nat} (nd : T.Nodup) (hT : ∀ p ∈ T, p.1 < N ∧ p.2 < N) (hN : N ≤ 60) (hr : InR T r) (hl : T.length ≤ 10000) : ∃ p, IsC T p r ∧ ∀ h, callM P fuel (d + 1) base 36 [.lst (T.map pr), .int (r : Int)] h = .ok (pcV p) h := by
  have hr0 : r < N := (hT _ hr.choose_spec).1
  have main : ∀ h, Rn (callM P fuel (d + 1) base 36 [.lst (T.map pr), .int (r : Int)] h) fun v h' => (∃ p, IsC T p r ∧ v = pcV p) ∧ h' = h := fun h => by
    refine Rn_callF h36 rfl rfl fun C cc cb cf => ?_
    simp only [d36]
    exists "v"
    have e0 : (h ++ [Cell.lst [Val.int (r : Int)]]).length = h.length + 1 := by simp
    rw [e0]
    refine Rn_whl (fun m g h' => ∃ (R K : List Nat) (n : Nat) (u5 u6 u7 u8 : Option Val), g = [some (.lst (T.map pr)), some (.int (r : Int)), some (.ref h.length), some (.ref (h.length + 1)), some (.int (n : Int)), u5, u6, u7, u8] ∧ h' = c2 h (nv R) (nv K) ∧ Bf T N r R K n ∧ m + n = 62) ?_ _ 62 _ _ (by omega) ⟨[r], [], 0, _, _, _, _, rfl, rfl, Bf.first hr0, rfl⟩
    rintro m g h' ⟨R, K, n, u5, u6, u7, u8, rfl, rfl, B, hm⟩
    have lR := nodup_len N R B.nd B.lt
    have lK := nodup_len N K B.ndK B.ltK
    have ql : bi .len [.ref h.length] (c2 h (nv R) (nv K)) = some (.v (.int (nv R).length)) := by
      show (sits _ _).map _ = _
      rw [show sits (.ref h.length) (c2 h (nv R) (nv K)) = lits (.ref h.length) (c2 h (nv R) (nv K)) from rfl, c2_0]
      rfl
    by_cases c : n < R.length
    · have c1 : (n : Int) < (nv R).length := by rw [nv_len]; omega
      exists "v", [ql, c1]
      obtain ⟨x, hx⟩ : ∃ x, R[n]? = some x := ⟨_, List.getElem?_eq_getElem c⟩
      refine Rn_for (fun j g h' => ∃ (R' K' : List Nat) (u5 u6 u7 u8 : Option Val), g = [some (.lst (T.map pr)), some (.int (r : Int)), some (.ref h.length), some (.ref (h.length + 1)), some (.int (n : Int)), u5, u6, u7, u8] ∧ h' = c2 h (nv R') (nv K') ∧ Bf T N r R' K' n ∧ R'[n]? = some x ∧ ∀ (i k : Nat), i < j → T[i]? = some (x, k) → k ∈ K') _ 0 _ _ ⟨R, K, u5, u6, u7, u8, rfl, rfl, B, hx, fun i k z => absurd z (Nat.not_lt_zero _)⟩ ?_ ?_
      · rintro j y g h' ey ⟨R', K', u5, u6, u7, u8, rfl, rfl, B', hx', cur⟩
        rw [Nat.zero_add] at *
        obtain ⟨⟨a, k⟩, et, rfl⟩ := map_get ey
        have lR' := nodup_len N R' B'.nd B'.lt
        have lK' := nodup_len N K' B'.ndK B'.ltK
        have qi : ixv (nv R') (n : Int) = some (.int (x : Int)) := nv_get hx'
        have qn : cmp .nin (.int (k : Int)) (.ref (h.length + 1)) (c2 h (nv R') (nv K')) = some (!K'.contains k) := nin_ref (c2_1 ..)
        have next : ∀ {K2 : List Nat}, (∀ z ∈ K', z ∈ K2) → (a = x → k ∈ K2) → ∀ (i k' : Nat), i < j + 1 → T[i]? = some (x, k') → k' ∈ K2 := fun {K2} sub e i k' hi ei => by
          by_cases ci : i < j
          · exact sub _ (cur i k' ci ei)
          · have : i = j := by omega
            subst this
            rw [et] at ei
            cases ei
            exact e rfl
        by_cases ca : a = x
        · subst ca
          by_cases ck : k ∈ K'
          · have ek : K'.contains k = true := by simpa using ck
            exists "v", [pr, b36_1, c2s_0, qi, qn, ek]
            exact ⟨R', K', _, _, _, _, rfl, rfl, B', hx', next (fun _ z => z) fun _ => ck⟩
          · have B2 := B'.more nd hT hx' (List.mem_of_getElem? et) ck
            have ek : K'.contains k = false := by simpa using ck
            exists "v", [pr, b36_1, c2s_0, c2_1, c2_0, c2_s1, c2_s0, qi, qn, ek, w_ext, q_rfV]
            have n1 : nv K' ++ [Val.int (k : Int)] = nv (K' ++ [k]) := by simp [nv]
            have n2 : nv R' ++ nv (newR T R' k) = nv (R' ++ newR T R' k) := by simp [nv]
            have lN := nodup_len N _ B2.nd B2.lt
            rw [List.length_append] at lN
            rw [n1]
            refine ⟨by rw [nv_len]; omega, ?_⟩
            refine Rn_compP (pNew R' k) (fun y hy => ?_) ?_
            · obtain ⟨⟨a2, k2⟩, _, rfl⟩ := List.mem_map.mp hy
              have qm : cmp .nin (.int (a2 : Int)) (.ref h.length) (c2 h (nv R') (nv (K' ++ [k]))) = some (!R'.contains a2) := nin_ref (c2_0 ..)
              by_cases c3 : k2 = k
              · subst c3
                by_cases c4 : a2 ∈ R'
                · have e4 : R'.contains a2 = true := by simpa using c4
                  exists "v", [pr, qm, e4, pNew]
                  simp [c4]
                · have e4 : R'.contains a2 = false := by simpa using c4
                  exists "v", [pr, qm, e4, pNew]
                  simp [c4]
              · have c5 : ¬ (k2 : Int) = (k : Int) := by omega
                exists "v", [pr, qm, c5, pNew]
                simp [c5]
            · rw [pNew_map]
              exists "v", [c2_0, c2_s0]
              rw [n2]
              refine ⟨by rw [nv_len]; omega, by rw [nv_len, nv_len]; omega, .inr ?_, R' ++ newR T R' k, K' ++ [k], _, _, _, _, rfl, rfl, B2, ?_, next (fun z hz => List.mem_append_left _ hz) fun _ => by simp⟩
              · unfold nv
                rw [List.all_map, List.all_eq_true]
                intro z _
                rfl
              · rw [List.getElem?_append_left (List.getElem?_eq_some_iff.mp hx').1]
                exact hx'
        · have ca' : ¬ (a : Int) = (x : Int) := by omega
          exists "v", [pr, b36_1, c2s_0, qi, qn, ca']
          exact ⟨R', K', _, _, _, _, rfl, rfl, B', hx', next (fun _ z => z) fun z => absurd z ca⟩
      · rintro g h' ⟨R', K', u5, u6, u7, u8, rfl, rfl, B', hx', cur⟩
        rw [Nat.zero_add, List.length_map] at cur
        exists "v", [ipI]
        refine ⟨m - 1, by omega, R', K', n + 1, u5, u6, u7, u8, by simp, rfl, ⟨B'.nd, B'.ndK, B'.lt, B'.ltK, B'.c, B'.r0, B'.ck, B'.cl, fun i y k hi hy hp => ?_, (List.getElem?_eq_some_iff.mp hx').1⟩, by omega⟩
        by_cases ci : i < n
        · exact B'.dn i y k ci hy hp
        · have : i = n := by omega
          subst this
          rw [hx'] at hy
          cases hy
          obtain ⟨j, hj⟩ := List.getElem?_of_mem hp
          exact cur j k (List.getElem?_eq_some_iff.mp hj).1 hj
    · have c1 : ¬ (n : Int) < (nv R).length := by rw [nv_len]; omega
      have hn : n = R.length := by have := B.le; omega
      subst hn
      obtain ⟨d1, d2⟩ := B.done
      obtain ⟨A1, u1, m1, e1⟩ := sort_nv B.nd
      obtain ⟨A2, u2, m2, e2⟩ := sort_nv B.ndK
      have s1 : bi .sorted [.ref h.length] (c2 h (nv R) (nv K)) = some (.nl (nv A1)) := by
        show (lits _ _).bind _ = _
        rw [c2_0, Option.bind_some, nv_ints, Option.map_some, e1]
      have s2 : bi .sorted [.ref (h.length + 1)] (c2 h (nv R) (nv K)) = some (.nl (nv A2)) := by
        show (lits _ _).bind _ = _
        rw [c2_1, Option.bind_some, nv_ints, Option.map_some, e2]
      exists "v", [ql, c1, s1, s2]
      have b1 := nodup_len N A1 (u1.imp fun z => Nat.ne_of_lt z) fun x hx => B.lt x ((m1 x).mp hx)
      have b2 := nodup_len N A2 (u2.imp fun z => Nat.ne_of_lt z) fun x hx => B.ltK x ((m2 x).mp hx)
      refine ⟨by rw [nv_len]; omega, by rw [nv_len]; omega, ?_, ⟨(A1, A2), ⟨hr, u1, u2, fun x => (m1 x).trans (d1 x), fun k => (m2 k).trans (d2 k)⟩, rfl⟩, c2_take ..⟩
      show [Val.tup (nv A1), Val.tup (nv A2)].all (dle 59) = true
      have z : ∀ A : List Nat, (nv A).all (dle 58) = true := fun A => by
        unfold nv
        rw [List.all_map, List.all_eq_true]
        intro _ _
        rfl
      simp [dle, z]
  obtain ⟨v0, h0, e0, ⟨p, hp, rfl⟩, _⟩ := main []
  refine ⟨p, hp, fun h => ?_⟩
  obtain ⟨v, h', e, ⟨p', hp', rfl⟩, rfl⟩ := main h
  rw [e, hp'.uniq hp]
/-! ### pieces -/
theorem comps_len {T : Prs} {N : Nat} {F : List Pc} (hT : ∀ p ∈ T, p.1 < N ∧ p.2 < N) (each : ∀ p ∈ F, ∃ r, IsC T p r) (up : F.Pairwise fun p q => hd1 p < hd1 q) : F.length ≤ N ∧ ∀ p ∈ F, (p.1.length ≤ N ∧ p.2.length ≤ N) ∧ (∀ x ∈ p.1, x < N) ∧ ∀ x ∈ p.2, x < N := by
  have lt : ∀ p ∈ F, (∀ x ∈ p.1, x < N) ∧ ∀ x ∈ p.2, x < N := fun p hp => by
    obtain ⟨r, h⟩ := each p hp
    refine ⟨fun x hx => ?_, fun x hx => ?_⟩
    · obtain ⟨k, hk⟩ := ((h.rooms x).mp hx).inR h.inr
      exact (hT _ hk).1
    · obtain ⟨s, _, hk⟩ := (h.kinds x).mp hx
      exact (hT _ hk).2
  refine ⟨?_, fun p hp => ?_⟩
  · have := nodup_len N (F.map hd1) (List.pairwise_map.mpr (up.imp fun z => Nat.ne_of_lt z)) fun x hx => by
      obtain ⟨p, hp, rfl⟩ := List.mem_map.mp hx
      obtain ⟨r, h⟩ := each p hp
      exact (lt p hp).1 _ h.hd.1
    rwa [List.length_map] at this
  · obtain ⟨r, h⟩ := each p hp
    exact ⟨⟨nodup_len N _ (h.up1.imp fun z => Nat.ne_of_lt z) (lt p hp).1, nodup_len N _ (h.up2.imp fun z => Nat.ne_of_lt z) (lt p hp).2⟩, lt p hp⟩
theorem nv_dle (k : Nat) (A : List Nat) : (nv A).all (dle k) = true := by
  unfold nv
  rw [List.all_map, List.all_eq_true]
  intro x _
  cases k <;> rfl
theorem pcV_dle (p : Pc) : dle 50 (pcV p) = true := by
  show [Val.tup (nv p.1), Val.tup (nv p.2)].all (dle 49) = true
  have a : dle 49 (.tup (nv p.1)) = true := nv_dle 48 p.1
  have b : dle 49 (.tup (nv p.2)) = true := nv_dle 48 p.2
  simp [a, b]
theorem pieces_eq (h27 : P 27 = some d27) (h35 : P 35 = some d35) (h36 : P 36 = some d36) (h37 : P 37 = some d37) (hf : 70 ≤ fuel) {L K : Nat} {st wi : List (List Int)} (hL : L ≤ 60) (hK : K ≤ 60) (S : Sq L K st) (W : Sq L K wi) :
    ∃ F, Comps (tie (am st wi)) F ∧ ∀ h, callM P fuel (d + 3) base 37 [stV st, stV wi] h = .ok (.tup (F.map pcV)) h := by
  have hT : ∀ p ∈ tie (am st wi), p.1 < 60 ∧ p.2 < 60 := fun p hp => by
    have := tie_lt (am_row S W) (r := p.1) (k := p.2) hp
    omega
  have lT : (tie (am st wi)).length ≤ 10000 := by
    have l1 := tie_len (am_row S W)
    have l2 : L * K ≤ 60 * 60 := Nat.mul_le_mul hL hK
    omega
  have nd := tie_nd (am st wi)
  have up := tie_up (am st wi)
  have main : ∀ h, Rn (callM P fuel (d + 3) base 37 [stV st, stV wi] h) fun v h' => (∃ F, Comps (tie (am st wi)) F ∧ v = .tup (F.map pcV)) ∧ h' = h := fun h => by
    refine Rn_callF h37 rfl rfl fun C cc cb cf => ?_
    simp only [d37]
    have q1 : ∀ h, callM P fuel (d + 2) C.base 35 [stV st, stV wi] h = .ok (.lst ((tie (am st wi)).map pr)) h := fun h => ties_eq (d := d) h27 h35 (by omega) (by omega) S W
    have q2 : ∀ r, InR (tie (am st wi)) r → ∃ p, IsC (tie (am st wi)) p r ∧ ∀ h, callM P fuel (d + 2) C.base 36 [.lst ((tie (am st wi)).map pr), .int (r : Int)] h = .ok (pcV p) h := fun r hr => piece_eq (d := d + 1) h36 hf nd hT (by decide) hr lT
    generalize tie (am st wi) = T at hT lT nd up q1 q2 ⊢
    rw [cb] at q1 q2
    exists "v", [cc, q1]
    have e0 : (h ++ [Cell.lst []]).length = h.length + 1 := by simp
    rw [e0]
    refine Rn_for (fun i g h' => ∃ (F : List Pc) (Sn : List Nat) (u5 u6 u7 : Option Val), g = [some (stV st), some (stV wi), some (.lst (T.map pr)), some (.ref h.length), some (.ref (h.length + 1)), u5, u6, u7] ∧ h' = c2 h (F.map pcV) (nv Sn) ∧ Seen T i F ∧ (∀ x, x ∈ Sn ↔ ∃ p ∈ F, x ∈ p.1) ∧ Sn.length ≤ 60 * F.length) _ 0 _ _ ⟨[], [], _, _, _, rfl, rfl, Seen.zero T, by simp, by simp⟩ ?_ ?_
    · rintro j y g h' ey ⟨F, Sn, u5, u6, u7, rfl, rfl, sn, ms, ls⟩
      rw [Nat.zero_add] at *
      obtain ⟨⟨r, k⟩, et, rfl⟩ := map_get ey
      have lF := (comps_len hT sn.each sn.up).1
      have qn : cmp .nin (.int (r : Int)) (.ref (h.length + 1)) (c2 h (F.map pcV) (nv Sn)) = some (!Sn.contains r) := nin_ref (c2_1 ..)
      by_cases cr : r ∈ Sn
      · have ek : Sn.contains r = true := by simpa using cr
        exists "v", [pr, b37_1, qn, ek]
        exact ⟨F, Sn, _, _, _, rfl, rfl, sn.old et ((ms r).mp cr), ms, ls⟩
      · have ek : Sn.contains r = false := by simpa using cr
        obtain ⟨p, hp, q3⟩ := q2 r ⟨k, List.mem_of_getElem? et⟩
        have sn2 := sn.new up et (fun z => cr ((ms r).mpr z)) hp
        obtain ⟨lF2, lp⟩ := comps_len hT sn2.each sn2.up
        have lp1 := (lp p (by simp)).1.1
        have n1 : F.map pcV ++ [pcV p] = (F ++ [p]).map pcV := by simp
        have n2 : nv Sn ++ nv p.1 = nv (Sn ++ p.1) := by simp [nv]
        have qd : dle 60 (pcV p) = true := dle_up (by decide) (pcV_dle p)
        have q4 : ∀ h, sits (pcV p) h = some [.tup (nv p.1), .tup (nv p.2)] := fun _ => rfl
        exists "v", [pr, b37_1, qn, ek, cc, q3, c2_0, c2_1, c2_s0, c2_s1, w_ext, q_rfV, q4]
        have mz : ∀ x, x ∈ Sn ++ p.1 ↔ ∃ q, q ∈ F ++ [p] ∧ x ∈ q.1 := fun x => by
          rw [List.mem_append, ms]
          constructor
          · rintro (⟨q, a, b⟩ | hx)
            · exact ⟨q, List.mem_append_left _ a, b⟩
            · exact ⟨p, by simp, hx⟩
          · rintro ⟨q, a, b⟩
            rcases List.mem_append.mp a with a | a
            · exact .inl ⟨q, a, b⟩
            · rw [List.mem_singleton.mp a] at b; exact .inr b
        refine ⟨by omega, .inr qd, by rw [nv_len, nv_len]; omega, .inr (nv_dle 60 p.1), F ++ [p], Sn ++ p.1, _, _, _, rfl, by rw [n1, n2], sn2, mz, ?_⟩
        rw [List.length_append, List.length_append, List.length_singleton]
        omega
    · rintro g h' ⟨F, Sn, u5, u6, u7, rfl, rfl, sn, ms, ls⟩
      rw [Nat.zero_add, List.length_map] at sn
      have lF := (comps_len hT sn.each sn.up).1
      have s1 : bi .tuple [.ref h.length] (c2 h (F.map pcV) (nv Sn)) = some (.v (.tup (F.map pcV))) := by
        show (sits _ _).map _ = _
        rw [c2s_0]
        rfl
      exists "v", [s1]
      refine ⟨?_, ⟨F, sn.end (Nat.le_refl _), rfl⟩, c2_take ..⟩
      show (F.map pcV).all (dle 59) = true
      rw [List.all_map, List.all_eq_true]
      intro p _
      exact dle_up (by decide) (pcV_dle p)
  obtain ⟨v0, h0, e0, ⟨p, hp, rfl⟩, _⟩ := main []
  refine ⟨p, hp, fun h => ?_⟩
  obtain ⟨v, h', e, ⟨p', hp', rfl⟩, rfl⟩ := main h
  rw [e, hp'.uniq hp]
end
end MP

set_option maxHeartbeats 4000000
/-! MiniTC: the law's own pieces. -/
namespace MP
open PySem
set_option hygiene false in
local macro_rules
  | `(tactic| exists "w") => `(tactic| try simp (maxSteps := 2000000) only [Rn_bind, Rn_ok, Rn_some, Rn_og, Rn_obind, Rn_omap, wps, qs, List.getElem?_cons_zero, List.getElem?_cons_succ, Option.some.injEq, exists_eq_left', List.set_cons_zero, List.set_cons_succ, List.map_cons, List.map_nil, List.replicate, List.cons_append, List.nil_append, wipeE, List.foldr, retV, if_true, Bool.not_true, Bool.not_false, Bool.false_eq_true, if_false, decide_eq_true_eq])
  | `(tactic| exists "w", [$ts,*]) => `(tactic| try simp (maxSteps := 2000000) only [Rn_bind, Rn_ok, Rn_some, Rn_og, Rn_obind, Rn_omap, wps, qs, List.getElem?_cons_zero, List.getElem?_cons_succ, Option.some.injEq, exists_eq_left', List.set_cons_zero, List.set_cons_succ, List.map_cons, List.map_nil, List.replicate, List.cons_append, List.nil_append, wipeE, List.foldr, retV, if_true, Bool.not_true, Bool.not_false, Bool.false_eq_true, if_false, decide_eq_true_eq, $[$ts:term],*])
  | `(tactic| exists "v") => `(tactic| try simp (maxSteps := 2000000) only [Rn_bind, Rn_ok, Rn_some, Rn_og, Rn_obind, Rn_omap, wps, qs, List.getElem?_cons_zero, List.getElem?_cons_succ, Option.some.injEq, exists_eq_left', List.set_cons_zero, List.set_cons_succ, List.map_cons, List.map_nil, List.replicate, List.cons_append, List.nil_append, wipeE, List.foldr, retV, if_true, Bool.not_true, Bool.not_false, Bool.false_eq_true, if_false, decide_eq_true_eq, qt, q_mulL, List.foldl_cons, List.foldl_nil, List.zip_cons_cons, List.zip_nil_right, isTL, Rn_stuck, ite_stuck, not_true_eq_false, not_false_eq_true, Bool.not_eq_true, Bool.not_eq_false, decide_eq_false_iff_not, beq_self_eq_true, Bool.or_false, Bool.false_or, Bool.or_self, Bool.and_self, Bool.and_true, Bool.true_and, Bool.false_and, Bool.and_false, Bool.or_true, Bool.true_or, decide_true, decide_false, Bool.true_eq_false, List.take_length, List.length_map, Val.bl.injEq, ite_self, List.length_cons, List.length_nil, Nat.reduceAdd, Nat.reduceMul, Nat.reduceSub, Nat.reducePow, Nat.reduceLT, Nat.reduceLeDiff, Int.reducePow, Int.reduceToNat, Int.reduceAdd, Int.reduceMul, Int.reduceSub, Int.reduceNeg, Int.reduceLT, Int.reduceLE, Int.reduceAbs, Int.reduceEq, Int.reduceNe, Int.cast_ofNat_Int, SZv, and_self, true_and, and_true, Nat.zero_le, or_true, true_or, Nat.zero_add, Int.natCast_add, Int.natCast_one, ge_iff_le, gt_iff_lt])
  | `(tactic| exists "v", [$ts,*]) => `(tactic| try simp (maxSteps := 2000000) only [Rn_bind, Rn_ok, Rn_some, Rn_og, Rn_obind, Rn_omap, wps, qs, List.getElem?_cons_zero, List.getElem?_cons_succ, Option.some.injEq, exists_eq_left', List.set_cons_zero, List.set_cons_succ, List.map_cons, List.map_nil, List.replicate, List.cons_append, List.nil_append, wipeE, List.foldr, retV, if_true, Bool.not_true, Bool.not_false, Bool.false_eq_true, if_false, decide_eq_true_eq, qt, q_mulL, List.foldl_cons, List.foldl_nil, List.zip_cons_cons, List.zip_nil_right, isTL, Rn_stuck, ite_stuck, not_true_eq_false, not_false_eq_true, Bool.not_eq_true, Bool.not_eq_false, decide_eq_false_iff_not, beq_self_eq_true, Bool.or_false, Bool.false_or, Bool.or_self, Bool.and_self, Bool.and_true, Bool.true_and, Bool.false_and, Bool.and_false, Bool.or_true, Bool.true_or, decide_true, decide_false, Bool.true_eq_false, List.take_length, List.length_map, Val.bl.injEq, ite_self, List.length_cons, List.length_nil, Nat.reduceAdd, Nat.reduceMul, Nat.reduceSub, Nat.reducePow, Nat.reduceLT, Nat.reduceLeDiff, Int.reducePow, Int.reduceToNat, Int.reduceAdd, Int.reduceMul, Int.reduceSub, Int.reduceNeg, Int.reduceLT, Int.reduceLE, Int.reduceAbs, Int.reduceEq, Int.reduceNe, Int.cast_ofNat_Int, SZv, and_self, true_and, and_true, Nat.zero_le, or_true, true_or, Nat.zero_add, Int.natCast_add, Int.natCast_one, ge_iff_le, gt_iff_lt, $[$ts:term],*])
  | `(tactic| exists "v*", [$ts,*]) => `(tactic| try simp (maxSteps := 2000000) only [Rn_bind, Rn_ok, Rn_some, Rn_og, Rn_obind, Rn_omap, wps, qs, List.getElem?_cons_zero, List.getElem?_cons_succ, Option.some.injEq, exists_eq_left', List.set_cons_zero, List.set_cons_succ, List.map_cons, List.map_nil, List.replicate, List.cons_append, List.nil_append, wipeE, List.foldr, retV, if_true, Bool.not_true, Bool.not_false, Bool.false_eq_true, if_false, decide_eq_true_eq, qt, q_mulL, List.foldl_cons, List.foldl_nil, List.zip_cons_cons, List.zip_nil_right, isTL, Rn_stuck, ite_stuck, not_true_eq_false, not_false_eq_true, Bool.not_eq_true, Bool.not_eq_false, decide_eq_false_iff_not, beq_self_eq_true, Bool.or_false, Bool.false_or, Bool.or_self, Bool.and_self, Bool.and_true, Bool.true_and, Bool.false_and, Bool.and_false, Bool.or_true, Bool.true_or, decide_true, decide_false, Bool.true_eq_false, List.take_length, List.length_map, Val.bl.injEq, ite_self, List.length_cons, List.length_nil, Nat.reduceAdd, Nat.reduceMul, Nat.reduceSub, Nat.reducePow, Nat.reduceLT, Nat.reduceLeDiff, Int.reducePow, Int.reduceToNat, Int.reduceAdd, Int.reduceMul, Int.reduceSub, Int.reduceNeg, Int.reduceLT, Int.reduceLE, Int.reduceAbs, Int.reduceEq, Int.reduceNe, Int.cast_ofNat_Int, SZv, and_self, true_and, and_true, Nat.zero_le, or_true, true_or, Nat.zero_add, Int.natCast_add, Int.natCast_one, ge_iff_le, gt_iff_lt, $[$ts:term],*, *])
  | `(tactic| exists "sd") => `(tactic| first | decide | omega | (simp only [List.length_cons, List.length_nil, List.length_map, List.length_append, SZv]; omega) | (constructor <;> exists "sd"))
  | `(tactic| exists "s") => `(tactic| repeat (refine And.intro (by exists "sd") ?_))
  | `(tactic| exists "nx", $D, $D1:ident, $x:ident, $a:ident, $b:ident) => `(tactic| refine DH.next H.h5 hf $D (by omega) (by omega) (by omega) fun h' $x $D1 $a $b => ?_)

/-! end of words -/
/-- _law_amiss -/
abbrev f32 : Nat := 32
def d32 : MDef := ⟨false, 2, 4, (Ss.cons (.ret (.comp false (.comp false (.bin .sub false (.var 2) (.var 3)) (.tp [(.nm 2), (.nm 3)]) (.zip (.var 4) (.var 5)) Es.nil [2, 3]) (.tp [(.nm 4), (.nm 5)]) (.zip (.var 0) (.var 1)) Es.nil [4, 5]))
    Ss.nil)⟩
def n32 : List Str := ["_law_stand_here", "_law_wish_here", "_law_a", "_law_b", "_law_row_here", "_law_wished"]

/-- _law_pieces -/
abbrev f40 : Nat := 40
def b40_1 : Ss := (Ss.cons (.par [9, 10] (Es.cons (.bin .add false (.var 9) (.idx (.var 8) (.cst (.int 0)))) (Es.cons (.bin .add false (.var 10) (.idx (.var 8) (.cst (.int 1)))) Es.nil)))
    Ss.nil)
def b40_2 : Ss := (Ss.cons (.iff (.cmp .ne (.var 6) (.cst (.int 0))) (Ss.cons (.asg (.nm 7) (.comp false (.var 8) (.nm 8) (.val (.var 2)) (Es.cons (.bop false (Es.cons (.cmp .inn (.var 3) (.idx (.var 8) (.cst (.int 0)))) (Es.cons (.cmp .inn (.var 5) (.idx (.var 8) (.cst (.int 1)))) Es.nil))) Es.nil) [8]))
    (Ss.cons (.par [9, 10] (Es.cons (.lst false (Es.cons (.var 3) Es.nil)) (Es.cons (.lst false (Es.cons (.var 5) Es.nil)) Es.nil)))
    (Ss.cons (.forr (.nm 8) (.val (.var 7)) b40_1)
    (Ss.cons (.asg (.nm 2) (.bin .add false (.comp false (.var 8) (.nm 8) (.val (.var 2)) (Es.cons (.cmp .nin (.var 8) (.var 7)) Es.nil) [8]) (.lst false (Es.cons (.lst false (Es.cons (.cb .sset false (Es.cons (.var 9) Es.nil)) (Es.cons (.cb .sset false (Es.cons (.var 10) Es.nil)) Es.nil))) Es.nil))))
    Ss.nil)))) Ss.nil)
    Ss.nil)
def d40 : MDef := ⟨false, 2, 9, (Ss.cons (.asg (.nm 2) (.lst false Es.nil))
    (Ss.cons (.forr (.tp [(.nm 3), (.nm 4)]) (.enu (.call f32 (Es.cons (.var 0) (Es.cons (.var 1) Es.nil)))) (Ss.cons (.forr (.tp [(.nm 5), (.nm 6)]) (.enu (.var 4)) b40_2)
    Ss.nil))
    (Ss.cons (.ret (.cb .sortD false (Es.cons (.comp false (.tup (Es.cons (.cb .tuple false (Es.cons (.var 9) Es.nil)) (Es.cons (.cb .tuple false (Es.cons (.var 10) Es.nil)) Es.nil))) (.tp [(.nm 9), (.nm 10)]) (.val (.var 2)) Es.nil [9, 10]) Es.nil)))
    Ss.nil)))⟩
def n40 : List Str := ["_law_stand_here", "_law_wish_here", "_law_found", "_law_room", "_law_row_here", "_law_kind", "_law_number", "_law_near", "_law_piece", "_law_rooms", "_law_kinds"]

/-! ### rising, each once, of natural numbers -/
theorem ded_nv (l : List Nat) : ∃ A : List Nat, A.Pairwise (· < ·) ∧ (∀ x, x ∈ A ↔ x ∈ l) ∧ (dedS (l.map fun i : Nat => (i : Int))).map Val.int = nv A := by
  have up := dedS_up (l.map fun i : Nat => (i : Int))
  have nn : ∀ z ∈ dedS (l.map fun i : Nat => (i : Int)), 0 ≤ z := fun z hz => by
    obtain ⟨i, _, rfl⟩ := List.mem_map.mp (dedS_mem.mp hz)
    omega
  refine ⟨(dedS (l.map fun i : Nat => (i : Int))).map Int.toNat, ?_, fun x => ?_, ?_⟩
  · rw [List.pairwise_map]
    refine up.imp_of_mem fun {a b} ha hb h1 => ?_
    have := nn a ha
    have := nn b hb
    omega
  · rw [List.mem_map]
    constructor
    · rintro ⟨z, hz, rfl⟩
      obtain ⟨i, hi, rfl⟩ := List.mem_map.mp (dedS_mem.mp hz)
      simpa using hi
    · intro hx
      exact ⟨(x : Int), dedS_mem.mpr (List.mem_map.mpr ⟨x, hx, rfl⟩), by simp⟩
  · unfold nv
    rw [List.map_map]
    refine List.map_congr_left fun z hz => ?_
    have := nn z hz
    show Val.int z = Val.int ((z.toNat : Nat) : Int)
    rw [Int.toNat_of_nonneg this]
theorem bi_sset {l A : List Nat} {h : MH} (hl : l.length < 64) (e : (dedS (l.map fun i : Nat => (i : Int))).map Val.int = nv A) : bi .sset [.lst (nv l)] h = some (.nl (nv A)) := by
  simp only [bi, show lits (.lst (nv l)) h = some (nv l) from rfl, Option.bind_some, nv_ints]
  rw [if_pos (by rw [List.length_map]; exact hl), e]
/-! ### a piece as a list of lists -/
def gpV (p : Pc) : Val := .lst [.lst (nv p.1), .lst (nv p.2)]
theorem toD_nv (l : List Nat) : toDL (nv l) = l.map fun i : Nat => PyData.int (i : Int) := by
  rw [toDL_eq]
  unfold nv
  rw [List.map_map]
  rfl
theorem eqv_nv : ∀ l m : List Nat, PyData.eqvAll (toDL (nv l)) (toDL (nv m)) = decide (l = m)
  | [], [] => by simp [nv, toDL, PyData.eqvAll]
  | [], y :: m => by simp [nv, toDL, PyData.eqvAll]
  | x :: l, [] => by simp [nv, toDL, PyData.eqvAll]
  | x :: l, y :: m => by
    have ih := eqv_nv l m
    have e : ((x : Int) == (y : Int)) = decide (x = y) := by
      rw [Bool.eq_iff_iff, beq_iff_eq, decide_eq_true_eq]
      omega
    show PyData.eqvAll (toDL (.int (x : Int) :: nv l)) (toDL (.int (y : Int) :: nv m)) = _
    rw [toDL, toDL, PyData.eqvAll, ih]
    show ((x : Int) == (y : Int) && _) = _
    rw [e, Bool.eq_iff_iff]
    simp
theorem eqv_gp (p q : Pc) : PyData.eqv (toD (gpV p)) (toD (gpV q)) = decide (p = q) := by
  obtain ⟨a, b⟩ := p
  obtain ⟨c, d⟩ := q
  have e1 : ∀ l m : List Nat, PyData.eqv (.list (toDL (nv l))) (.list (toDL (nv m))) = decide (l = m) := fun l m => eqv_nv l m
  show PyData.eqvAll [.list (toDL (nv a)), .list (toDL (nv b))] [.list (toDL (nv c)), .list (toDL (nv d))] = _
  rw [PyData.eqvAll, PyData.eqvAll, PyData.eqvAll, e1, e1, Bool.eq_iff_iff]
  simp
theorem gp_inl (q : Pc) (l : List Pc) : inl (toD (gpV q)) (l.map gpV) = l.contains q := by
  unfold inl
  rw [List.any_map]
  induction l with
  | nil => rfl
  | cons x l ih =>
    rw [List.any_cons, List.contains_cons, ih]
    congr 1
    show PyData.eqv (toD (gpV x)) (toD (gpV q)) = _
    rw [eqv_gp, Bool.eq_iff_iff, decide_eq_true_eq, beq_iff_eq]
    exact eq_comm
theorem nv_shpK (k : Nat) (l : List Nat) : (nv l).all (shp k) = true := by
  unfold nv
  rw [List.all_map, List.all_eq_true]
  intro x _
  cases k <;> rfl
theorem gp_shp (k : Nat) (q : Pc) : shp (k + 2) (gpV q) = true := by
  have a : shp (k + 1) (.lst (nv q.1)) = true := nv_shpK k q.1
  have b : shp (k + 1) (.lst (nv q.2)) = true := nv_shpK k q.2
  show [Val.lst (nv q.1), Val.lst (nv q.2)].all (shp (k + 1)) = true
  simp [a, b]
theorem gp_nin {q : Pc} {l : List Pc} {h : MH} : cmp .nin (gpV q) (.lst (l.map gpV)) h = some (!l.contains q) := by
  show (cmpIn _ _ _).map _ = _
  have : cmpIn (gpV q) (.lst (l.map gpV)) h = some (l.contains q) := by
    unfold cmpIn
    have e1 : pe (gpV q) h = some (toD (gpV q)) := by
      show (if shp 60 (gpV q) = true then some (toD (gpV q)) else none) = _
      rw [if_pos (gp_shp 58 q)]
    have e2 : (l.map gpV).all (shp 59) = true := by
      rw [List.all_map, List.all_eq_true]
      intro x _
      exact gp_shp 57 x
    simp only [e1, show lits (.lst (l.map gpV)) h = some (l.map gpV) from rfl, e2, if_true, gp_inl]
  rw [this]
  rfl
theorem gp_dle (p : Pc) : dle 50 (gpV p) = true := by
  show [Val.lst (nv p.1), Val.lst (nv p.2)].all (dle 49) = true
  have a : dle 49 (.lst (nv p.1)) = true := nv_dle 48 p.1
  have b : dle 49 (.lst (nv p.2)) = true := nv_dle 48 p.2
  simp [a, b]
/-! ### the pairs one by one -/
theorem zipIdx_one {α : Type} {l : List α} {j : Nat} {x : α} (e : l[j]? = some x) : (l.take (j + 1)).zipIdx = (l.take j).zipIdx ++ [(x, j)] := by
  have hj := (List.getElem?_eq_some_iff.mp e).1
  rw [List.take_succ, e, Option.toList_some, List.zipIdx_append]
  congr 1
  simp [Nat.min_eq_left (Nat.le_of_lt hj)]
theorem rowT_one {r j : Nat} {row : List Int} {x : Int} (e : row[j]? = some x) : rowT r (row.take (j + 1)) = rowT r (row.take j) ++ (if x ≠ 0 then [(r, j)] else []) := by
  unfold rowT
  rw [zipIdx_one e, List.filterMap_append]
  congr 1
  by_cases c : x = 0 <;> simp [c]
theorem tie_one {A : List (List Int)} {i : Nat} {row : List Int} (e : A[i]? = some row) : tie (A.take (i + 1)) = tie (A.take i) ++ rowT i row := by
  unfold tie
  rw [zipIdx_one e, List.flatMap_append]
  simp
theorem grp_nodup {T : Prs} {G : List Pc} (h : Grp T G) : (G.flatMap (·.1)).Nodup ∧ (G.flatMap (·.2)).Nodup := by
  constructor
  · rw [List.Nodup, List.pairwise_flatMap]
    refine ⟨fun p hp => ?_, h.nd.imp_of_mem fun {p q} hp hq hne x hx y hy e => ?_⟩
    · obtain ⟨r, hr⟩ := h.each p hp
      exact hr.up1.imp fun z => Nat.ne_of_lt z
    · subst e
      obtain ⟨r, hr⟩ := h.each p hp
      obtain ⟨s, hs⟩ := h.each q hq
      exact hne (hr.meet hs hx hy)
  · rw [List.Nodup, List.pairwise_flatMap]
    refine ⟨fun p hp => ?_, h.nd.imp_of_mem fun {p q} hp hq hne x hx y hy e => ?_⟩
    · obtain ⟨r, hr⟩ := h.each p hp
      exact hr.up2.imp fun z => Nat.ne_of_lt z
    · subst e
      obtain ⟨r, hr⟩ := h.each p hp
      obtain ⟨s, hs⟩ := h.each q hq
      exact hne (hr.meetK hs hx hy)
theorem flat_filter {G : List Pc} {f : Pc → List Nat} {p : Pc → Bool} (h : (G.flatMap f).Nodup) : ((G.filter p).flatMap f).Nodup := by
  rw [List.Nodup, List.pairwise_flatMap] at *
  exact ⟨fun x hx => h.1 x (List.mem_filter.mp hx).1, h.2.filter _⟩
theorem grp_lt {T : Prs} {G : List Pc} {N : Nat} (h : Grp T G) (hT : ∀ p ∈ T, p.1 < N ∧ p.2 < N) : ∀ p ∈ G, (∀ x ∈ p.1, x < N) ∧ ∀ x ∈ p.2, x < N := fun p hp => by
  obtain ⟨r, h⟩ := h.each p hp
  refine ⟨fun x hx => ?_, fun x hx => ?_⟩
  · obtain ⟨k, hk⟩ := ((h.rooms x).mp hx).inR h.inr
    exact (hT _ hk).1
  · obtain ⟨s, _, hk⟩ := (h.kinds x).mp hx
    exact (hT _ hk).2
theorem grp_len {T : Prs} {G : List Pc} {N : Nat} (h : Grp T G) (hT : ∀ p ∈ T, p.1 < N ∧ p.2 < N) : G.length ≤ N := by
  have := nodup_len N (G.map hd1) (List.pairwise_map.mpr (h.nd.imp_of_mem fun {p q} hp hq hne e => by
    obtain ⟨r, hr⟩ := h.each p hp
    obtain ⟨s, hs⟩ := h.each q hq
    exact hne (hr.meet hs hr.hd.1 (e ▸ hs.hd.1)))) fun x hx => by
      obtain ⟨p, hp, rfl⟩ := List.mem_map.mp hx
      obtain ⟨r, hr⟩ := h.each p hp
      exact (grp_lt h hT p hp).1 _ hr.hd.1
  rwa [List.length_map] at this
section
variable {P : Nat → Option MDef} {fuel d base : Nat}
def lV (l : List (List Int)) : Val := .lst (l.map fun row => .lst (row.map .int))
theorem lamiss_eq (h32 : P 32 = some d32) {L K : Nat} {st wi : List (List Int)} {h : MH} (hL : L ≤ 100) (hK : K ≤ 100) (S : Sq L K st) (W : Sq L K wi) : callM P fuel (d + 1) base 32 [stV st, stV wi] h = .ok (lV (am st wi)) h := by
  refine Rn_eq (Rn_callF h32 rfl rfl fun C cc cb cf => ?_)
  simp only [d32, stV]
  exists "v"
  refine Rn_compP (pout .lst) ?_ ?_
  · intro x hx
    obtain ⟨u, hu, v, hv, rfl⟩ := zip_mem hx
    obtain ⟨a, ha, rfl⟩ := List.mem_map.mp hu
    obtain ⟨b, hb, rfl⟩ := List.mem_map.mp hv
    simp only [tI]
    exists "v"
    refine Rn_compP pin ?_ ?_
    · intro y hy
      obtain ⟨u, hu, v, hv, rfl⟩ := zip_mem hy
      obtain ⟨i, _, rfl⟩ := List.mem_map.mp hu
      obtain ⟨j, _, rfl⟩ := List.mem_map.mp hv
      exists "v"
      simp only [pin, and_self]
    · exists "v"
      refine ⟨?_, ?_⟩
      · rw [zip_in, List.length_map, List.length_zipWith, S.rl a ha]; omega
      · simp [pout]
  · rw [zip_out]
    exists "v"
    refine ⟨by rw [am_len, S.len]; omega, ?_, rfl⟩
    show ((am st wi).map fun row => Val.lst (row.map .int)).all (dle 59) = true
    rw [List.all_map, List.all_eq_true]
    intro row _
    show (row.map Val.int).all (dle 58) = true
    rw [List.all_map, List.all_eq_true]
    intro x _
    rfl
def pNear (r k : Nat) (x : Val) : Option Val := match x with
  | .lst [.lst a, .lst b] => if inl (.int (r : Int)) a || inl (.int (k : Int)) b then some x else none
  | _ => none
theorem pNear_gp (r k : Nat) (q : Pc) : pNear r k (gpV q) = if near r k q then some (gpV q) else none := by
  show (if inl (.int (r : Int)) (nv q.1) || inl (.int (k : Int)) (nv q.2) then some (gpV q) else none) = _
  rw [nv_inl, nv_inl]
  rfl
theorem near_map (r k : Nat) (G : List Pc) : (G.map gpV).filterMap (pNear r k) = (G.filter (near r k)).map gpV := by
  rw [List.filterMap_map]
  induction G with
  | nil => rfl
  | cons q G ih =>
    rw [List.filterMap_cons, List.filter_cons]
    rw [Function.comp_apply, pNear_gp]
    by_cases c : near r k q = true
    · rw [if_pos c, if_pos c, List.map_cons, ← ih]
    · rw [if_neg c, if_neg c, ← ih]
def pFar (N : List Pc) (x : Val) : Option Val := if inl (toD x) (N.map gpV) then none else some x
theorem far_map (N G : List Pc) : (G.map gpV).filterMap (pFar N) = (G.filter fun q => !N.contains q).map gpV := by
  rw [List.filterMap_map]
  induction G with
  | nil => rfl
  | cons q G ih =>
    rw [List.filterMap_cons, List.filter_cons]
    have e : pFar N (gpV q) = if N.contains q then none else some (gpV q) := by
      unfold pFar
      rw [gp_inl]
    rw [Function.comp_apply, e]
    by_cases c : N.contains q = true
    · rw [if_pos c, if_neg (by rw [c]; decide), ← ih]
    · have c' : N.contains q = false := by simpa using c
      rw [if_neg c, if_pos (by rw [c']; rfl), List.map_cons, ← ih]
theorem far_near {G : List Pc} {r k : Nat} : (G.filter fun q => !(G.filter (near r k)).contains q) = G.filter fun q => !near r k q := by
  refine List.filter_congr fun q hq => ?_
  congr 1
  rw [Bool.eq_iff_iff, List.contains_iff_mem, List.mem_filter]
  exact ⟨fun a => a.2, fun a => ⟨hq, a⟩⟩
theorem lpieces_step {C : EC} {T : Prs} {G : List Pc} {r k : Nat} {n : Int} {h : MH} {u0 u1 u4 u7 u8 u9 u10 : Option Val} {Q : Fl → MH → Prop} (hG : Grp T G) (hT : ∀ p ∈ T, p.1 < 60 ∧ p.2 < 60) (hr : r < 60) (hk : k < 60)
    (q : ∀ G' u7 u8 u9 u10, Grp (T ++ if n ≠ 0 then [(r, k)] else []) G' → Q (.nx [u0, u1, some (.lst (G'.map gpV)), some (.int (r : Int)), u4, some (.int (k : Int)), some (.int n), u7, u8, u9, u10]) h) :
    Rn (exs C b40_2 [u0, u1, some (.lst (G.map gpV)), some (.int (r : Int)), u4, some (.int (k : Int)), some (.int n), u7, u8, u9, u10] h) Q := by
  by_cases c : n = 0
  · subst c
    exists "v", [b40_2]
    exact q G _ _ _ _ (by simpa using hG)
  · have lG := grp_len hG hT
    obtain ⟨nd1, nd2⟩ := grp_nodup hG
    have lt := grp_lt hG hT
    exists "v", [b40_2, c]
    refine Rn_compP (pNear r k) (fun x hx => ?_) ?_
    · obtain ⟨p, hp, rfl⟩ := List.mem_map.mp hx
      rw [pNear_gp]
      have q4 : ∀ h, sits (gpV p) h = some [.lst (nv p.1), .lst (nv p.2)] := fun _ => rfl
      have i1 : ∀ h, cmp .inn (.int (r : Int)) (.lst (nv p.1)) h = some (p.1.contains r) := fun h => in_lst
      have i2 : ∀ h, cmp .inn (.int (k : Int)) (.lst (nv p.2)) h = some (p.2.contains k) := fun h => in_lst
      by_cases c1 : p.1.contains r = true
      · rw [show near r k p = true by unfold near; rw [c1]; rfl]
        exists "v", [q4, i1, i2, c1]
      · have c1 : p.1.contains r = false := by simpa using c1
        by_cases c2 : p.2.contains k = true
        · rw [show near r k p = true by unfold near; rw [c1, c2]; rfl]
          exists "v", [q4, i1, i2, c1, c2]
        · have c2 : p.2.contains k = false := by simpa using c2
          rw [show near r k p = false by unfold near; rw [c1, c2]; rfl]
          exists "v", [q4, i1, i2, c1, c2]
    · rw [near_map]
      have lN : (G.filter (near r k)).length ≤ 60 := Nat.le_trans (List.length_filter_le _ _) lG
      generalize hNe : G.filter (near r k) = N at lN ⊢
      have memN : ∀ x, x ∈ N ↔ x ∈ G ∧ near r k x = true := fun x => by rw [← hNe, List.mem_filter]
      exists "v"
      refine ⟨by omega, ?_⟩
      have fN : (N.flatMap (·.1)).length ≤ 60 ∧ (N.flatMap (·.2)).length ≤ 60 := by
        rw [← hNe]
        constructor
        · refine nodup_len 60 _ (flat_filter nd1) fun x hx => ?_
          obtain ⟨p, hp, hx⟩ := List.mem_flatMap.mp hx
          exact (lt p (List.mem_filter.mp hp).1).1 x hx
        · refine nodup_len 60 _ (flat_filter nd2) fun x hx => ?_
          obtain ⟨p, hp, hx⟩ := List.mem_flatMap.mp hx
          exact (lt p (List.mem_filter.mp hp).1).2 x hx
      refine Rn_for (fun i g h' => h' = h ∧ ∃ u8, g = [u0, u1, some (.lst (G.map gpV)), some (.int (r : Int)), u4, some (.int (k : Int)), some (.int n), some (.lst (N.map gpV)), u8, some (.lst (nv (r :: (N.take i).flatMap (·.1)))), some (.lst (nv (k :: (N.take i).flatMap (·.2))))]) _ 0 _ _ ⟨rfl, u8, rfl⟩ ?_ ?_
      · rintro j y g h' ey ⟨rfl, u8, rfl⟩
        rw [Nat.zero_add] at *
        obtain ⟨p, ep, rfl⟩ := map_get ey
        have q4 : ∀ h, sits (gpV p) h = some [.lst (nv p.1), .lst (nv p.2)] := fun _ => rfl
        have f1 : ∀ f : Pc → List Nat, (N.take (j + 1)).flatMap f = (N.take j).flatMap f ++ f p := fun f => by
          rw [List.take_succ, ep, List.flatMap_append]
          simp
        have f2 : ∀ f : Pc → List Nat, ((N.take j).flatMap f).length + (f p).length ≤ (N.flatMap f).length := fun f => by
          have e : N.flatMap f = (N.take (j + 1)).flatMap f ++ (N.drop (j + 1)).flatMap f := by rw [← List.flatMap_append, List.take_append_drop]
          rw [e, f1, List.length_append, List.length_append]
          omega
        have f3 := f2 (·.1)
        have f4 := f2 (·.2)
        have n1 : ∀ a b : List Nat, nv a ++ nv b = nv (a ++ b) := fun a b => by simp [nv]
        exists "v", [b40_1, q4]
        rw [n1, n1, f1, f1, nv_len, nv_len]
        refine ⟨?_, ?_, _, rfl⟩
        · rw [List.length_append, List.length_cons]; omega
        · rw [List.length_append, List.length_cons]; omega
      · rintro g h' ⟨rfl, u8, rfl⟩
        rw [Nat.zero_add, List.length_map, List.take_length]
        exists "v"
        obtain ⟨A, u1, m1, e1⟩ := ded_nv (r :: N.flatMap (·.1))
        obtain ⟨B, u2, m2, e2⟩ := ded_nv (k :: N.flatMap (·.2))
        have s1 : ∀ h, bi .sset [.lst (nv (r :: N.flatMap (·.1)))] h = some (.nl (nv A)) := fun h => bi_sset (by rw [List.length_cons]; omega) e1
        have s2 : ∀ h, bi .sset [.lst (nv (k :: N.flatMap (·.2)))] h = some (.nl (nv B)) := fun h => bi_sset (by rw [List.length_cons]; omega) e2
        refine Rn_compP (pFar N) (fun x hx => ?_) ?_
        · obtain ⟨p, hp, rfl⟩ := List.mem_map.mp hx
          have qn : ∀ h, cmp .nin (gpV p) (.lst (N.map gpV)) h = some (!N.contains p) := fun h => gp_nin
          have e : pFar N (gpV p) = if N.contains p then none else some (gpV p) := by
            unfold pFar
            rw [gp_inl]
          rw [e]
          by_cases c1 : N.contains p = true
          · exists "v", [qn, c1]
          · have c1 : N.contains p = false := by simpa using c1
            exists "v", [qn, c1]
        · rw [far_map]
          have lA : A.length ≤ 60 := nodup_len 60 A (u1.imp fun z => Nat.ne_of_lt z) fun x hx => by
            rcases List.mem_cons.mp ((m1 x).mp hx) with rfl | hx
            · exact hr
            · obtain ⟨p, hp, hx⟩ := List.mem_flatMap.mp hx
              exact (lt p ((memN p).mp hp).1).1 x hx
          have lB : B.length ≤ 60 := nodup_len 60 B (u2.imp fun z => Nat.ne_of_lt z) fun x hx => by
            rcases List.mem_cons.mp ((m2 x).mp hx) with rfl | hx
            · exact hk
            · obtain ⟨p, hp, hx⟩ := List.mem_flatMap.mp hx
              exact (lt p ((memN p).mp hp).1).2 x hx
          have lF : ((G.filter fun q => !N.contains q)).length ≤ 60 := Nat.le_trans (List.length_filter_le _ _) lG
          exists "v", [s1, s2]
          have e5 : (G.filter fun q => !N.contains q).map gpV ++ [.lst [.lst (nv A), .lst (nv B)]] = ((G.filter fun q => !near r k q) ++ [(A, B)]).map gpV := by
            rw [← hNe, far_near, List.map_append]
            rfl
          rw [e5]
          refine ⟨by omega, by rw [nv_len]; omega, by rw [nv_len]; omega, ?_, q _ _ _ _ _ ?_⟩
          · have := List.length_filter_le (fun q => !near r k q) G
            rw [List.length_map, List.length_append, List.length_singleton]
            omega
          · rw [if_pos c]
            refine hG.add u1 u2 (fun x => ?_) (fun x => ?_)
            · rw [m1, List.mem_cons, List.mem_flatMap]
              constructor
              · rintro (h1 | ⟨p, h1, h2⟩)
                · exact .inl h1
                · exact .inr ⟨p, ((memN p).mp h1).1, ((memN p).mp h1).2, h2⟩
              · rintro (h1 | ⟨p, h1, h2, h3⟩)
                · exact .inl h1
                · exact .inr ⟨p, (memN p).mpr ⟨h1, h2⟩, h3⟩
            · rw [m2, List.mem_cons, List.mem_flatMap]
              constructor
              · rintro (h1 | ⟨p, h1, h2⟩)
                · exact .inl h1
                · exact .inr ⟨p, ((memN p).mp h1).1, ((memN p).mp h1).2, h2⟩
              · rintro (h1 | ⟨p, h1, h2, h3⟩)
                · exact .inl h1
                · exact .inr ⟨p, (memN p).mpr ⟨h1, h2⟩, h3⟩
/-! ### sorted -/
theorem alike_nv (l m : List Nat) : PySem.W.alike (.tuple (toDL (nv l))) (.tuple (toDL (nv m))) = true := by
  have h := PySem.W.alike_ints (l.map fun i : Nat => (i : Int)) (m.map fun i : Nat => (i : Int))
  rw [toD_nv, toD_nv]
  rw [List.map_map, List.map_map] at h
  simp only [PySem.W.alike]
  exact h
theorem alike_pc (p q : Pc) : PySem.W.alike (toD (pcV p)) (toD (pcV q)) = true := by
  show PySem.W.alike (.tuple [.tuple (toDL (nv p.1)), .tuple (toDL (nv p.2))]) (.tuple [.tuple (toDL (nv q.1)), .tuple (toDL (nv q.2))]) = true
  have a := alike_nv p.1 q.1
  have b := alike_nv p.2 q.2
  simp only [PySem.W.alike, PySem.W.alikeAll] at a b ⊢
  simp [a, b]
theorem lt_nv {a c : Nat} {l m : List Nat} (h : a ≠ c) : PySem.W.dataLt (.tuple (toDL (nv (a :: l)))) (.tuple (toDL (nv (c :: m)))) = decide (a < c) := by
  rw [toD_nv, toD_nv, PySem.W.dataLt_tuple]
  have e := PySem.W.dataLt_ints ((a :: l).map fun i : Nat => (i : Int)) ((c :: m).map fun i : Nat => (i : Int))
  rw [List.map_map, List.map_map] at e
  refine e.trans ?_
  rw [Bool.eq_iff_iff, decide_eq_true_eq, decide_eq_true_eq, List.map_cons, List.map_cons, List.cons_lt_cons_iff]
  constructor
  · rintro (h1 | ⟨h1, _⟩)
    · omega
    · exact absurd (by omega) h
  · intro h1
    exact .inl (by omega)
theorem eqv_tnv (l m : List Nat) : PyData.eqv (.tuple (toDL (nv l))) (.tuple (toDL (nv m))) = decide (l = m) := eqv_nv l m
theorem lt_pc {p q : Pc} (hp : p.1 ≠ []) (hq : q.1 ≠ []) (h : hd1 p ≠ hd1 q) : PySem.W.dataLt (toD (pcV p)) (toD (pcV q)) = decide (hd1 p < hd1 q) := by
  obtain ⟨a, b⟩ := p
  obtain ⟨c, e⟩ := q
  cases a with
  | nil => exact absurd rfl hp
  | cons x a =>
    cases c with
    | nil => exact absurd rfl hq
    | cons y c =>
      have hne : x ≠ y := h
      have h1 : PyData.eqv (.tuple (toDL (nv (x :: a)))) (.tuple (toDL (nv (y :: c)))) = false := by
        rw [eqv_tnv, decide_eq_false_iff_not]
        intro z
        cases z
        exact hne rfl
      show PySem.W.dataLt (.tuple [.tuple (toDL (nv (x :: a))), .tuple (toDL (nv b))]) (.tuple [.tuple (toDL (nv (y :: c))), .tuple (toDL (nv e))]) = _
      rw [PySem.W.dataLt_pair (alike_nv _ _) (alike_nv _ _), h1]
      exact lt_nv hne
theorem pc_shp (k : Nat) (q : Pc) : shp (k + 2) (pcV q) = true := by
  have a : shp (k + 1) (.tup (nv q.1)) = true := nv_shpK k q.1
  have b : shp (k + 1) (.tup (nv q.2)) = true := nv_shpK k q.2
  show [Val.tup (nv q.1), Val.tup (nv q.2)].all (shp (k + 1)) = true
  simp [a, b]
theorem sort_pc {T : Prs} {G : List Pc} (hG : Grp T G) : ∃ F, Comps T F ∧ F.Perm G ∧ ∀ h, bi .sortD [.lst (G.map pcV)] h = some (.nl (F.map pcV)) := by
  obtain ⟨le, hle⟩ : ∃ le : Pc → Pc → Bool, le = fun a b => !PySem.W.dataLt (toD (pcV b)) (toD (pcV a)) := ⟨_, rfl⟩
  have srt : (G.mergeSort le).Pairwise fun a b => le a b = true := by
    rw [hle]
    exact PySem.W.sort_pairwise (PySem.W.sortLe_total (PyProof.Rows.listOrd PyProof.Rows.itemOrd) false fun p : Pc => PySem.W.keyToks (toD (pcV p))) G
  have ne : ∀ p ∈ G, p.1 ≠ [] := fun p hp e => by
    obtain ⟨r, hr⟩ := hG.each p hp
    have := hr.self
    rw [e] at this
    simp at this
  have pm := List.mergeSort_perm G le
  refine ⟨G.mergeSort le, ?_, pm, fun h => ?_⟩
  · refine hG.comps (fun p => pm.mem_iff) (srt.imp_of_mem fun {a b} ha hb hab => ?_) (pm.nodup_iff.mpr hG.nd)
    by_cases c : hd1 a = hd1 b
    · omega
    · rw [hle] at hab
      have hab : (!PySem.W.dataLt (toD (pcV b)) (toD (pcV a))) = true := hab
      rw [lt_pc (ne b (pm.mem_iff.mp hb)) (ne a (pm.mem_iff.mp ha)) (fun z => c z.symm)] at hab
      simp at hab
      exact hab
  · have c1 : ((G.map pcV).all (fun u => shp 58 u && isT1 u) && alikeL (G.map pcV)) = true := by
      rw [Bool.and_eq_true, List.all_eq_true]
      refine ⟨fun u hu => ?_, ?_⟩
      · obtain ⟨p, _, rfl⟩ := List.mem_map.mp hu
        rw [pc_shp 56 p]
        rfl
      · unfold alikeL
        rw [List.all_eq_true]
        intro a ha
        rw [List.all_eq_true]
        intro b hb
        obtain ⟨p, _, rfl⟩ := List.mem_map.mp ha
        obtain ⟨q, _, rfl⟩ := List.mem_map.mp hb
        exact alike_pc p q
    have e : bi .sortD [.lst (G.map pcV)] h = if ((G.map pcV).all (fun u => shp 58 u && isT1 u) && alikeL (G.map pcV)) = true then some (.nl (sortD (G.map pcV))) else none := by
      simp only [bi, show lits (.lst (G.map pcV)) h = some (G.map pcV) from rfl, Option.bind_some]
    rw [e, if_pos c1]
    unfold sortD
    rw [← List.map_mergeSort (r := le) fun a _ b _ => by rw [hle]]
theorem enum_at {l : List Val} {i : Nat} {x : Val} (e : (enumV l)[i]? = some x) : ∃ v, l[i]? = some v ∧ x = .tup [.int (i : Nat), v] := by
  unfold enumV at e
  rw [List.getElem?_map, Option.map_eq_some_iff] at e
  obtain ⟨⟨a, j⟩, e1, rfl⟩ := e
  rw [List.getElem?_zipIdx, Option.map_eq_some_iff] at e1
  obtain ⟨c, e3, e4⟩ := e1
  simp only [Nat.zero_add, Prod.mk.injEq] at e4
  obtain ⟨rfl, rfl⟩ := e4
  exact ⟨_, e3, rfl⟩
theorem q_tpA (a b : Val) (i j : Nat) (g : ME) : tgs (.tp [.nm i, .nm j]) (.lst [a, b]) g = some ((g.set i (some a)).set j (some b)) := by
  simp [tgs, tgsL]
theorem enum_len (l : List Val) : (enumV l).length = l.length := by simp [enumV]
/-- the law's own: the same pieces, as a list -/
theorem lpieces_eq (h32 : P 32 = some d32) (h40 : P 40 = some d40) {L K : Nat} {st wi : List (List Int)} (hL : L ≤ 60) (hK : K ≤ 60) (S : Sq L K st) (W : Sq L K wi) :
    ∃ F, Comps (tie (am st wi)) F ∧ ∀ h, callM P fuel (d + 2) base 40 [stV st, stV wi] h = .ok (.lst (F.map pcV)) h := by
  have A := am_row S W
  have hT : ∀ p ∈ tie (am st wi), p.1 < 60 ∧ p.2 < 60 := fun p hp => by
    have := tie_lt A (r := p.1) (k := p.2) hp
    omega
  have main : ∀ h, Rn (callM P fuel (d + 2) base 40 [stV st, stV wi] h) fun v h' => (∃ F, Comps (tie (am st wi)) F ∧ v = .lst (F.map pcV)) ∧ h' = h := fun h => by
    refine Rn_callF h40 rfl rfl fun C cc cb cf => ?_
    simp only [d40]
    have q1 : ∀ h, callM P fuel (d + 1) C.base 32 [stV st, stV wi] h = .ok (lV (am st wi)) h := fun h => lamiss_eq (d := d) h32 (by omega) (by omega) S W
    generalize am st wi = M at A hT q1 ⊢
    rw [cb] at q1
    exists "v", [cc, q1]
    simp only [lV]
    exists "v"
    refine Rn_for (fun i g h' => h' = h ∧ ∃ (G : List Pc) (u3 u4 u5 u6 u7 u8 u9 u10 : Option Val), g = [some (stV st), some (stV wi), some (.lst (G.map gpV)), u3, u4, u5, u6, u7, u8, u9, u10] ∧ Grp (tie (M.take i)) G) _ 0 _ _ ⟨rfl, [], _, _, _, _, _, _, _, _, rfl, Grp.nil⟩ ?_ ?_
    · rintro i x g h' ex ⟨rfl, G, u3, u4, u5, u6, u7, u8, u9, u10, rfl, hG⟩
      rw [Nat.zero_add] at *
      obtain ⟨v, e1, rfl⟩ := enum_at ex
      obtain ⟨row, er, rfl⟩ := map_get e1
      have rl := A.rl row (List.mem_of_getElem? er)
      have hi : i < L := by
        have := (List.getElem?_eq_some_iff.mp er).1
        rw [A.len] at this
        exact this
      have hT2 : ∀ j, ∀ p ∈ tie (M.take i) ++ rowT i (row.take j), p.1 < 60 ∧ p.2 < 60 := fun j p hp => by
        rcases List.mem_append.mp hp with hp | hp
        · obtain ⟨a, b⟩ := p
          obtain ⟨row2, y, h1, h2, h3⟩ := tie_mem.mp hp
          rw [List.getElem?_take] at h1
          split at h1
          · exact hT _ (tie_mem.mpr ⟨row2, y, h1, h2, h3⟩)
          · cases h1
        · unfold rowT at hp
          obtain ⟨⟨y, b⟩, h1, h2⟩ := List.mem_filterMap.mp hp
          have h1 := List.mem_zipIdx_iff_getElem?.mp h1
          simp only [Option.ite_none_right_eq_some, Option.some.injEq] at h1 h2
          obtain ⟨_, rfl⟩ := h2
          have h3 := (List.getElem?_eq_some_iff.mp h1).1
          rw [List.length_take, rl] at h3
          show i < 60 ∧ b < 60
          omega
      exists "v"
      refine Rn_for (fun j g h2 => h2 = h' ∧ ∃ (G : List Pc) (u5 u6 u7 u8 u9 u10 : Option Val), g = [some (stV st), some (stV wi), some (.lst (G.map gpV)), some (.int (i : Int)), some (.lst (row.map .int)), u5, u6, u7, u8, u9, u10] ∧ Grp (tie (M.take i) ++ rowT i (row.take j)) G) _ 0 _ _ ⟨rfl, G, u5, u6, u7, u8, u9, u10, rfl, by simpa [rowT] using hG⟩ ?_ ?_
      · rintro j y g h2 ey ⟨rfl, G, u5, u6, u7, u8, u9, u10, rfl, hG⟩
        rw [Nat.zero_add] at *
        obtain ⟨v, e2, rfl⟩ := enum_at ey
        obtain ⟨n, en, rfl⟩ := map_get e2
        have hj : j < K := by
          have := (List.getElem?_eq_some_iff.mp en).1
          rw [rl] at this
          exact this
        exists "v"
        refine lpieces_step hG (hT2 j) (by omega) (by omega) fun G' u7 u8 u9 u10 hG' => ?_
        refine ⟨rfl, G', _, _, _, _, _, _, rfl, ?_⟩
        rw [rowT_one en, ← List.append_assoc]
        exact hG'
      · rintro g h2 ⟨rfl, G, u5, u6, u7, u8, u9, u10, rfl, hG⟩
        rw [Nat.zero_add, enum_len, List.length_map, List.take_length] at hG
        exists "v"
        exact ⟨G, _, _, _, _, _, _, _, _, rfl, by rw [tie_one er]; exact hG⟩
    · rintro g h' ⟨rfl, G, u3, u4, u5, u6, u7, u8, u9, u10, rfl, hG⟩
      rw [Nat.zero_add, enum_len, List.length_map, List.take_length] at hG
      have lG := grp_len hG hT
      obtain ⟨F, hF, pm, sF⟩ := sort_pc hG
      exists "v"
      refine Rn_compMap (fun x => match x with | .lst [.lst a, .lst b] => .tup [.tup a, .tup b] | _ => .non) (fun x hx => ?_) ?_
      · obtain ⟨p, _, rfl⟩ := List.mem_map.mp hx
        simp only [gpV]
        exists "v", [q_tpA]
      · have e : (G.map gpV).map (fun x => match x with | .lst [.lst a, .lst b] => .tup [.tup a, .tup b] | _ => .non) = G.map pcV := by
          rw [List.map_map]
          rfl
        rw [e]
        exists "v", [sF]
        have lF := pm.length_eq
        refine ⟨by omega, by omega, ?_, F, hF, rfl⟩
        show (F.map pcV).all (dle 59) = true
        rw [List.all_map, List.all_eq_true]
        intro p _
        exact dle_up (by decide) (pcV_dle p)
  obtain ⟨v0, h0, e0, ⟨p, hp, rfl⟩, _⟩ := main []
  refine ⟨p, hp, fun h => ?_⟩
  obtain ⟨v, h', e, ⟨p', hp', rfl⟩, rfl⟩ := main h
  rw [e, hp'.uniq hp]
end
end MP

set_option maxHeartbeats 4000000
namespace MP
open PySem
set_option hygiene false in
local macro_rules
  | `(tactic| exists "w") => `(tactic| try simp (maxSteps := 2000000) only [Rn_bind, Rn_ok, Rn_some, Rn_og, Rn_obind, Rn_omap, wps, qs, List.getElem?_cons_zero, List.getElem?_cons_succ, Option.some.injEq, exists_eq_left', List.set_cons_zero, List.set_cons_succ, List.map_cons, List.map_nil, List.replicate, List.cons_append, List.nil_append, wipeE, List.foldr, retV, if_true, Bool.not_true, Bool.not_false, Bool.false_eq_true, if_false, decide_eq_true_eq])
  | `(tactic| exists "w", [$ts,*]) => `(tactic| try simp (maxSteps := 2000000) only [Rn_bind, Rn_ok, Rn_some, Rn_og, Rn_obind, Rn_omap, wps, qs, List.getElem?_cons_zero, List.getElem?_cons_succ, Option.some.injEq, exists_eq_left', List.set_cons_zero, List.set_cons_succ, List.map_cons, List.map_nil, List.replicate, List.cons_append, List.nil_append, wipeE, List.foldr, retV, if_true, Bool.not_true, Bool.not_false, Bool.false_eq_true, if_false, decide_eq_true_eq, $[$ts:term],*])
  | `(tactic| exists "v") => `(tactic| try simp (maxSteps := 2000000) only [Rn_bind, Rn_ok, Rn_some, Rn_og, Rn_obind, Rn_omap, wps, qs, List.getElem?_cons_zero, List.getElem?_cons_succ, Option.some.injEq, exists_eq_left', List.set_cons_zero, List.set_cons_succ, List.map_cons, List.map_nil, List.replicate, List.cons_append, List.nil_append, wipeE, List.foldr, retV, if_true, Bool.not_true, Bool.not_false, Bool.false_eq_true, if_false, decide_eq_true_eq, qt, q_mulL, List.foldl_cons, List.foldl_nil, List.zip_cons_cons, List.zip_nil_right, isTL, Rn_stuck, ite_stuck, not_true_eq_false, not_false_eq_true, Bool.not_eq_true, Bool.not_eq_false, decide_eq_false_iff_not, beq_self_eq_true, Bool.or_false, Bool.false_or, Bool.or_self, Bool.and_self, Bool.and_true, Bool.true_and, Bool.false_and, Bool.and_false, Bool.or_true, Bool.true_or, decide_true, decide_false, Bool.true_eq_false, List.take_length, List.length_map, Val.bl.injEq, ite_self, List.length_cons, List.length_nil, Nat.reduceAdd, Nat.reduceMul, Nat.reduceSub, Nat.reducePow, Nat.reduceLT, Nat.reduceLeDiff, Int.reducePow, Int.reduceToNat, Int.reduceAdd, Int.reduceMul, Int.reduceSub, Int.reduceNeg, Int.reduceLT, Int.reduceLE, Int.reduceAbs, Int.reduceEq, Int.reduceNe, Int.cast_ofNat_Int, SZv, and_self, true_and, and_true, Nat.zero_le, or_true, true_or, Nat.zero_add, Int.natCast_add, Int.natCast_one, ge_iff_le, gt_iff_lt])
  | `(tactic| exists "v", [$ts,*]) => `(tactic| try simp (maxSteps := 2000000) only [Rn_bind, Rn_ok, Rn_some, Rn_og, Rn_obind, Rn_omap, wps, qs, List.getElem?_cons_zero, List.getElem?_cons_succ, Option.some.injEq, exists_eq_left', List.set_cons_zero, List.set_cons_succ, List.map_cons, List.map_nil, List.replicate, List.cons_append, List.nil_append, wipeE, List.foldr, retV, if_true, Bool.not_true, Bool.not_false, Bool.false_eq_true, if_false, decide_eq_true_eq, qt, q_mulL, List.foldl_cons, List.foldl_nil, List.zip_cons_cons, List.zip_nil_right, isTL, Rn_stuck, ite_stuck, not_true_eq_false, not_false_eq_true, Bool.not_eq_true, Bool.not_eq_false, decide_eq_false_iff_not, beq_self_eq_true, Bool.or_false, Bool.false_or, Bool.or_self, Bool.and_self, Bool.and_true, Bool.true_and, Bool.false_and, Bool.and_false, Bool.or_true, Bool.true_or, decide_true, decide_false, Bool.true_eq_false, List.take_length, List.length_map, Val.bl.injEq, ite_self, List.length_cons, List.length_nil, Nat.reduceAdd, Nat.reduceMul, Nat.reduceSub, Nat.reducePow, Nat.reduceLT, Nat.reduceLeDiff, Int.reducePow, Int.reduceToNat, Int.reduceAdd, Int.reduceMul, Int.reduceSub, Int.reduceNeg, Int.reduceLT, Int.reduceLE, Int.reduceAbs, Int.reduceEq, Int.reduceNe, Int.cast_ofNat_Int, SZv, and_self, true_and, and_true, Nat.zero_le, or_true, true_or, Nat.zero_add, Int.natCast_add, Int.natCast_one, ge_iff_le, gt_iff_lt, $[$ts:term],*])
  | `(tactic| exists "v*", [$ts,*]) => `(tactic| try simp (maxSteps := 2000000) only [Rn_bind, Rn_ok, Rn_some, Rn_og, Rn_obind, Rn_omap, wps, qs, List.getElem?_cons_zero, List.getElem?_cons_succ, Option.some.injEq, exists_eq_left', List.set_cons_zero, List.set_cons_succ, List.map_cons, List.map_nil, List.replicate, List.cons_append, List.nil_append, wipeE, List.foldr, retV, if_true, Bool.not_true, Bool.not_false, Bool.false_eq_true, if_false, decide_eq_true_eq, qt, q_mulL, List.foldl_cons, List.foldl_nil, List.zip_cons_cons, List.zip_nil_right, isTL, Rn_stuck, ite_stuck, not_true_eq_false, not_false_eq_true, Bool.not_eq_true, Bool.not_eq_false, decide_eq_false_iff_not, beq_self_eq_true, Bool.or_false, Bool.false_or, Bool.or_self, Bool.and_self, Bool.and_true, Bool.true_and, Bool.false_and, Bool.and_false, Bool.or_true, Bool.true_or, decide_true, decide_false, Bool.true_eq_false, List.take_length, List.length_map, Val.bl.injEq, ite_self, List.length_cons, List.length_nil, Nat.reduceAdd, Nat.reduceMul, Nat.reduceSub, Nat.reducePow, Nat.reduceLT, Nat.reduceLeDiff, Int.reducePow, Int.reduceToNat, Int.reduceAdd, Int.reduceMul, Int.reduceSub, Int.reduceNeg, Int.reduceLT, Int.reduceLE, Int.reduceAbs, Int.reduceEq, Int.reduceNe, Int.cast_ofNat_Int, SZv, and_self, true_and, and_true, Nat.zero_le, or_true, true_or, Nat.zero_add, Int.natCast_add, Int.natCast_one, ge_iff_le, gt_iff_lt, $[$ts:term],*, *])
  | `(tactic| exists "sd") => `(tactic| first | decide | omega | (simp only [List.length_cons, List.length_nil, List.length_map, List.length_append, SZv]; omega) | (constructor <;> exists "sd"))
  | `(tactic| exists "s") => `(tactic| repeat (refine And.intro (by exists "sd") ?_))
  | `(tactic| exists "nx", $D, $D1:ident, $x:ident, $a:ident, $b:ident) => `(tactic| refine DH.next H.h5 hf $D (by omega) (by omega) (by omega) fun h' $x $D1 $a $b => ?_)

/-! end of words -/
/-- is_shut -/
abbrev f38 : Nat := 38
def d38 : MDef := ⟨false, 3, 2, (Ss.cons (.asg (.nm 3) (.call f23 (Es.cons (.var 0) (Es.cons (.var 1) Es.nil))))
    (Ss.cons (.ret (.cb .all false (Es.cons (.comp false (.cmp .eq (.idx (.var 3) (.var 4)) (.cst (.int 0))) (.nm 4) (.val (.idx (.var 2) (.cst (.int 0)))) Es.nil [4]) Es.nil)))
    Ss.nil))⟩
def n38 : List Str := ["house", "stand", "piece", "free", "room"]
/-- shut_pieces -/
abbrev f39 : Nat := 39
def d39 : MDef := ⟨false, 3, 1, (Ss.cons (.ret (.cb .tuple false (Es.cons (.comp false (.var 3) (.nm 3) (.val (.call f37 (Es.cons (.var 1) (Es.cons (.var 2) Es.nil)))) (Es.cons (.call f38 (Es.cons (.var 0) (Es.cons (.var 1) (Es.cons (.var 3) Es.nil)))) Es.nil) [3]) Es.nil)))
    Ss.nil)⟩
def n39 : List Str := ["house", "stand", "wish", "piece"]
/-- _law_shut -/
abbrev f41 : Nat := 41
def d41 : MDef := ⟨false, 3, 3, (Ss.cons (.asg (.nm 3) (.call f29 (Es.cons (.var 0) (Es.cons (.var 1) Es.nil))))
    (Ss.cons (.ret (.comp false (.var 4) (.nm 4) (.val (.call f40 (Es.cons (.var 1) (Es.cons (.var 2) Es.nil)))) (Es.cons (.cmp .eq (.comp false (.var 5) (.nm 5) (.val (.idx (.var 4) (.cst (.int 0)))) (Es.cons (.cmp .gt (.idx (.var 3) (.var 5)) (.cst (.int 0))) Es.nil) [5]) (.lst false Es.nil)) Es.nil) [4]))
    Ss.nil))⟩
def n41 : List Str := ["_law_house_here", "_law_stand_here", "_law_wish_here", "_law_free_here", "_law_piece", "_law_room"]
/-- _law_pairs -/
abbrev f42 : Nat := 42
def b42_1 : Ss := (Ss.cons (.par [4, 5] (Es.cons (.call f5 (Es.cons (.var 0) (Es.cons (.cst (.int 6)) Es.nil))) (Es.cons (.call f5 (Es.cons (.var 0) (Es.cons (.cst (.int 6)) Es.nil))) Es.nil)))
    (Ss.cons (.asg (.nm 6) (.bin .add false (.cst (.int 1)) (.call f16 (Es.cons (.var 0) (Es.cons (.bin .pow false (.cst (.int 10)) (.cst (.int 11))) Es.nil)))))
    (Ss.cons (.asg (.nm 7) (.comp false (.cb .tuple false (Es.cons (.comp false (.bin .mul false (.var 6) (.cb .int false (Es.cons (.cmp .eq (.var 8) (.var 9)) Es.nil))) (.nm 8) (.rng (.cst (.int 6))) Es.nil [8]) Es.nil)) (.nm 9) (.val (.tup (Es.cons (.var 4) (Es.cons (.var 5) Es.nil)))) Es.nil [9]))
    (Ss.cons (.par [1, 2] (Es.cons (.bin .add false (.var 1) (.var 7)) (Es.cons (.bin .add false (.var 2) (.rev false (.var 7))) Es.nil)))
    Ss.nil))))
def d42 : MDef := ⟨false, 1, 12, (Ss.cons (.par [1, 2] (Es.cons (.lst false Es.nil) (Es.cons (.lst false Es.nil) Es.nil)))
    (Ss.cons (.forr (.nm 3) (.rng (.bin .add false (.cst (.int 1)) (.call f5 (Es.cons (.var 0) (Es.cons (.cst (.int 3)) Es.nil))))) b42_1)
    (Ss.cons (.asg (.nm 10) (.tup (Es.cons (.cst (.int 1)) (Es.cons (.cst (.int 0)) (Es.cons (.cst (.int 0)) (Es.cons (.cst (.int 0)) (Es.cons (.cst (.int 0)) (Es.cons (.cst (.int 0)) Es.nil))))))))
    (Ss.cons (.asg (.nm 11) (.comp false (.bin .add false (.cb .sum false (Es.cons (.var 12) Es.nil)) (.bin .mul false (.bin .add false (.cst (.int 1)) (.call f5 (Es.cons (.var 0) (Es.cons (.cst (.int 3)) Es.nil)))) (.cb .int false (Es.cons (.cmp .eq (.call f5 (Es.cons (.var 0) (Es.cons (.cst (.int 4)) Es.nil))) (.cst (.int 0))) Es.nil)))) (.nm 12) (.val (.bin .add false (.var 1) (.lst false (Es.cons (.var 10) Es.nil)))) Es.nil [12]))
    (Ss.cons (.ret (.tup (Es.cons (.tup (Es.cons (.cb .tuple false (Es.cons (.var 11) Es.nil)) (Es.cons (.cst (.int 6)) Es.nil))) (Es.cons (.bin .add false (.cb .tuple false (Es.cons (.var 1) Es.nil)) (.tup (Es.cons (.var 10) Es.nil))) (Es.cons (.bin .add false (.cb .tuple false (Es.cons (.var 2) Es.nil)) (.tup (Es.cons (.var 10) Es.nil))) Es.nil)))))
    Ss.nil)))))⟩
def n42 : List Str := ["_law_deck_here", "_law_rows", "_law_wish_here", "_law_k", "_law_one_here", "_law_other", "_law_many", "_law_full", "_law_kind", "_law_at", "_law_last", "_law_sizes", "_law_row_here"]
/-- the defs of what is amiss, pieces and shut ones -/
structure HS (P : Nat → Option MDef) : Prop where
  h4 : P 4 = some d4
  h5 : P 5 = some d5
  h6 : P 6 = some d6
  h8 : P 8 = some d8
  h16 : P 16 = some d16
  h17 : P 17 = some d17
  h18 : P 18 = some d18
  h19 : P 19 = some d19
  h23 : P 23 = some d23
  h25 : P 25 = some d25
  h27 : P 27 = some d27
  h29 : P 29 = some d29
  h30 : P 30 = some d30
  h31 : P 31 = some d31
  h32 : P 32 = some d32
  h35 : P 35 = some d35
  h36 : P 36 = some d36
  h37 : P 37 = some d37
  h38 : P 38 = some d38
  h39 : P 39 = some d39
  h40 : P 40 = some d40
  h41 : P 41 = some d41
  h42 : P 42 = some d42
variable {P : Nat → Option MDef} {fuel d base : Nat}

theorem freeL_eq {sizes : List Int} {st : List (List Int)} (h : st.length = sizes.length) : freeL sizes st = placesF sizes st := by
  unfold freeL placesF
  apply List.ext_getElem
  · simp [h]
  · intro i h1 h2
    have a : i < st.length := by simpa using h1
    have b : i < sizes.length := by omega
    simp [rowAt, List.getD_eq_getElem?_getD, a, b]
theorem free_eq (h29 : P 29 = some d29) {sizes : List Int} {kinds : Int} {st : List (List Int)} {h : MH} (sl : st.length ≤ 100) (se : st.length = sizes.length) : callM P fuel (d + 1) base 29 [hoV sizes kinds, stV st] h = .ok (.lst ((placesF sizes st).map .int)) h := by
  rw [← freeL_eq se]
  exact Rn_eq (free_ok h29 sl se ⟨rfl, rfl⟩)
theorem DH.case (H : HS P) (hf : 70 ≤ fuel) {r : MH} {n : Int} {h : MH} {Q : Val → MH → Prop} (D : DH r n h) (hn : n + 1000 ≤ 2 ^ 50)
    (k : ∀ h' sizes kinds st wi, DH r (n + 800) h' → Cas sizes kinds st wi → Q (.tup [hoV sizes kinds, stV st, stV wi]) h') : Rn (callM P fuel (d + 5) base 31 [.ref 1] h) Q := by
  obtain ⟨bs, cs, t, D, rfl⟩ := D
  exact case_ok ⟨H.h4, H.h5, H.h6, H.h8, H.h16, H.h17, H.h18, H.h19, H.h29, H.h30, H.h31⟩ D hn hf fun bs' t' sizes kinds st wi D' C => k _ sizes kinds st wi (.of D') C
/-- a house, a stand, a wish: what the law needs of them -/
structure CW (sizes : List Int) (kinds : Int) (st wi : List (List Int)) (K : Nat) : Prop where
  s1 : 1 ≤ sizes.length
  s2 : sizes.length ≤ 8
  k2 : K ≤ 6
  kk : kinds.natAbs ≤ 100
  S : Sq sizes.length K st
  W : Sq sizes.length K wi
  sb : ∀ s ∈ sizes, s.natAbs ≤ 10 ^ 30
  stb : ∀ row ∈ st, ∀ x ∈ row, x.natAbs ≤ 10 ^ 30
  wib : ∀ row ∈ wi, ∀ x ∈ row, x.natAbs ≤ 10 ^ 30
  fr : ∀ z ∈ placesF sizes st, 0 ≤ z
theorem st_mem {sizes : List Int} {k : Nat} {st : List (List Int)} (h : St sizes k st) (s0 : ∀ s ∈ sizes, SizeOk s) : ∀ row ∈ st, ∀ x ∈ row, 0 ≤ x ∧ x ≤ 10 ^ 12 := fun row hr x hx => by
  obtain ⟨a, ha, rfl⟩ := List.mem_iff_getElem.mp hr
  have e : rowAt st a = st[a] := by simp [rowAt, List.getD_eq_getElem?_getD, ha]
  have nn : ∀ y ∈ st[a], 0 ≤ y := fun y hy => by
    obtain ⟨j, hj, rfl⟩ := List.mem_iff_getElem.mp hy
    have := h.nn a j
    unfold at2 at this
    rw [e, List.getD_eq_getElem?_getD, List.getElem?_eq_getElem hj] at this
    exact this
  refine ⟨nn x hx, ?_⟩
  have h1 := h.le a ha
  have hb : a < sizes.length := by rw [← h.len]; exact ha
  have h2 := (s0 _ (List.getElem_mem hb)).2
  rw [e, List.getD_eq_getElem?_getD, List.getElem?_eq_getElem hb] at h1
  have h3 : x ≤ st[a].sum := by
    have : ∀ (l : List Int), (∀ y ∈ l, 0 ≤ y) → ∀ y ∈ l, y ≤ l.sum := by
      intro l
      induction l with
      | nil => intro _ y hy; cases hy
      | cons z l ih =>
        intro hl y hy
        have s : 0 ≤ l.sum := by
          clear ih hy
          induction l with
          | nil => simp
          | cons w l ih2 =>
            have := hl w (by simp)
            have := ih2 fun y hy => hl y (by rcases List.mem_cons.mp hy with rfl | hy <;> simp_all)
            simp; omega
        rcases List.mem_cons.mp hy with rfl | hy
        · simp; omega
        · have := ih (fun y hy => hl y (List.mem_cons_of_mem _ hy)) y hy
          have := hl z List.mem_cons_self
          simp; omega
    exact this _ nn x hx
  simp only [Option.getD_some] at h1
  omega
theorem Cas.cw {sizes : List Int} {kinds : Int} {st wi : List (List Int)} (C : Cas sizes kinds st wi) : CW sizes kinds st wi kinds.toNat where
  s1 := C.s1
  s2 := C.s2
  k2 := by have := C.k2; omega
  kk := by have := C.k2; have := C.k1; omega
  S := C.sto.sq
  W := C.wis.ok.sq
  sb := fun s hs => by have a := (C.s0 s hs).2; have b := (C.s0 s hs).1; omega
  stb := fun row hr x hx => by have := st_mem C.sto C.s0 row hr x hx; omega
  wib := fun row hr x hx => by have := st_mem C.wis.ok C.s0 row hr x hx; omega
  fr := fun z hz => by
    rw [← freeL_eq C.sto.len] at hz
    obtain ⟨j, hj, rfl⟩ := List.mem_map.mp hz
    have := C.sto.le j (List.mem_range.mp hj)
    omega
def shB (fr : List Int) (p : Pc) : Bool := p.1.all fun r => decide (fr.getD r 0 = 0)
theorem pcV_sits (p : Pc) (h : MH) : sits (pcV p) h = some [.tup (nv p.1), .tup (nv p.2)] := rfl
theorem is_shut_eq (H : HS P) {sizes : List Int} {kinds : Int} {st : List (List Int)} {p : Pc} {h : MH} (hl : sizes.length ≤ 1000) (hp : ∀ x ∈ p.1, x < (placesF sizes st).length) (hpl : p.1.length ≤ 1000) :
    callM P fuel (d + 2) base 38 [hoV sizes kinds, stV st, pcV p] h = .ok (.bl (shB (placesF sizes st) p)) h := by
  refine Rn_eq (Rn_callF H.h38 rfl rfl fun C cc cb cf => ?_)
  simp only [d38]
  have q1 : ∀ h, callM P fuel (d + 1) C.base 23 [hoV sizes kinds, stV st] h = .ok (tI (placesF sizes st)) h := fun h => places_eq (d := d) H.h23 hl
  rw [cb] at q1
  generalize placesF sizes st = fr at hp q1 ⊢
  exists "v", [cc, q1, pcV_sits]
  refine Rn_compMap (fun x => match x with | .int r => .bl (decide (fr.getD r.toNat 0 = 0)) | _ => .non) (fun x hx => ?_) ?_
  · obtain ⟨r, hr, rfl⟩ := List.mem_map.mp hx
    have := hp r hr
    simp only [tI]
    exists "v", [ix_num this]
    rw [Int.toNat_natCast]
  · have e : (nv p.1).map (fun x => match x with | .int r => Val.bl (decide (fr.getD r.toNat 0 = 0)) | _ => .non) = (p.1.map fun r => decide (fr.getD r 0 = 0)).map .bl := by
      unfold nv
      rw [List.map_map, List.map_map]
      refine List.map_congr_left fun r _ => ?_
      simp
    rw [e]
    exists "v"
    refine ⟨by omega, ?_⟩
    unfold shB
    rw [List.all_map]
    rfl
theorem comps_ok {sizes : List Int} {kinds : Int} {st wi : List (List Int)} {K : Nat} (C : CW sizes kinds st wi K) {F : List Pc} (hF : Comps (tie (am st wi)) F) :
    F.length ≤ 8 ∧ ∀ p ∈ F, p.1.length ≤ 8 ∧ p.2.length ≤ 8 ∧ ∀ x ∈ p.1, x < sizes.length := by
  have A := am_row C.S C.W
  have hT : ∀ p ∈ tie (am st wi), p.1 < 8 ∧ p.2 < 8 := fun p hp => by
    have := tie_lt A (r := p.1) (k := p.2) hp
    have := C.s2
    have := C.k2
    omega
  have h1 := comps_len hT hF.each hF.up
  refine ⟨h1.1, fun p hp => ⟨(h1.2 p hp).1.1, (h1.2 p hp).1.2, fun x hx => ?_⟩⟩
  obtain ⟨r, hr⟩ := hF.each p hp
  obtain ⟨k, hk⟩ := ((hr.rooms x).mp hx).inR hr.inr
  exact (tie_lt A hk).1
theorem pl_length {sizes : List Int} {kinds : Int} {st wi : List (List Int)} {K : Nat} (C : CW sizes kinds st wi K) : (placesF sizes st).length = sizes.length := by
  unfold placesF
  rw [List.length_zipWith, C.S.len]
  omega
def tn (v : Val) : Nat := match v with
  | .int i => i.toNat
  | _ => 0
def unP (v : Val) : Pc := match v with
  | .tup [.tup a, .tup b] => (a.map tn, b.map tn)
  | _ => ([], [])
theorem tn_nv (l : List Nat) : (nv l).map tn = l := by
  unfold nv
  rw [List.map_map]
  have : (tn ∘ fun i : Nat => Val.int (i : Int)) = id := by funext i; simp [tn]
  rw [this, List.map_id]
theorem unP_pc (p : Pc) : unP (pcV p) = p := by
  show ((nv p.1).map tn, (nv p.2).map tn) = p
  rw [tn_nv, tn_nv]
theorem filt_pc (F : List Pc) (f : Pc → Bool) : (F.map pcV).filter (fun x => f (unP x)) = (F.filter f).map pcV := by
  rw [List.filter_map]
  congr 1
  refine List.filter_congr fun p _ => ?_
  rw [Function.comp_apply, unP_pc]
theorem filt_dle (F : List Pc) (f : Pc → Bool) (k : Nat) (hk : 50 ≤ k) : ((F.filter f).map pcV).all (dle k) = true := by
  rw [List.all_map, List.all_eq_true]
  intro p _
  exact dle_up hk (pcV_dle p)
theorem shut_eq (H : HS P) (hf : 70 ≤ fuel) {sizes : List Int} {kinds : Int} {st wi : List (List Int)} {K : Nat} (C : CW sizes kinds st wi K) :
    ∃ F, Comps (tie (am st wi)) F ∧ ∀ h, callM P fuel (d + 4) base 39 [hoV sizes kinds, stV st, stV wi] h = .ok (.tup ((F.filter (shB (placesF sizes st))).map pcV)) h := by
  have s2 := C.s2
  have k2 := C.k2
  obtain ⟨F, hF, _⟩ := pieces_eq (P := P) (fuel := fuel) (d := d) (base := 0) H.h27 H.h35 H.h36 H.h37 hf (by omega) (by omega) C.S C.W
  obtain ⟨lF, lp⟩ := comps_ok C hF
  have lpl := pl_length C
  refine ⟨F, hF, fun h => ?_⟩
  refine Rn_eq (Rn_callF H.h39 rfl rfl fun E cc cb cf => ?_)
  simp only [d39]
  have q1 : ∀ h, callM P fuel (d + 3) E.base 37 [stV st, stV wi] h = .ok (.tup (F.map pcV)) h := by
    obtain ⟨G, hG, e⟩ := pieces_eq (P := P) (fuel := fuel) (d := d) (base := E.base) H.h27 H.h35 H.h36 H.h37 hf (by omega) (by omega) C.S C.W
    rw [hF.uniq hG]
    exact e
  have q2 : ∀ p ∈ F, ∀ h, callM P fuel (d + 3) E.base 38 [hoV sizes kinds, stV st, pcV p] h = .ok (.bl (shB (placesF sizes st) p)) h := fun p hp h => is_shut_eq (d := d + 1) H (by omega) (fun x hx => by rw [lpl]; exact (lp p hp).2.2 x hx) (by have := (lp p hp).1; omega)
  rw [cb] at q1 q2
  exists "v", [cc, q1]
  refine Rn_compFil (fun x => shB (placesF sizes st) (unP x)) (fun x hx => ?_) ?_
  · obtain ⟨p, hp, rfl⟩ := List.mem_map.mp hx
    rw [unP_pc]
    exists "v", [cc, q2 p hp]
    by_cases c : shB (placesF sizes st) p = true
    · exists "v", [c]
    · have c : shB (placesF sizes st) p = false := by simpa using c
      exists "v", [c]
  · rw [filt_pc]
    have := List.length_filter_le (shB (placesF sizes st)) F
    exists "v"
    exact ⟨by omega, filt_dle F _ 59 (by decide)⟩
theorem law_free {fr : List Int} {l : List Nat} (nn : ∀ z ∈ fr, 0 ≤ z) (hl : ∀ x ∈ l, x < fr.length) : ((nv l).filter fun x => decide (fr.getD (tn x) 0 > 0)).isEmpty = l.all fun r => decide (fr.getD r 0 = 0) := by
  induction l with
  | nil => rfl
  | cons x l ih =>
    have ih := ih fun y hy => hl y (List.mem_cons_of_mem _ hy)
    have hx := hl x List.mem_cons_self
    have h0 : 0 ≤ fr.getD x 0 := by
      rw [List.getD_eq_getElem?_getD, List.getElem?_eq_getElem hx]
      exact nn _ (List.getElem_mem hx)
    have e : nv (x :: l) = .int (x : Int) :: nv l := rfl
    have e2 : tn (.int (x : Int)) = x := by simp [tn]
    rw [e, List.filter_cons, List.all_cons, e2]
    by_cases c : fr.getD x 0 = 0
    · rw [if_neg (by rw [c]; decide), ih]
      simp only [c, decide_true, Bool.true_and]
    · have c2 : fr.getD x 0 > 0 := by omega
      rw [if_pos (decide_eq_true c2), decide_eq_false c, Bool.false_and]
      rfl
theorem lfree_ok {C : EC} {fr : List Int} {p : Pc} {g : ME} {i j : Nat} {h : MH} {Q : List Val → MH → Prop} {f : Val → MH → Res (Option Val)} (hl : ∀ x ∈ p.1, x < fr.length)
    (k : ∀ r : Nat, r < fr.length → ∀ h, Rn (f (.int (r : Int)) h) fun y h' => y = (if decide (fr.getD r 0 > 0) = true then some (.int (r : Int)) else none) ∧ h' = h) (q : Q ((nv p.1).filter fun x => decide (fr.getD (tn x) 0 > 0)) h) : Rn (compLoop f (nv p.1) h) Q := by
  refine Rn_compFil (fun x => decide (fr.getD (tn x) 0 > 0)) (fun x hx => ?_) q
  obtain ⟨r, hr, rfl⟩ := List.mem_map.mp hx
  have e2 : tn (.int (r : Int)) = r := by simp [tn]
  rw [e2]
  exact k r (hl r hr) h
theorem lshut_eq (H : HS P) {sizes : List Int} {kinds : Int} {st wi : List (List Int)} {K : Nat} (C : CW sizes kinds st wi K) :
    ∃ F, Comps (tie (am st wi)) F ∧ ∀ h, callM P fuel (d + 3) base 41 [hoV sizes kinds, stV st, stV wi] h = .ok (.lst ((F.filter (shB (placesF sizes st))).map pcV)) h := by
  have s2 := C.s2
  have k2 := C.k2
  obtain ⟨F, hF, q1⟩ := lpieces_eq (P := P) (fuel := fuel) (d := d) (base := 0) H.h32 H.h40 (by omega) (by omega) C.S C.W
  obtain ⟨lF, lp⟩ := comps_ok C hF
  have lpl := pl_length C
  refine ⟨F, hF, fun h => ?_⟩
  refine Rn_eq (Rn_callF H.h41 rfl rfl fun E cc cb cf => ?_)
  simp only [d41]
  have q1 : ∀ h, callM P fuel (d + 2) E.base 40 [stV st, stV wi] h = .ok (.lst (F.map pcV)) h := by
    obtain ⟨G, hG, e⟩ := lpieces_eq (P := P) (fuel := fuel) (d := d) (base := E.base) H.h32 H.h40 (by omega) (by omega) C.S C.W
    rw [hF.uniq hG]
    exact e
  have q2 : ∀ h, callM P fuel (d + 2) E.base 29 [hoV sizes kinds, stV st] h = .ok (.lst ((placesF sizes st).map .int)) h := fun h => free_eq (d := d + 1) H.h29 (by rw [C.S.len]; omega) C.S.len
  have nn := C.fr
  generalize placesF sizes st = fr at lpl q2 nn ⊢
  rw [cb] at q1 q2
  exists "v", [cc, q1, q2]
  refine Rn_compFil (fun x => shB fr (unP x)) (fun x hx => ?_) ?_
  · obtain ⟨p, hp, rfl⟩ := List.mem_map.mp hx
    rw [unP_pc]
    have hr : ∀ x ∈ p.1, x < fr.length := fun x hx => by rw [lpl]; exact (lp p hp).2.2 x hx
    have e := law_free nn hr
    have l1 := List.length_filter_le (fun x => decide (0 < fr.getD (tn x) 0)) (nv p.1)
    rw [nv_len] at l1
    have := (lp p hp).1
    exists "v", [pcV_sits]
    refine lfree_ok (C := E) (g := []) (i := 0) (j := 0) hr (fun r hr h => ?_) ?_
    · exists "v", [ix_num hr]
      by_cases c : fr.getD r 0 > 0 <;> exists "v", [c]
    · exists "v"
      refine ⟨by omega, ?_⟩
      have e2 : ((nv p.1).filter fun x => decide (0 < fr.getD (tn x) 0)).isEmpty = shB fr p := e
      rw [e2]
      by_cases c : shB fr p = true
      · exists "v", [c]
      · have c : shB fr p = false := by simpa using c
        exists "v", [c]
  · rw [filt_pc]
    have := List.length_filter_le (shB fr) F
    exists "v"
    exact ⟨by omega, filt_dle F _ 59 (by decide)⟩
def urow (m : Int) (a : Int) : List Int := (List.range 6).map fun k : Nat => m * (if (k : Int) = a then 1 else 0)
def lastR : List Int := [1, 0, 0, 0, 0, 0]
structure RowsK (A : List (List Int)) : Prop where
  len : ∀ row ∈ A, row.length = 6
  lo : ∀ row ∈ A, ∀ x ∈ row, 0 ≤ x ∧ x ≤ 10 ^ 12
theorem urow_ok {m a : Int} (h0 : 0 ≤ m) (h1 : m ≤ 10 ^ 12) : (urow m a).length = 6 ∧ ∀ x ∈ urow m a, 0 ≤ x ∧ x ≤ 10 ^ 12 := by
  refine ⟨by simp [urow], fun x hx => ?_⟩
  obtain ⟨k, _, rfl⟩ := List.mem_map.mp hx
  split <;> omega
theorem RowsK.app {A B : List (List Int)} (a : RowsK A) (b : RowsK B) : RowsK (A ++ B) :=
  ⟨fun r hr => (List.mem_append.mp hr).elim (a.len r) (b.len r), fun r hr => (List.mem_append.mp hr).elim (a.lo r) (b.lo r)⟩
theorem RowsK.two {m a b : Int} (h0 : 0 ≤ m) (h1 : m ≤ 10 ^ 12) : RowsK [urow m a, urow m b] := by
  refine ⟨fun r hr => ?_, fun r hr => ?_⟩
  · simp only [List.mem_cons, List.not_mem_nil, or_false] at hr
    rcases hr with rfl | rfl
    · exact (urow_ok h0 h1).1
    · exact (urow_ok h0 h1).1
  · simp only [List.mem_cons, List.not_mem_nil, or_false] at hr
    rcases hr with rfl | rfl
    · exact (urow_ok h0 h1).2
    · exact (urow_ok h0 h1).2
theorem RowsK.last : RowsK [lastR] := by
  refine ⟨fun r hr => ?_, fun r hr x hx => ?_⟩
  · rw [List.mem_singleton.mp hr]; rfl
  · rw [List.mem_singleton.mp hr] at hx
    simp only [lastR, List.mem_cons, List.not_mem_nil, or_false] at hx
    rcases hx with rfl | rfl | rfl | rfl | rfl | rfl <;> omega
theorem sum_bd {l : List Int} (h : ∀ x ∈ l, 0 ≤ x ∧ x ≤ 10 ^ 12) : 0 ≤ l.sum ∧ l.sum ≤ 10 ^ 12 * l.length := by
  induction l with
  | nil => simp
  | cons x l ih =>
    have a := ih fun y hy => h y (List.mem_cons_of_mem _ hy)
    have b := h x List.mem_cons_self
    rw [List.sum_cons, List.length_cons]
    omega
theorem urow_sum {m a : Int} (h0 : 0 ≤ a) (h1 : a < 6) : (urow m a).sum = m := by
  obtain ⟨k, rfl⟩ : ∃ k : Nat, a = k := ⟨a.toNat, by omega⟩
  have hk : k < 6 := by omega
  have e : urow m (k : Int) = (List.range 6).map fun i : Nat => if i = k then m else 0 := by
    unfold urow
    refine List.map_congr_left fun i _ => ?_
    by_cases c : i = k
    · subst c; simp
    · rw [if_neg c, if_neg (by omega)]; simp
  rw [e]
  have : k = 0 ∨ k = 1 ∨ k = 2 ∨ k = 3 ∨ k = 4 ∨ k = 5 := by omega
  rcases this with rfl | rfl | rfl | rfl | rfl | rfl <;> simp [List.range, List.range.loop]
theorem col_app (A B : List (List Int)) (i : Nat) : col (A ++ B) i = col A i + col B i := by
  simp [col]
theorem places_sums (szs : List Int) (st : List (List Int)) : placesF szs st = List.zipWith (· - ·) szs (st.map List.sum) := by
  unfold placesF
  rw [List.zipWith_map_right]
theorem St.of {sizes : List Int} {k : Nat} {st : List (List Int)} (hl : st.length = sizes.length) (h1 : ∀ row ∈ st, row.length = k) (h2 : ∀ row ∈ st, ∀ x ∈ row, 0 ≤ x ∧ x ≤ 10 ^ 12) (h3 : ∀ z ∈ placesF sizes st, 0 ≤ z) : St sizes k st := by
  have e : ∀ a, a < st.length → rowAt st a ∈ st := fun a ha => by
    unfold rowAt
    rw [List.getD_eq_getElem?_getD, List.getElem?_eq_getElem ha]
    exact List.getElem_mem ha
  refine ⟨hl, fun a ha => h1 _ (e a ha), fun a j => ?_, fun a ha => ?_⟩
  · unfold at2
    by_cases ha : a < st.length
    · rw [List.getD_eq_getElem?_getD]
      cases q : (rowAt st a)[j]? with
      | none => exact Int.le_refl 0
      | some x => exact (h2 _ (e a ha) x (List.mem_of_getElem? q)).1
    · have : rowAt st a = [] := by
        unfold rowAt
        rw [List.getD_eq_getElem?_getD, List.getElem?_eq_none (by omega)]
        rfl
      rw [this]
      exact Int.le_refl 0
  · have ha2 : a < sizes.length := by omega
    have q : (placesF sizes st)[a]? = some (sizes[a] - st[a].sum) := by
      unfold placesF
      rw [List.getElem?_zipWith, List.getElem?_eq_getElem ha2, List.getElem?_eq_getElem ha]
    have := h3 _ (List.mem_of_getElem? q)
    unfold rowAt
    rw [List.getD_eq_getElem?_getD, List.getD_eq_getElem?_getD, List.getElem?_eq_getElem ha2, List.getElem?_eq_getElem ha]
    show st[a].sum ≤ sizes[a]
    omega
theorem pairs_ok (H : HS P) (hf : 70 ≤ fuel) {r : MH} {n : Int} {h : MH} {Q : Val → MH → Prop} (D : DH r n h) (hn : n + 100 ≤ 2 ^ 50)
    (k : ∀ h' sizes st wi, DH r (n + 100) h' → Cas sizes 6 st wi → Q (.tup [hoV sizes 6, stV st, stV wi]) h') : Rn (callM P fuel (d + 5) base 42 [.ref 1] h) Q := by
  refine Rn_callD D H.h42 rfl rfl fun C cc cb cf => ?_
  simp only [d42]
  exists "v", [cc]
  refine DH.next H.h5 hf D (by omega) (by omega) (by omega) fun h1 x1 D1 a1 b1 => ?_
  exists "v"
  refine ⟨⟨by omega, by omega⟩, ?_⟩
  refine Rn_for (fun i g h => ∃ (A B : List (List Int)) (u3 u4 u5 u6 u7 u8 u9 u10 u11 u12 : Option Val), DH r (n + 1 + 5 * i) h ∧ g = [some (.ref 1), some (.lst (A.map tI)), some (.lst (B.map tI)), u3, u4, u5, u6, u7, u8, u9, u10, u11, u12] ∧ A.length = 2 * i ∧ B.length = 2 * i ∧ RowsK A ∧ RowsK B ∧ A.map List.sum = B.map List.sum ∧ (∀ i, col A i = col B i) ∧ ∀ row ∈ A, 1 ≤ row.sum ∧ row.sum ≤ 10 ^ 11 + 1) _ 0 _ _ ?_ ?_ ?_
  · exact ⟨[], [], _, _, _, _, _, _, _, _, _, _, D1.up (by omega), rfl, rfl, rfl, ⟨(fun _ z => nomatch z), (fun _ z => nomatch z)⟩, ⟨(fun _ z => nomatch z), (fun _ z => nomatch z)⟩, rfl, (fun _ => rfl), (fun _ z => nomatch z)⟩
  · rintro j y g h2 ey ⟨A, B, u3, u4, u5, u6, u7, u8, u9, u10, u11, u12, D2, rfl, lA, lB, oA, oB, eS, eC, bS⟩
    have hj := (rangeV_get ey).2
    rw [Nat.zero_add] at *
    exists "v", [b42_1, cc]
    refine DH.next H.h5 hf D2 (by omega) (by omega) (by omega) fun h3 x3 D3 a3 b3 => ?_
    exists "v"
    refine DH.next H.h5 hf D3 (by omega) (by omega) (by omega) fun h4 x4 D4 a4 b4 => ?_
    exists "v"
    refine DH.amount H.h5 H.h16 hf D4 (by omega) (by omega) (by omega) fun h5 x5 D5 a5 b5 => ?_
    exists "v"
    have m0 : 0 ≤ 1 + x5 := by omega
    have m1 : 1 + x5 ≤ 10 ^ 12 := by omega
    have m2 : 1 ≤ 1 + x5 ∧ 1 + x5 ≤ 10 ^ 11 + 1 := by omega
    generalize 1 + x5 = m at m0 m1 m2 ⊢
    have mk : ∀ k : Int, mulOk m k = true := fun k => by
      unfold mulOk
      rw [Bool.or_eq_true, Bool.and_eq_true, decide_eq_true_eq, decide_eq_true_eq]
      left
      omega
    refine Rn_compMap (fun x => match x with | .int a => tI (urow m a) | _ => .non) (fun x hx => ?_) ?_
    · obtain ⟨a, rfl⟩ : ∃ a : Int, x = .int a := by
        simp only [List.mem_cons, List.not_mem_nil, or_false] at hx
        rcases hx with rfl | rfl <;> exact ⟨_, rfl⟩
      exists "v"
      refine Rn_compMap (fun x => match x with | .int k => .int (m * (if k = a then 1 else 0)) | _ => .non) (fun x hx => ?_) ?_
      · obtain ⟨i, hi⟩ := List.getElem?_of_mem hx
        obtain ⟨rfl, _⟩ := rangeV_get hi
        by_cases c : (i : Int) = a <;> exists "v", [c, mk]
      · have e : (rangeV 0 6).map (fun x => match x with | .int k => Val.int (m * (if k = a then 1 else 0)) | _ => .non) = (urow m a).map .int := by
          unfold urow rangeV
          rw [List.map_map, List.map_map]
          refine List.map_congr_left fun k _ => ?_
          simp
        rw [e]
        exists "v"
        exact ⟨by rw [(urow_ok m0 m1).1]; decide, rfl⟩
    · exists "v"
      refine ⟨by simp; omega, by simp, by simp; omega, A ++ [urow m x3, urow m x4], B ++ [urow m x4, urow m x3], some y, some (.int x3), some (.int x4), some (.int m), some (.lst [tI (urow m x3), tI (urow m x4)]), u8, u9, u10, u11, u12, D5.up (by omega), ?_, by simp; omega, by simp; omega, oA.app (RowsK.two m0 m1), oB.app (RowsK.two m0 m1), ?_, fun i => ?_, fun row hr => ?_⟩
      · rw [List.map_append, List.map_append]
        rfl
      · rw [List.map_append, List.map_append, eS]
        simp only [List.map_cons, List.map_nil, urow_sum a3 b3, urow_sum a4 b4]
      · rw [col_app, col_app, eC i]
        simp only [col, List.map_cons, List.map_nil, List.sum_cons, List.sum_nil]
        omega
      · rcases List.mem_append.mp hr with hr | hr
        · exact bS row hr
        · simp only [List.mem_cons, List.not_mem_nil, or_false] at hr
          rcases hr with rfl | rfl
          · rw [urow_sum a3 b3]; exact m2
          · rw [urow_sum a4 b4]; exact m2
  · rintro g h2 ⟨A, B, u3, u4, u5, u6, u7, u8, u9, u10, u11, u12, D2, rfl, lA, lB, oA, oB, eS, eC, bS⟩
    rw [Nat.zero_add, rangeV_len] at *
    exists "v", [cc]
    have eA : A.map tI ++ [.tup [.int 1, .int 0, .int 0, .int 0, .int 0, .int 0]] = (A ++ [lastR]).map tI := by
      rw [List.map_append]; rfl
    have eB : B.map tI ++ [.tup [.int 1, .int 0, .int 0, .int 0, .int 0, .int 0]] = (B ++ [lastR]).map tI := by
      rw [List.map_append]; rfl
    rw [eA, eB]
    have eS : (A ++ [lastR]).map List.sum = (B ++ [lastR]).map List.sum := by rw [List.map_append, List.map_append, eS]
    have eC : ∀ i, col (A ++ [lastR]) i = col (B ++ [lastR]) i := fun i => by rw [col_app, col_app, eC i]
    have bS : ∀ row ∈ A ++ [lastR], 1 ≤ row.sum ∧ row.sum ≤ 10 ^ 11 + 1 := fun row hr => by
      rcases List.mem_append.mp hr with hr | hr
      · exact bS row hr
      · rw [List.mem_singleton.mp hr]; decide
    have oA := oA.app RowsK.last
    have oB := oB.app RowsK.last
    have lA : (A ++ [lastR]).length ≤ 7 ∧ 1 ≤ (A ++ [lastR]).length := by rw [List.length_append, List.length_singleton]; omega
    have lB : (B ++ [lastR]).length = (A ++ [lastR]).length := by rw [List.length_append, List.length_append]; omega
    have lA0 : A.length ≤ 6 := by omega
    have lB0 : B.length ≤ 6 := by omega
    generalize A ++ [lastR] = st at *
    generalize B ++ [lastR] = wi at *
    refine ⟨by rw [List.length_map]; omega, ?_⟩
    refine Rn_comp (st.map tI) 0 [] _ (fun i acc h => DH r (n + 20 + 2 * i) h ∧ ∃ szs : List Int, acc = szs.map .int ∧ szs.length = i ∧ (∀ s ∈ szs, SizeOk s) ∧ ∀ z ∈ placesF szs (st.take i), 0 ≤ z) _ ⟨D2.up (by omega), [], rfl, rfl, (fun _ z => nomatch z), fun z hz => by simp [placesF] at hz⟩ ?_ ?_
    · rintro j y acc h3 ey ⟨D3, szs, rfl, e1, e2, e3⟩
      obtain ⟨row, er, rfl⟩ := map_get ey
      have hm := List.mem_of_getElem? er
      have sb := bS row hm
      have rl := oA.len row hm
      have hj := (List.getElem?_eq_some_iff.mp er).1
      rw [Nat.zero_add] at *
      simp only [tI]
      exists "v", [cc, intsOf_map]
      refine DH.next H.h5 hf D3 (by omega) (by omega) (by omega) fun h4 x4 D4 a4 b4 => ?_
      exists "v"
      refine DH.next H.h5 hf D4 (by omega) (by omega) (by omega) fun h5 x5 D5 a5 b5 => ?_
      have mk : ∀ k : Int, mulOk (1 + x4) k = true := fun k => by
        unfold mulOk
        rw [Bool.or_eq_true, Bool.and_eq_true, decide_eq_true_eq, decide_eq_true_eq]
        left
        omega
      have fin : ∀ w : Int, 0 ≤ w → w ≤ 3 → DH r (n + 20 + 2 * (↑j + 1)) h5 ∧ ∃ szs' : List Int, szs.map Val.int ++ [Val.int (row.sum + w)] = szs'.map .int ∧ szs'.length = j + 1 ∧ (∀ s ∈ szs', SizeOk s) ∧ ∀ z ∈ placesF szs' (st.take (j + 1)), 0 ≤ z := fun w w0 w1 => by
        refine ⟨D5.up (by omega), szs ++ [row.sum + w], by simp, by simp; omega, fun s hs => ?_, fun z hz => ?_⟩
        · rcases List.mem_append.mp hs with hs | hs
          · exact e2 s hs
          · rw [List.mem_singleton.mp hs]; unfold SizeOk; omega
        · have et : st.take (j + 1) = st.take j ++ [row] := by rw [List.take_succ, er]; rfl
          unfold placesF at hz e3
          rw [et, List.zipWith_append (by rw [List.length_take]; omega)] at hz
          rcases List.mem_append.mp hz with hz | hz
          · exact e3 z hz
          · simp only [List.zipWith_cons_cons, List.zipWith_nil_left, List.mem_singleton] at hz
            omega
      by_cases c : x5 = 0
      · exists "v", [c, mk]
        exact fin ((1 + x4) * 1) (by omega) (by omega)
      · exists "v", [c, mk]
        exact fin ((1 + x4) * 0) (by omega) (by omega)
    · rintro acc h3 ⟨D3, szs, hacc, e1, e2, e3⟩
      rw [List.nil_append] at hacc
      subst hacc
      rw [Nat.zero_add, List.length_map] at *
      rw [List.take_length] at e3
      exists "v"
      have s8 : szs.length ≤ 8 := by omega
      have e4 : ∀ z ∈ placesF szs wi, 0 ≤ z := by
        rw [places_sums, ← eS, ← places_sums]
        exact e3
      have lw : wi.length = szs.length := by omega
      have c : Cas szs 6 st wi := ⟨e2, by omega, s8, by decide, by decide, St.of (by omega) oA.len oA.lo e3, ⟨St.of lw oB.len oB.lo e4, fun i => (eC i).symm⟩⟩
      refine ⟨by omega, by omega, by omega, ?_, [], n + 20 + 2 * (st.length : Int), by simpa using D3, fun h' D' => k h' szs st wi (D'.up (by omega)) c⟩
      have d1 : dle 58 (tI szs) = true := tI_dle 57 szs
      have d2 : dle 59 (.tup [tI szs, .int 6]) = true := by
        show [tI szs, Val.int 6].all (dle 58) = true
        simp [d1, dle]
      have d3 := stV_dle 57 st
      have d4 := stV_dle 57 wi
      show [Val.tup [tI szs, .int 6], stV st, stV wi].all (dle 59) = true
      simp [d2, d3, d4]
theorem tie_self (st : List (List Int)) : tie (am st st) = [] := by
  have : ∀ p ∈ tie (am st st), False := fun p hp => by
    obtain ⟨r, k⟩ := p
    obtain ⟨row, x, h1, h2, h3⟩ := tie_mem.mp hp
    unfold am at h1
    rw [List.getElem?_zipWith] at h1
    cases e : st[r]? with
    | none => rw [e] at h1; cases h1
    | some a =>
      rw [e] at h1
      simp only [Option.some.injEq] at h1
      subst h1
      rw [List.getElem?_zipWith] at h2
      cases e2 : a[k]? with
      | none => rw [e2] at h2; cases h2
      | some b =>
        rw [e2] at h2
        simp only [Option.some.injEq] at h2
        omega
  cases h : tie (am st st) with
  | nil => rfl
  | cons p l => exact (this p (by rw [h]; simp)).elim
theorem stV_gd2 {L K : Nat} {st : List (List Int)} (S : Sq L K st) (hL : L ≤ 8) (hK : K ≤ 6) (b : ∀ row ∈ st, ∀ x ∈ row, x.natAbs ≤ 10 ^ 30) : Gd 2 57 (stV st) := by
  refine (Gd.tup (k := 1) (S := 7) (n := 8) (fun u hu => ?_) (by rw [List.length_map, S.len]; exact hL)).up (by decide) (by decide)
  obtain ⟨row, hr, rfl⟩ := List.mem_map.mp hu
  refine (Gd.tup (k := 0) (S := 1) (n := 6) (Gd.ints fun x hx => ?_) (by rw [List.length_map, S.rl row hr]; exact hK)).up (by decide) (by decide)
  exact Nat.le_trans (b row hr x hx) (by decide)
theorem hoV_gd2 {sizes : List Int} {kinds : Int} (hl : sizes.length ≤ 8) (hk : kinds.natAbs ≤ 100) (b : ∀ s ∈ sizes, s.natAbs ≤ 10 ^ 30) : Gd 2 19 (hoV sizes kinds) := by
  have h1 : Gd 1 9 (tI sizes) := (Gd.tup (k := 0) (S := 1) (n := 8) (Gd.ints fun x hx => Nat.le_trans (b x hx) (by decide)) (by rw [List.length_map]; exact hl)).up (by decide) (by decide)
  exact (Gd.tup2 (k := 1) (S := 9) h1 (Gd.int (Nat.le_trans hk (by decide)) (by decide))).up (by decide) (by decide)
theorem cw_gd {sizes : List Int} {kinds : Int} {st wi : List (List Int)} {K : Nat} (c : CW sizes kinds st wi K) : Gd 3 200 (.lst [hoV sizes kinds, stV st, stV wi]) :=
  (Gd.lst3 (k := 2) (S := 57) ((hoV_gd2 c.s2 c.kk c.sb).up (by decide) (by decide)) (stV_gd2 c.S c.s2 c.k2 c.stb) (stV_gd2 c.W c.s2 c.k2 c.wib)).up (by decide) (by decide)
theorem pl_nv (l : List Nat) (h : l.length ≤ 1000) : pl 1 (.tup (nv l)) = true := by
  show (decide ((nv l).length ≤ 1000) && (nv l).all (pl 0)) = true
  rw [nv_len, Bool.and_eq_true, decide_eq_true_eq, List.all_eq_true]
  refine ⟨h, fun x hx => ?_⟩
  obtain ⟨i, _, rfl⟩ := List.mem_map.mp hx
  rfl
theorem pl_pc (p : Pc) (h1 : p.1.length ≤ 1000) (h2 : p.2.length ≤ 1000) : pl 2 (pcV p) = true := by
  show (decide ([Val.tup (nv p.1), Val.tup (nv p.2)].length ≤ 1000) && [Val.tup (nv p.1), Val.tup (nv p.2)].all (pl 1)) = true
  simp [pl_nv _ h1, pl_nv _ h2]
theorem pl_pcs (F : List Pc) (h0 : F.length ≤ 1000) (h : ∀ p ∈ F, p.1.length ≤ 8 ∧ p.2.length ≤ 8) : pl 3 (.tup (F.map pcV)) = true := by
  show (decide ((F.map pcV).length ≤ 1000) && (F.map pcV).all (pl 2)) = true
  rw [List.length_map, Bool.and_eq_true, decide_eq_true_eq, List.all_eq_true]
  refine ⟨h0, fun x hx => ?_⟩
  obtain ⟨p, hp, rfl⟩ := List.mem_map.mp hx
  have := h p hp
  exact pl_pc p (by omega) (by omega)
end MP

set_option maxHeartbeats 4000000
/-! MiniTE: what is too many, the fewest deeds, by the program and by the law. -/
namespace MP
open PySem
set_option hygiene false in
local macro_rules
  | `(tactic| exists "w") => `(tactic| try simp (maxSteps := 2000000) only [Rn_bind, Rn_ok, Rn_some, Rn_og, Rn_obind, Rn_omap, wps, qs, List.getElem?_cons_zero, List.getElem?_cons_succ, Option.some.injEq, exists_eq_left', List.set_cons_zero, List.set_cons_succ, List.map_cons, List.map_nil, List.replicate, List.cons_append, List.nil_append, wipeE, List.foldr, retV, if_true, Bool.not_true, Bool.not_false, Bool.false_eq_true, if_false, decide_eq_true_eq])
  | `(tactic| exists "w", [$ts,*]) => `(tactic| try simp (maxSteps := 2000000) only [Rn_bind, Rn_ok, Rn_some, Rn_og, Rn_obind, Rn_omap, wps, qs, List.getElem?_cons_zero, List.getElem?_cons_succ, Option.some.injEq, exists_eq_left', List.set_cons_zero, List.set_cons_succ, List.map_cons, List.map_nil, List.replicate, List.cons_append, List.nil_append, wipeE, List.foldr, retV, if_true, Bool.not_true, Bool.not_false, Bool.false_eq_true, if_false, decide_eq_true_eq, $[$ts:term],*])
  | `(tactic| exists "v") => `(tactic| try simp (maxSteps := 2000000) only [Rn_bind, Rn_ok, Rn_some, Rn_og, Rn_obind, Rn_omap, wps, qs, List.getElem?_cons_zero, List.getElem?_cons_succ, Option.some.injEq, exists_eq_left', List.set_cons_zero, List.set_cons_succ, List.map_cons, List.map_nil, List.replicate, List.cons_append, List.nil_append, wipeE, List.foldr, retV, if_true, Bool.not_true, Bool.not_false, Bool.false_eq_true, if_false, decide_eq_true_eq, qt, q_mulL, List.foldl_cons, List.foldl_nil, List.zip_cons_cons, List.zip_nil_right, isTL, Rn_stuck, ite_stuck, not_true_eq_false, not_false_eq_true, Bool.not_eq_true, Bool.not_eq_false, decide_eq_false_iff_not, beq_self_eq_true, Bool.or_false, Bool.false_or, Bool.or_self, Bool.and_self, Bool.and_true, Bool.true_and, Bool.false_and, Bool.and_false, Bool.or_true, Bool.true_or, decide_true, decide_false, Bool.true_eq_false, List.take_length, List.length_map, Val.bl.injEq, ite_self, List.length_cons, List.length_nil, Nat.reduceAdd, Nat.reduceMul, Nat.reduceSub, Nat.reducePow, Nat.reduceLT, Nat.reduceLeDiff, Int.reducePow, Int.reduceToNat, Int.reduceAdd, Int.reduceMul, Int.reduceSub, Int.reduceNeg, Int.reduceLT, Int.reduceLE, Int.reduceAbs, Int.reduceEq, Int.reduceNe, Int.cast_ofNat_Int, SZv, and_self, true_and, and_true, Nat.zero_le, or_true, true_or, Nat.zero_add, Int.natCast_add, Int.natCast_one, ge_iff_le, gt_iff_lt])
  | `(tactic| exists "v", [$ts,*]) => `(tactic| try simp (maxSteps := 2000000) only [Rn_bind, Rn_ok, Rn_some, Rn_og, Rn_obind, Rn_omap, wps, qs, List.getElem?_cons_zero, List.getElem?_cons_succ, Option.some.injEq, exists_eq_left', List.set_cons_zero, List.set_cons_succ, List.map_cons, List.map_nil, List.replicate, List.cons_append, List.nil_append, wipeE, List.foldr, retV, if_true, Bool.not_true, Bool.not_false, Bool.false_eq_true, if_false, decide_eq_true_eq, qt, q_mulL, List.foldl_cons, List.foldl_nil, List.zip_cons_cons, List.zip_nil_right, isTL, Rn_stuck, ite_stuck, not_true_eq_false, not_false_eq_true, Bool.not_eq_true, Bool.not_eq_false, decide_eq_false_iff_not, beq_self_eq_true, Bool.or_false, Bool.false_or, Bool.or_self, Bool.and_self, Bool.and_true, Bool.true_and, Bool.false_and, Bool.and_false, Bool.or_true, Bool.true_or, decide_true, decide_false, Bool.true_eq_false, List.take_length, List.length_map, Val.bl.injEq, ite_self, List.length_cons, List.length_nil, Nat.reduceAdd, Nat.reduceMul, Nat.reduceSub, Nat.reducePow, Nat.reduceLT, Nat.reduceLeDiff, Int.reducePow, Int.reduceToNat, Int.reduceAdd, Int.reduceMul, Int.reduceSub, Int.reduceNeg, Int.reduceLT, Int.reduceLE, Int.reduceAbs, Int.reduceEq, Int.reduceNe, Int.cast_ofNat_Int, SZv, and_self, true_and, and_true, Nat.zero_le, or_true, true_or, Nat.zero_add, Int.natCast_add, Int.natCast_one, ge_iff_le, gt_iff_lt, $[$ts:term],*])
  | `(tactic| exists "v*", [$ts,*]) => `(tactic| try simp (maxSteps := 2000000) only [Rn_bind, Rn_ok, Rn_some, Rn_og, Rn_obind, Rn_omap, wps, qs, List.getElem?_cons_zero, List.getElem?_cons_succ, Option.some.injEq, exists_eq_left', List.set_cons_zero, List.set_cons_succ, List.map_cons, List.map_nil, List.replicate, List.cons_append, List.nil_append, wipeE, List.foldr, retV, if_true, Bool.not_true, Bool.not_false, Bool.false_eq_true, if_false, decide_eq_true_eq, qt, q_mulL, List.foldl_cons, List.foldl_nil, List.zip_cons_cons, List.zip_nil_right, isTL, Rn_stuck, ite_stuck, not_true_eq_false, not_false_eq_true, Bool.not_eq_true, Bool.not_eq_false, decide_eq_false_iff_not, beq_self_eq_true, Bool.or_false, Bool.false_or, Bool.or_self, Bool.and_self, Bool.and_true, Bool.true_and, Bool.false_and, Bool.and_false, Bool.or_true, Bool.true_or, decide_true, decide_false, Bool.true_eq_false, List.take_length, List.length_map, Val.bl.injEq, ite_self, List.length_cons, List.length_nil, Nat.reduceAdd, Nat.reduceMul, Nat.reduceSub, Nat.reducePow, Nat.reduceLT, Nat.reduceLeDiff, Int.reducePow, Int.reduceToNat, Int.reduceAdd, Int.reduceMul, Int.reduceSub, Int.reduceNeg, Int.reduceLT, Int.reduceLE, Int.reduceAbs, Int.reduceEq, Int.reduceNe, Int.cast_ofNat_Int, SZv, and_self, true_and, and_true, Nat.zero_le, or_true, true_or, Nat.zero_add, Int.natCast_add, Int.natCast_one, ge_iff_le, gt_iff_lt, $[$ts:term],*, *])
  | `(tactic| exists "sd") => `(tactic| first | decide | omega | (simp only [List.length_cons, List.length_nil, List.length_map, List.length_append, SZv]; omega) | (constructor <;> exists "sd"))
  | `(tactic| exists "s") => `(tactic| repeat (refine And.intro (by exists "sd") ?_))
  | `(tactic| exists "nx", $D, $D1:ident, $x:ident, $a:ident, $b:ident) => `(tactic| refine DH.next H.h5 hf $D (by omega) (by omega) (by omega) fun h' $x $D1 $a $b => ?_)

/-! end of words -/
abbrev f28 : Nat := 28
def d28 : MDef := ⟨false, 2, 2, (Ss.cons (.ret (.cb .sum false (Es.cons (.comp false (.cb .sum false (Es.cons (.comp false (.cb .max2 false (Es.cons (.cst (.int 0)) (Es.cons (.var 2) Es.nil))) (.nm 2) (.val (.var 3)) Es.nil [2]) Es.nil)) (.nm 3) (.val (.call f27 (Es.cons (.var 0) (Es.cons (.var 1) Es.nil)))) Es.nil [3]) Es.nil)))
    Ss.nil)⟩
abbrev f124 : Nat := 124
def d124 : MDef := ⟨false, 2, 3, (Ss.cons (.forr (.tp [(.nm 2), (.tp [(.nm 3), (.nm 4)])]) (.enz (.call f24 (Es.cons (.var 0) Es.nil)) (.call f24 (Es.cons (.var 1) Es.nil))) (Ss.cons (.iff (.cmp .ne (.var 3) (.var 4)) (Ss.cons (.rais "Unlike" (Es.cons (.var 2) Es.nil))
    Ss.nil) Ss.nil)
    Ss.nil))
    Ss.nil)⟩
abbrev f125 : Nat := 125
def d125 : MDef := ⟨false, 3, 0, (Ss.cons (.ex (.call f124 (Es.cons (.var 1) (Es.cons (.var 2) Es.nil))))
    (Ss.cons (.iff (.bop true (Es.cons (.cmp .ne (.var 1) (.var 2)) (Es.cons (.cmp .eq (.cb .sum false (Es.cons (.call f23 (Es.cons (.var 0) (Es.cons (.var 1) Es.nil))) Es.nil)) (.cst (.int 0))) Es.nil))) (Ss.cons (.rais "NoPlace" Es.nil)
    Ss.nil) Ss.nil)
    Ss.nil))⟩
abbrev f126 : Nat := 126
def d126 : MDef := ⟨false, 3, 0, (Ss.cons (.ex (.call f125 (Es.cons (.var 0) (Es.cons (.var 1) (Es.cons (.var 2) Es.nil)))))
    (Ss.cons (.ret (.bin .add false (.call f28 (Es.cons (.var 1) (Es.cons (.var 2) Es.nil))) (.cb .len false (Es.cons (.call f39 (Es.cons (.var 0) (Es.cons (.var 1) (Es.cons (.var 2) Es.nil)))) Es.nil))))
    Ss.nil))⟩
abbrev f33 : Nat := 33
def b33_1 : Ss := (Ss.cons (.asg (.nm 2) (.bin .add false (.var 2) (.cb .sum false (Es.cons (.comp false (.var 4) (.nm 4) (.val (.var 3)) (Es.cons (.cmp .gt (.var 4) (.cst (.int 0))) Es.nil) [4]) Es.nil))))
    Ss.nil)
def d33 : MDef := ⟨false, 2, 3, (Ss.cons (.asg (.nm 2) (.cst (.int 0)))
    (Ss.cons (.forr (.nm 3) (.val (.call f32 (Es.cons (.var 0) (Es.cons (.var 1) Es.nil)))) b33_1)
    (Ss.cons (.ret (.var 2))
    Ss.nil)))⟩
abbrev f133 : Nat := 133
def d133 : MDef := ⟨false, 3, 0, (Ss.cons (.iff (.bop true (Es.cons (.cmp .ne (.var 1) (.var 2)) (Es.cons (.cmp .eq (.cb .sum false (Es.cons (.call f29 (Es.cons (.var 0) (Es.cons (.var 1) Es.nil))) Es.nil)) (.cst (.int 0))) Es.nil))) (Ss.cons (.ret (.cst .non))
    Ss.nil) Ss.nil)
    (Ss.cons (.ret (.bin .add false (.call f33 (Es.cons (.var 1) (Es.cons (.var 2) Es.nil))) (.cb .len false (Es.cons (.call f41 (Es.cons (.var 0) (Es.cons (.var 1) (Es.cons (.var 2) Es.nil)))) Es.nil))))
    Ss.nil))⟩
def n28 : List Str := ["stand", "wish", "number", "row"]
def n124 : List Str := ["stand", "wish", "kind", "one", "other"]
def n125 : List Str := ["house", "stand", "wish"]
def n126 : List Str := ["house", "stand", "wish"]
def n33 : List Str := ["_law_stand_here", "_law_wish_here", "_law_found", "_law_row_here", "_law_number"]
def n133 : List Str := ["_law_house_here", "_law_stand_here", "_law_wish_here"]
structure HF (P : Nat → Option MDef) : Prop where
  s : HS P
  h24 : P 24 = some d24
  h28 : P 28 = some d28
  h33 : P 33 = some d33
  h124 : P 124 = some d124
  h125 : P 125 = some d125
  h126 : P 126 = some d126
  h133 : P 133 = some d133
variable {P : Nat → Option MDef} {fuel d base : Nat}
theorem w_ienz (C : EC) (g : ME) (h : MH) (Q : List Val → MH → Prop) (a b : E) : Rn (evI C (.enz a b) g h) Q ↔ Rn (ev C a g h) fun x h => Rn (ev C b g h) fun y h => Rn (ofO (sits x []) h) fun l h => Rn (ofO (sits y []) h) fun m h => if isTL x y = true then Q (enumV (zipV l m)) h else Rn (.stuck : Res (List Val)) Q := by
  simp only [evI, Rn_bind, Rn_ok, Rn_ite]
/-! ### too many -/
def pos (x : Int) : Int := if x > 0 then x else 0
def tmA (A : List (List Int)) : Int := (A.map fun row => (row.map pos).sum).sum
def ppos (x : Val) : Val := match x with
  | .int i => .int (pos i)
  | _ => .non
theorem ppos_map (l : List Int) : (l.map Val.int).map ppos = (l.map pos).map .int := by
  rw [List.map_map, List.map_map]; rfl
def prow (x : Val) : Val := match x with
  | .tup l => .int (((intsOf l).getD []).map pos).sum
  | _ => .non
theorem prow_map (l : List (List Int)) : (l.map tI).map prow = (l.map fun row => (row.map pos).sum).map .int := by
  rw [List.map_map, List.map_map]
  refine List.map_congr_left fun row _ => ?_
  simp [prow, tI, intsOf_map]
theorem tm_eq (h27 : P 27 = some d27) (h28 : P 28 = some d28) {L K : Nat} {st wi : List (List Int)} {h : MH} (hL : L ≤ 100) (hK : K ≤ 100) (S : Sq L K st) (W : Sq L K wi) : callM P fuel (d + 2) base 28 [stV st, stV wi] h = .ok (.int (tmA (am st wi))) h := by
  refine Rn_eq (Rn_callF h28 rfl rfl fun C cc cb cf => ?_)
  have A := am_row S W
  have q1 : ∀ h, callM P fuel (d + 1) C.base 27 [stV st, stV wi] h = .ok (stV (am st wi)) h := fun h => amiss_eq h27 hL hK S W
  rw [cb] at q1
  simp only [d28]
  have e0 : walk (stV (am st wi)) = some ((am st wi).map tI) := rfl
  exists "v", [cc, q1, e0]
  refine Rn_compMap prow (fun x hx => ?_) ?_
  · obtain ⟨row, hr, rfl⟩ := List.mem_map.mp hx
    have hlen := A.rl row hr
    simp only [tI]
    exists "v"
    refine Rn_compMap ppos (fun y hy => ?_) ?_
    · obtain ⟨i, _, rfl⟩ := List.mem_map.mp hy
      exists "v"
      simp only [ppos, pos, and_self]
    · rw [ppos_map]
      exists "v", [intsOf_map]
      simp only [prow, intsOf_map, Option.getD_some]
      exact ⟨by omega, trivial⟩
  · rw [prow_map]
    exists "v", [intsOf_map]
    exact ⟨by rw [A.len]; omega, rfl⟩
theorem pos_filter (row : List Int) : ((row.filter fun x => decide (x > 0)).sum) = (row.map pos).sum := by
  induction row with
  | nil => rfl
  | cons a l ih =>
    rw [List.filter_cons, List.map_cons, List.sum_cons, ← ih]
    unfold pos
    by_cases ha : a > 0
    · simp [ha]
    · simp [ha]
theorem ltm_eq (h32 : P 32 = some d32) (h33 : P 33 = some d33) {L K : Nat} {st wi : List (List Int)} {h : MH} (hL : L ≤ 100) (hK : K ≤ 100) (S : Sq L K st) (W : Sq L K wi) : callM P fuel (d + 2) base 33 [stV st, stV wi] h = .ok (.int (tmA (am st wi))) h := by
  refine Rn_eq (Rn_callF h33 rfl rfl fun C cc cb cf => ?_)
  have A := am_row S W
  have q1 : ∀ h, callM P fuel (d + 1) C.base 32 [stV st, stV wi] h = .ok (lV (am st wi)) h := fun h => lamiss_eq h32 hL hK S W
  rw [cb] at q1
  simp only [d33]
  have e0 : walk (lV (am st wi)) = some ((am st wi).map fun row => Val.lst (row.map .int)) := rfl
  exists "v", [cc, q1, e0]
  refine Rn_for (fun i g h' => h' = h ∧ ∃ u3 u4, g = [some (stV st), some (stV wi), some (.int (tmA ((am st wi).take i))), u3, u4]) _ 0 _ _ ⟨rfl, none, none, rfl⟩ ?_ ?_
  · rintro j x g h' e ⟨rfl, u3, u4, rfl⟩
    obtain ⟨row, e1, rfl⟩ := map_get e
    have hlen := A.rl row (List.mem_of_getElem? e1)
    rw [Nat.zero_add] at *
    exists "v", [b33_1]
    refine Rn_compFil (fun x => match x with | .int i => decide (i > 0) | _ => false) (fun y hy => ?_) ?_
    · obtain ⟨i, _, rfl⟩ := List.mem_map.mp hy
      by_cases hi : i > 0 <;> exists "v", [hi]
    · have ef : (row.map Val.int).filter (fun x => match x with | .int i => decide (i > 0) | _ => false) = (row.filter fun x => decide (x > 0)).map .int := by
        rw [List.filter_map]
        rfl
      have hfl : (row.filter fun x => decide (0 < x)).length ≤ row.length := List.length_filter_le _ row
      rw [ef]
      exists "v", [intsOf_map]
      refine ⟨by omega, some (.lst (row.map .int)), u4, ?_⟩
      have e2 : tmA ((am st wi).take (j + 1)) = tmA ((am st wi).take j) + (row.map pos).sum := by
        unfold tmA
        rw [List.take_succ, e1, List.map_append, List.sum_append]
        simp
      rw [e2, ← pos_filter]
  · rintro g h' ⟨rfl, u3, u4, rfl⟩
    rw [Nat.zero_add, List.length_map, List.take_length]
    exists "v"
/-! ### is there a way -/
def neB (a b : List (List Int)) : Bool := match cmp .ne (stV a) (stV b) [] with | some c => c | none => false
theorem shp_st (st : List (List Int)) : shp 60 (stV st) = true := by
  show (st.map tI).all (shp 59) = true
  rw [List.all_map, List.all_eq_true]
  intro row _
  show (row.map Val.int).all (shp 58) = true
  rw [List.all_map, List.all_eq_true]
  intro _ _
  rfl
theorem pe_st (st : List (List Int)) (h : MH) : pe (stV st) h = some (toD (stV st)) := by
  have e := shp_st st
  unfold stV at e ⊢
  unfold pe
  simp only [e, if_true]
theorem q_neS (a b : List (List Int)) (h : MH) : cmp .ne (stV a) (stV b) h = some (neB a b) := by
  have e0 : ∀ h, cmpE0 (stV a) (stV b) h = cmpE0 (stV a) (stV b) [] := fun h => by cases a <;> cases b <;> rfl
  have e2 : ∀ h, cmp .ne (stV a) (stV b) h = (match cmpE0 (stV a) (stV b) [] with
      | some c => some c
      | none => some (PyData.eqv (toD (stV a)) (toD (stV b)))).map not := fun h => by
    have e4 : cmp .ne (stV a) (stV b) h = (match cmpE0 (stV a) (stV b) h with
      | some c => some c
      | none => match pe (stV a) h, pe (stV b) h with
        | some x, some y => some (PyData.eqv x y)
        | _, _ => none).map not := rfl
    rw [e4, e0, pe_st, pe_st]
  unfold neB
  rw [e2 h, e2 []]
  cases cmpE0 (stV a) (stV b) [] <;> rfl
def wayB (sizes : List Int) (st wi : List (List Int)) : Bool := neB st wi && decide ((placesF sizes st).sum = 0)
theorem alike_eq (H : HF P) {L K : Nat} {st wi : List (List Int)} {h : MH} (h0 : 0 < L) (hL : L ≤ 1000) (hK : K ≤ 1000) (S : Sq L K st) (W : Sq L K wi) (e : thingsF K st = thingsF K wi) : callM P fuel (d + 2) base 124 [stV st, stV wi] h = .ok .non h := by
  refine Rn_eq (Rn_callF H.h124 rfl rfl fun C cc cb cf => ?_)
  have q1 : ∀ h, callM P fuel (d + 1) C.base 24 [stV st] h = .ok (tI (thingsF K st)) h := fun h => things_eq H.h24 S h0 hL hK
  have q2 : ∀ h, callM P fuel (d + 1) C.base 24 [stV wi] h = .ok (tI (thingsF K st)) h := fun h => by rw [e]; exact things_eq H.h24 W h0 hL hK
  rw [cb] at q1 q2
  simp only [d124]
  have e0 : ∀ l : List Int, ∀ h, sits (tI l) h = some (l.map .int) := fun _ _ => rfl
  exists "v", [cc, w_ienz, q1, q2, e0]
  simp only [tI]
  exists "v"
  refine Rn_for (fun i g h' => h' = h ∧ ∃ u2 u3 u4, g = [some (stV st), some (stV wi), u2, u3, u4]) _ 0 _ _ ⟨rfl, none, none, none, rfl⟩ ?_ ?_
  · rintro j x g h' ex ⟨rfl, u2, u3, u4, rfl⟩
    obtain ⟨v, e2, rfl⟩ := enum_at ex
    obtain ⟨a, b, e3, e4, rfl⟩ := zip_get e2
    rw [e3] at e4; cases e4
    obtain ⟨i, _, rfl⟩ := map_get e3
    exists "v"
    exact ⟨_, _, _, rfl⟩
  · rintro g h' ⟨rfl, u2, u3, u4, rfl⟩
    exists "v"
theorem way_eq (H : HF P) {L K : Nat} {sizes : List Int} {kinds : Int} {st wi : List (List Int)} {h : MH} (h0 : 0 < L) (hL : L ≤ 1000) (hK : K ≤ 1000) (hs : sizes.length ≤ 1000) (S : Sq L K st) (W : Sq L K wi) (e : thingsF K st = thingsF K wi) (hw : wayB sizes st wi = false) :
    callM P fuel (d + 3) base 125 [hoV sizes kinds, stV st, stV wi] h = .ok .non h := by
  refine Rn_eq (Rn_callF H.h125 rfl rfl fun C cc cb cf => ?_)
  have q1 : ∀ h, callM P fuel (d + 2) C.base 124 [stV st, stV wi] h = .ok .non h := fun h => alike_eq H h0 hL hK S W e
  have q2 : ∀ h, callM P fuel (d + 2) C.base 23 [hoV sizes kinds, stV st] h = .ok (tI (placesF sizes st)) h := fun h => places_eq (d := d + 1) H.s.h23 hs
  rw [cb] at q1 q2
  simp only [d125]
  have e1 : ∀ l : List Int, ∀ h, bi .sum [tI l] h = some (.v (.int l.sum)) := fun l h => by
    show ((intsOf (l.map Val.int)).map _ : Option _) = _
    rw [intsOf_map]; rfl
  unfold wayB at hw
  by_cases c : neB st wi = true
  · rw [c, Bool.true_and] at hw
    have c2 := of_decide_eq_false hw
    exists "v", [cc, q1, q2, q_neS, c, e1, c2]
  · have c : neB st wi = false := by simpa using c
    exists "v", [cc, q1, q2, q_neS, c]
/-! ### the fewest deeds -/
/-- so many deeds: by the pieces F -/
def fewN (sizes : List Int) (st wi : List (List Int)) (F : List Pc) : Int := tmA (am st wi) + ((F.filter (shB (placesF sizes st))).length : Nat)
theorem few_eq (H : HF P) (hf : 70 ≤ fuel) {sizes : List Int} {kinds : Int} {st wi : List (List Int)} {K : Nat} (C : CW sizes kinds st wi K) (e : thingsF K st = thingsF K wi) (hw : wayB sizes st wi = false) {F : List Pc} (hF : Comps (tie (am st wi)) F) {h : MH} :
    callM P fuel (d + 5) base 126 [hoV sizes kinds, stV st, stV wi] h = .ok (.int (fewN sizes st wi F)) h := by
  refine Rn_eq (Rn_callF H.h126 rfl rfl fun E cc cb cf => ?_)
  have s1 := C.s1
  have s2 := C.s2
  have k2 := C.k2
  have q1 : ∀ h, callM P fuel (d + 4) E.base 125 [hoV sizes kinds, stV st, stV wi] h = .ok .non h := fun h => way_eq (d := d + 1) H (by omega) (by omega) (by omega) (by omega) C.S C.W e hw
  have q2 : ∀ h, callM P fuel (d + 4) E.base 28 [stV st, stV wi] h = .ok (.int (tmA (am st wi))) h := fun h => tm_eq (d := d + 2) H.s.h27 H.h28 (by omega) (by omega) C.S C.W
  have q3 : ∀ h, callM P fuel (d + 4) E.base 39 [hoV sizes kinds, stV st, stV wi] h = .ok (.tup ((F.filter (shB (placesF sizes st))).map pcV)) h := by
    obtain ⟨G, hG, e⟩ := shut_eq (d := d) (base := E.base) H.s hf C
    rw [hF.uniq hG]
    exact e
  rw [cb] at q1 q2 q3
  simp only [d126]
  exists "v", [cc, q1, q2, q3]
  rfl
theorem lfew_eq (H : HF P) {sizes : List Int} {kinds : Int} {st wi : List (List Int)} {K : Nat} (C : CW sizes kinds st wi K) {F : List Pc} (hF : Comps (tie (am st wi)) F) {h : MH} :
    callM P fuel (d + 4) base 133 [hoV sizes kinds, stV st, stV wi] h = .ok (if wayB sizes st wi = true then .non else .int (fewN sizes st wi F)) h := by
  refine Rn_eq (Rn_callF H.h133 rfl rfl fun E cc cb cf => ?_)
  have s1 := C.s1
  have s2 := C.s2
  have k2 := C.k2
  have q1 : ∀ h, callM P fuel (d + 3) E.base 29 [hoV sizes kinds, stV st] h = .ok (.lst ((placesF sizes st).map .int)) h := fun h => free_eq (d := d + 2) H.s.h29 (by rw [C.S.len]; omega) C.S.len
  have q2 : ∀ h, callM P fuel (d + 3) E.base 33 [stV st, stV wi] h = .ok (.int (tmA (am st wi))) h := fun h => ltm_eq (d := d + 1) H.s.h32 H.h33 (by omega) (by omega) C.S C.W
  have q3 : ∀ h, callM P fuel (d + 3) E.base 41 [hoV sizes kinds, stV st, stV wi] h = .ok (.lst ((F.filter (shB (placesF sizes st))).map pcV)) h := by
    obtain ⟨G, hG, e⟩ := lshut_eq (d := d) (base := E.base) H.s C
    rw [hF.uniq hG]
    exact e
  rw [cb] at q1 q2 q3
  simp only [d133]
  have e1 : ∀ l : List Int, ∀ h, bi .sum [.lst (l.map .int)] h = some (.v (.int l.sum)) := fun l h => by
    show ((intsOf (l.map Val.int)).map _ : Option _) = _
    rw [intsOf_map]; rfl
  unfold wayB
  by_cases c : neB st wi = true
  · by_cases c2 : (placesF sizes st).sum = 0
    · exists "v", [cc, q1, q2, q3, q_neS, c, e1, c2]
    · exists "v", [cc, q1, q2, q3, q_neS, c, e1, c2]
      rfl
  · have c : neB st wi = false := by simpa using c
    exists "v", [cc, q1, q2, q3, q_neS, c]
    rfl
/-! ### another wish -/
theorem DH.wish (H : HS P) (hf : 70 ≤ fuel) {r : MH} {n : Int} {h : MH} {Q : Val → MH → Prop} (D : DH r n h) (hn : n + 200 ≤ 2 ^ 50) {sizes : List Int} {kinds : Int} {st wi : List (List Int)} (C : Cas sizes kinds st wi)
    (k : ∀ h' w, DH r (n + 100) h' → Wi sizes kinds.toNat st w → Q (stV w) h') : Rn (callM P fuel (d + 3) base 30 [.ref 1, hoV sizes kinds, stV st] h) Q := by
  obtain ⟨bs, cs, t, D, rfl⟩ := D
  exact wish_ok H.h5 H.h16 H.h19 H.h29 H.h30 D hn hf C.s0 (by have := C.s2; omega) (by have := C.s1; omega) C.k1 (by have := C.k2; omega) C.sto fun bs' t' w D' W => k _ w (.of D') W
theorem Cas.other {sizes : List Int} {kinds : Int} {st wi w : List (List Int)} (C : Cas sizes kinds st wi) (W : Wi sizes kinds.toNat st w) : Cas sizes kinds st w := ⟨C.s0, C.s1, C.s2, C.k1, C.k2, C.sto, W⟩
theorem Cas.from {sizes : List Int} {kinds : Int} {st wi w : List (List Int)} (C : Cas sizes kinds st wi) (ww : Wi sizes kinds.toNat st w) : Cas sizes kinds w wi := ⟨C.s0, C.s1, C.s2, C.k1, C.k2, ww.ok, ⟨C.wis.ok, fun i => by rw [C.wis.same, ww.same]⟩⟩
theorem Cas.things {sizes : List Int} {kinds : Int} {st wi : List (List Int)} (C : Cas sizes kinds st wi) (k : Nat) : thingsF k st = thingsF k wi := List.map_congr_left fun i _ => (C.wis.same i).symm
theorem Cas.comps {sizes : List Int} {kinds : Int} {st wi : List (List Int)} (C : Cas sizes kinds st wi) {P : Nat → Option MDef} (H : HS P) : ∃ F, Comps (tie (am st wi)) F := by
  have s2 := C.s2
  have c := C.cw
  obtain ⟨F, hF, _⟩ := pieces_eq (P := P) (fuel := 100) (d := 0) (base := 0) H.h27 H.h35 H.h36 H.h37 (by decide) (by omega) (by have := c.k2; omega) c.S c.W
  exact ⟨F, hF⟩
end MP

set_option maxHeartbeats 4000000
namespace MP.K13
open PySem MP
set_option hygiene false in
local macro_rules
  | `(tactic| exists "w") => `(tactic| try simp (maxSteps := 2000000) only [Rn_bind, Rn_ok, Rn_some, Rn_og, Rn_obind, Rn_omap, wps, qs, List.getElem?_cons_zero, List.getElem?_cons_succ, Option.some.injEq, exists_eq_left', List.set_cons_zero, List.set_cons_succ, List.map_cons, List.map_nil, List.replicate, List.cons_append, List.nil_append, wipeE, List.foldr, retV, if_true, Bool.not_true, Bool.not_false, Bool.false_eq_true, if_false, decide_eq_true_eq])
  | `(tactic| exists "w", [$ts,*]) => `(tactic| try simp (maxSteps := 2000000) only [Rn_bind, Rn_ok, Rn_some, Rn_og, Rn_obind, Rn_omap, wps, qs, List.getElem?_cons_zero, List.getElem?_cons_succ, Option.some.injEq, exists_eq_left', List.set_cons_zero, List.set_cons_succ, List.map_cons, List.map_nil, List.replicate, List.cons_append, List.nil_append, wipeE, List.foldr, retV, if_true, Bool.not_true, Bool.not_false, Bool.false_eq_true, if_false, decide_eq_true_eq, $[$ts:term],*])
  | `(tactic| exists "v") => `(tactic| try simp (maxSteps := 2000000) only [Rn_bind, Rn_ok, Rn_some, Rn_og, Rn_obind, Rn_omap, wps, qs, List.getElem?_cons_zero, List.getElem?_cons_succ, Option.some.injEq, exists_eq_left', List.set_cons_zero, List.set_cons_succ, List.map_cons, List.map_nil, List.replicate, List.cons_append, List.nil_append, wipeE, List.foldr, retV, if_true, Bool.not_true, Bool.not_false, Bool.false_eq_true, if_false, decide_eq_true_eq, qt, q_mulL, List.foldl_cons, List.foldl_nil, List.zip_cons_cons, List.zip_nil_right, isTL, Rn_stuck, ite_stuck, not_true_eq_false, not_false_eq_true, Bool.not_eq_true, Bool.not_eq_false, decide_eq_false_iff_not, beq_self_eq_true, Bool.or_false, Bool.false_or, Bool.or_self, Bool.and_self, Bool.and_true, Bool.true_and, Bool.false_and, Bool.and_false, Bool.or_true, Bool.true_or, decide_true, decide_false, Bool.true_eq_false, List.take_length, List.length_map, Val.bl.injEq, ite_self, List.length_cons, List.length_nil, Nat.reduceAdd, Nat.reduceMul, Nat.reduceSub, Nat.reducePow, Nat.reduceLT, Nat.reduceLeDiff, Int.reducePow, Int.reduceToNat, Int.reduceAdd, Int.reduceMul, Int.reduceSub, Int.reduceNeg, Int.reduceLT, Int.reduceLE, Int.reduceAbs, Int.reduceEq, Int.reduceNe, Int.cast_ofNat_Int, SZv, and_self, true_and, and_true, Nat.zero_le, or_true, true_or, Nat.zero_add, Int.natCast_add, Int.natCast_one, ge_iff_le, gt_iff_lt])
  | `(tactic| exists "v", [$ts,*]) => `(tactic| try simp (maxSteps := 2000000) only [Rn_bind, Rn_ok, Rn_some, Rn_og, Rn_obind, Rn_omap, wps, qs, List.getElem?_cons_zero, List.getElem?_cons_succ, Option.some.injEq, exists_eq_left', List.set_cons_zero, List.set_cons_succ, List.map_cons, List.map_nil, List.replicate, List.cons_append, List.nil_append, wipeE, List.foldr, retV, if_true, Bool.not_true, Bool.not_false, Bool.false_eq_true, if_false, decide_eq_true_eq, qt, q_mulL, List.foldl_cons, List.foldl_nil, List.zip_cons_cons, List.zip_nil_right, isTL, Rn_stuck, ite_stuck, not_true_eq_false, not_false_eq_true, Bool.not_eq_true, Bool.not_eq_false, decide_eq_false_iff_not, beq_self_eq_true, Bool.or_false, Bool.false_or, Bool.or_self, Bool.and_self, Bool.and_true, Bool.true_and, Bool.false_and, Bool.and_false, Bool.or_true, Bool.true_or, decide_true, decide_false, Bool.true_eq_false, List.take_length, List.length_map, Val.bl.injEq, ite_self, List.length_cons, List.length_nil, Nat.reduceAdd, Nat.reduceMul, Nat.reduceSub, Nat.reducePow, Nat.reduceLT, Nat.reduceLeDiff, Int.reducePow, Int.reduceToNat, Int.reduceAdd, Int.reduceMul, Int.reduceSub, Int.reduceNeg, Int.reduceLT, Int.reduceLE, Int.reduceAbs, Int.reduceEq, Int.reduceNe, Int.cast_ofNat_Int, SZv, and_self, true_and, and_true, Nat.zero_le, or_true, true_or, Nat.zero_add, Int.natCast_add, Int.natCast_one, ge_iff_le, gt_iff_lt, $[$ts:term],*])
  | `(tactic| exists "v*", [$ts,*]) => `(tactic| try simp (maxSteps := 2000000) only [Rn_bind, Rn_ok, Rn_some, Rn_og, Rn_obind, Rn_omap, wps, qs, List.getElem?_cons_zero, List.getElem?_cons_succ, Option.some.injEq, exists_eq_left', List.set_cons_zero, List.set_cons_succ, List.map_cons, List.map_nil, List.replicate, List.cons_append, List.nil_append, wipeE, List.foldr, retV, if_true, Bool.not_true, Bool.not_false, Bool.false_eq_true, if_false, decide_eq_true_eq, qt, q_mulL, List.foldl_cons, List.foldl_nil, List.zip_cons_cons, List.zip_nil_right, isTL, Rn_stuck, ite_stuck, not_true_eq_false, not_false_eq_true, Bool.not_eq_true, Bool.not_eq_false, decide_eq_false_iff_not, beq_self_eq_true, Bool.or_false, Bool.false_or, Bool.or_self, Bool.and_self, Bool.and_true, Bool.true_and, Bool.false_and, Bool.and_false, Bool.or_true, Bool.true_or, decide_true, decide_false, Bool.true_eq_false, List.take_length, List.length_map, Val.bl.injEq, ite_self, List.length_cons, List.length_nil, Nat.reduceAdd, Nat.reduceMul, Nat.reduceSub, Nat.reducePow, Nat.reduceLT, Nat.reduceLeDiff, Int.reducePow, Int.reduceToNat, Int.reduceAdd, Int.reduceMul, Int.reduceSub, Int.reduceNeg, Int.reduceLT, Int.reduceLE, Int.reduceAbs, Int.reduceEq, Int.reduceNe, Int.cast_ofNat_Int, SZv, and_self, true_and, and_true, Nat.zero_le, or_true, true_or, Nat.zero_add, Int.natCast_add, Int.natCast_one, ge_iff_le, gt_iff_lt, $[$ts:term],*, *])
  | `(tactic| exists "sd") => `(tactic| first | decide | omega | (simp only [List.length_cons, List.length_nil, List.length_map, List.length_append, SZv]; omega) | (constructor <;> exists "sd"))
  | `(tactic| exists "s") => `(tactic| repeat (refine And.intro (by exists "sd") ?_))
  | `(tactic| exists "nx", $D, $D1:ident, $x:ident, $a:ident, $b:ident) => `(tactic| refine DH.next H.h5 hf $D (by omega) (by omega) (by omega) fun h' $x $D1 $a $b => ?_)

/-! end of words -/
/-- law -/
abbrev f134 : Nat := 134
def b134_1 : Ss := (Ss.cons (.asg (.nm 9) (.call f133 (Es.cons (.var 3) (Es.cons (.var 7) (Es.cons (.var 8) Es.nil)))))
    (Ss.cons (.iff (.bop true (Es.cons (.isn true (.var 9)) (Es.cons (.not (.call f25 (Es.cons (.call f126 (Es.cons (.var 3) (Es.cons (.var 7) (Es.cons (.var 8) Es.nil)))) (Es.cons (.var 9) Es.nil)))) Es.nil))) (Ss.cons (.ret (.cst (.bl false)))
    Ss.nil) Ss.nil)
    Ss.nil))
def b134_3 : Ss := (Ss.cons (.asg (.nm 6) (.call f30 (Es.cons (.var 1) (Es.cons (.var 3) (Es.cons (.var 4) Es.nil)))))
    (Ss.cons (.forr (.tp [(.nm 7), (.nm 8)]) (.val (.lst false (Es.cons (.tup (Es.cons (.var 4) (Es.cons (.var 5) Es.nil))) (Es.cons (.tup (Es.cons (.var 4) (Es.cons (.var 6) Es.nil))) (Es.cons (.tup (Es.cons (.var 6) (Es.cons (.var 5) Es.nil))) (Es.cons (.tup (Es.cons (.var 4) (Es.cons (.var 5) Es.nil))) (Es.cons (.tup (Es.cons (.var 5) (Es.cons (.var 5) Es.nil))) Es.nil))))))) b134_1)
    Ss.nil))
def b134_2 : Ss := (Ss.cons (.asg (.tp [(.nm 3), (.nm 4), (.nm 5)]) (.call f31 (Es.cons (.var 1) Es.nil)))
    (Ss.cons (.iff (.cmp .eq (.call f5 (Es.cons (.var 1) (Es.cons (.cst (.int 2)) Es.nil))) (.cst (.int 0))) (Ss.cons (.asg (.tp [(.nm 3), (.nm 4), (.nm 5)]) (.call f42 (Es.cons (.var 1) Es.nil)))
    Ss.nil) Ss.nil)
    b134_3))
def d134 : MDef := ⟨false, 1, 9, (Ss.cons (.asg (.nm 1) (.call f4 (Es.cons (.var 0) Es.nil)))
    (Ss.cons (.forr (.nm 2) (.rng (.cst (.int 6))) b134_2)
    (Ss.cons (.ret (.cst (.bl true)))
    Ss.nil)))⟩
def n134 : List Str := ["_law_script", "_law_deck_here", "_law_turn", "_law_house_here", "_law_stand_here", "_law_wish_here", "_law_other", "_law_one_here", "_law_two", "_law_due"]

variable {P : Nat → Option MDef} {fuel d base : Nat}
theorem one_ok (H : HF P) (hf : 70 ≤ fuel) {C : EC} {h : MH} {sizes : List Int} {kinds : Int} {a b : List (List Int)} {u0 u1 u2 u4 u5 u6 u9 : Option Val} (c : Cas sizes kinds a b) (cc : C.call = callM P fuel (d + 11) 0) (cb : C.base = 0) (cf : C.fuel = fuel) :
    Rn (exs C b134_1 [u0, u1, u2, some (hoV sizes kinds), u4, u5, u6, some (stV a), some (stV b), u9] h) fun r h' => match r with
      | .nx g => h' = h ∧ ∃ u9, g = [u0, u1, u2, some (hoV sizes kinds), u4, u5, u6, some (stV a), some (stV b), u9]
      | .rt v => False := by
  obtain ⟨F, hF⟩ := c.comps H.s
  have q1 : ∀ h, callM P fuel (d + 11) 0 133 [hoV sizes kinds, stV a, stV b] h = .ok (if wayB sizes a b = true then .non else .int (fewN sizes a b F)) h := fun h => lfew_eq (d := d + 7) H c.cw hF
  by_cases w : wayB sizes a b = true
  · rw [if_pos w] at q1
    exists "v", [b134_1, cc, q1]
    exact ⟨_, rfl⟩
  · rw [if_neg w] at q1
    have w : wayB sizes a b = false := by simpa using w
    have q2 : ∀ h, callM P fuel (d + 11) 0 126 [hoV sizes kinds, stV a, stV b] h = .ok (.int (fewN sizes a b F)) h := fun h => few_eq (d := d + 6) H hf c.cw (c.things _) w hF
    have q3 : ∀ h, callM P fuel (d + 11) 0 25 [.int (fewN sizes a b F), .int (fewN sizes a b F)] h = .ok (.bl true) h := fun h => same_eq (d := d + 10) (n := 0) H.s.h25 rfl
    exists "v", [b134_1, cc, q1, q2, q3]
    exact ⟨_, rfl⟩
theorem turn_ok (H : HF P) (hf : 70 ≤ fuel) {C : EC} {h3 : MH} {j : Nat} {ns : List Int} {x : Val} {sizes : List Int} {kinds : Int} {st wi : List (List Int)} {u6 u7 u8 u9 : Option Val} (hj : (j : Int) < 6) (D : DH [] (20000 * j + 1000) h3) (c : Cas sizes kinds st wi) (cc : C.call = callM P fuel (d + 11) 0) (cb : C.base = 0) (cf : C.fuel = fuel) :
    Rn (exs C b134_3 [some (.scr ns), some (.ref 1), some x, some (hoV sizes kinds), some (stV st), some (stV wi), u6, u7, u8, u9] h3) fun r h => match r with
      | .nx g => DH [] (20000 * (j + 1)) h ∧ ∃ u2 u3 u4 u5 u6 u7 u8 u9, g = [some (.scr ns), some (.ref 1), u2, u3, u4, u5, u6, u7, u8, u9]
      | .rt v => below 0 v = true ∧ v = .bl true := by
  exists "v", [b134_3, cc]
  refine DH.wish (d := d + 8) H.s hf D (by omega) c fun h4 w D4 ww => ?_
  exists "v"
  refine Rn_for (fun i g h' => h' = h4 ∧ ∃ u7 u8 u9, g = [some (.scr ns), some (.ref 1), some x, some (hoV sizes kinds), some (stV st), some (stV wi), some (stV w), u7, u8, u9]) _ 0 _ _ ⟨rfl, _, _, _, rfl⟩ ?_ ?_
  · rintro i y g h5 ey ⟨rfl, u7, u8, u9, rfl⟩
    have hy : ∃ a b, y = .tup [stV a, stV b] ∧ Cas sizes kinds a b := by
      have hm := List.mem_of_getElem? ey
      simp only [List.mem_cons, List.not_mem_nil, or_false] at hm
      have c2 := c.from c.wis
      rcases hm with rfl | rfl | rfl | rfl | rfl
      · exact ⟨_, _, rfl, c⟩
      · exact ⟨_, _, rfl, c.other ww⟩
      · exact ⟨_, _, rfl, c.from ww⟩
      · exact ⟨_, _, rfl, c⟩
      · exact ⟨_, _, rfl, c2⟩
    obtain ⟨a, b, rfl, ca⟩ := hy
    exists "v"
    refine (one_ok H hf ca cc cb cf).mono fun r h6 q => ?_
    cases r with
    | nx g =>
      obtain ⟨rfl, u9, rfl⟩ := q
      exact ⟨rfl, _, _, _, rfl⟩
    | rt v => exact q.elim
  · rintro g h5 ⟨rfl, u7, u8, u9, rfl⟩
    exists "v"
    exact ⟨D4.up (by omega), _, _, _, _, _, _, _, _, rfl⟩
theorem law_ok (H : HF P) (hd : P 134 = some d134) (hf : 70 ≤ fuel) {ns : List Int} (hn : ns.length ≤ 63) : Rn (callM P fuel (d + 12) 0 134 [.scr ns] []) fun v _ => v = .bl true := by
  refine Rn_callF hd rfl rfl fun C cc cb cf => ?_
  rw [List.length_nil] at cc cb
  simp only [d134]
  exists "v", [cc]
  refine DH.deck H.s.h4 hn fun h0 D0 => ?_
  exists "v"
  refine Rn_for (fun i g h => DH [] (20000 * i) h ∧ ∃ u2 u3 u4 u5 u6 u7 u8 u9, g = [some (.scr ns), some (.ref 1), u2, u3, u4, u5, u6, u7, u8, u9]) _ 0 _ _ ⟨D0.up (by omega), _, _, _, _, _, _, _, _, rfl⟩ ?_ ?_
  · rintro j x g h e ⟨D1, u2, u3, u4, u5, u6, u7, u8, u9, rfl⟩
    have hj := (rangeV_get e).2
    exists "v", [cc, b134_2]
    refine DH.case (d := d + 6) H.s hf D1 (by omega) fun h1 sizes0 kinds0 st0 wi0 D2 C0 => ?_
    exists "v"
    refine DH.next H.s.h5 hf D2 (by omega) (by omega) (by omega) fun h2 x2 D3 a2 b2 => ?_
    exists "v"
    by_cases c2 : x2 = 0
    · exists "v", [c2]
      refine pairs_ok (d := d + 6) H.s hf D3 (by omega) fun h3 sizes st wi D4 c => ?_
      exists "v"
      exact turn_ok H hf hj (D4.up (by omega)) c cc cb cf
    · exists "v", [c2]
      exact turn_ok H hf hj (D3.up (by omega)) C0 cc cb cf
  · rintro g h ⟨D1, u2, u3, u4, u5, u6, u7, u8, u9, rfl⟩
    exists "v"
end MP.K13

set_option maxHeartbeats 0
namespace MP.K13
open PySem PySem.Spec PyProof.Rows L2 MP
def top (i : Nat) : Stmt := PySem.Challenge.pw_fullrooms_k13_fewest_told.main.body.getD i (.Pass ⟨0, 0, 0, 0⟩)
def i23 : DefI := ⟨"places", n23, top 5⟩
def i24 : DefI := ⟨"things", n24, top 6⟩
def i27 : DefI := ⟨"amiss", n27, top 8⟩
def i28 : DefI := ⟨"too_many", n28, top 9⟩
def i124 : DefI := ⟨"check_things", n124, top 10⟩
def i35 : DefI := ⟨"ties", n35, top 11⟩
def i36 : DefI := ⟨"piece_of", n36, top 12⟩
def i37 : DefI := ⟨"pieces", n37, top 13⟩
def i38 : DefI := ⟨"is_shut", n38, top 14⟩
def i39 : DefI := ⟨"shut_pieces", n39, top 15⟩
def i125 : DefI := ⟨"check_way", n125, top 17⟩
def i126 : DefI := ⟨"fewest", n126, top 18⟩
def i4 : DefI := ⟨"_law_deck", n4, top 20⟩
def i5 : DefI := ⟨"_law_next", n5, top 21⟩
def i6 : DefI := ⟨"_law_one", n6, top 22⟩
def i25 : DefI := ⟨"_law_same", n25, top 23⟩
def i16 : DefI := ⟨"_law_amount", n16, top 24⟩
def i8 : DefI := ⟨"_law_house", n8, top 25⟩
def i17 : DefI := ⟨"_law_row", n17, top 26⟩
def i18 : DefI := ⟨"_law_stand", n18, top 27⟩
def i19 : DefI := ⟨"_law_put", n19, top 28⟩
def i29 : DefI := ⟨"_law_free", n29, top 29⟩
def i30 : DefI := ⟨"_law_wish", n30, top 30⟩
def i31 : DefI := ⟨"_law_case", n31, top 31⟩
def i42 : DefI := ⟨"_law_pairs", n42, top 32⟩
def i32 : DefI := ⟨"_law_amiss", n32, top 33⟩
def i33 : DefI := ⟨"_law_too_many", n33, top 34⟩
def i40 : DefI := ⟨"_law_pieces", n40, top 35⟩
def i41 : DefI := ⟨"_law_shut", n41, top 36⟩
def i133 : DefI := ⟨"_law_fewest", n133, top 37⟩
def i134 : DefI := ⟨"law", n134, top 38⟩
def T : Tab := [(23, d23, i23), (24, d24, i24), (27, d27, i27), (28, d28, i28), (124, d124, i124), (35, d35, i35), (36, d36, i36), (37, d37, i37), (38, d38, i38), (39, d39, i39), (125, d125, i125), (126, d126, i126), (4, d4, i4), (5, d5, i5), (6, d6, i6), (25, d25, i25), (16, d16, i16), (8, d8, i8), (17, d17, i17), (18, d18, i18), (19, d19, i19), (29, d29, i29), (30, d30, i30), (31, d31, i31), (42, d42, i42), (32, d32, i32), (33, d33, i33), (40, d40, i40), (41, d41, i41), (133, d133, i133), (134, d134, i134)]
def gs : List (Str × Int) := []
def cst (i : Nat) : Stmt := match top i with
  | .ClassDef (body := b) .. => b.getD 0 (.Pass ⟨0, 0, 0, 0⟩)
  | _ => .Pass ⟨0, 0, 0, 0⟩
def xt : XT := ⟨[], [], [], []⟩
theorem c23 : Chk T gs xt (23, d23, i23) :=
  ⟨⟨⟨rfl, rfl, rfl, by decide +kernel, rfl, by decide +kernel, by decide +kernel⟩, by decide, rfl, by decide +kernel⟩, fun _ _ _ _ _ _ us hl => match us, hl with | [_, _], _ => rfl⟩
theorem c24 : Chk T gs xt (24, d24, i24) :=
  ⟨⟨⟨rfl, rfl, rfl, by decide +kernel, rfl, by decide +kernel, by decide +kernel⟩, by decide, rfl, by decide +kernel⟩, fun _ _ _ _ _ _ us hl => match us, hl with | [_], _ => rfl⟩
theorem c27 : Chk T gs xt (27, d27, i27) :=
  ⟨⟨⟨rfl, rfl, rfl, by decide +kernel, rfl, by decide +kernel, by decide +kernel⟩, by decide, rfl, by decide +kernel⟩, fun _ _ _ _ _ _ us hl => match us, hl with | [_, _], _ => rfl⟩
theorem c28 : Chk T gs xt (28, d28, i28) :=
  ⟨⟨⟨rfl, rfl, rfl, by decide +kernel, rfl, by decide +kernel, by decide +kernel⟩, by decide, rfl, by decide +kernel⟩, fun _ _ _ _ _ _ us hl => match us, hl with | [_, _], _ => rfl⟩
theorem c124 : Chk T gs xt (124, d124, i124) :=
  ⟨⟨⟨rfl, rfl, rfl, by decide +kernel, rfl, by decide +kernel, by decide +kernel⟩, by decide, rfl, by decide +kernel⟩, fun _ _ _ _ _ _ us hl => match us, hl with | [_, _], _ => rfl⟩
theorem c35 : Chk T gs xt (35, d35, i35) :=
  ⟨⟨⟨rfl, rfl, rfl, by decide +kernel, rfl, by decide +kernel, by decide +kernel⟩, by decide, rfl, by decide +kernel⟩, fun _ _ _ _ _ _ us hl => match us, hl with | [_, _], _ => rfl⟩
theorem c36 : Chk T gs xt (36, d36, i36) :=
  ⟨⟨⟨rfl, rfl, rfl, by decide +kernel, rfl, by decide +kernel, by decide +kernel⟩, by decide, rfl, by decide +kernel⟩, fun _ _ _ _ _ _ us hl => match us, hl with | [_, _], _ => rfl⟩
theorem c37 : Chk T gs xt (37, d37, i37) :=
  ⟨⟨⟨rfl, rfl, rfl, by decide +kernel, rfl, by decide +kernel, by decide +kernel⟩, by decide, rfl, by decide +kernel⟩, fun _ _ _ _ _ _ us hl => match us, hl with | [_, _], _ => rfl⟩
theorem c38 : Chk T gs xt (38, d38, i38) :=
  ⟨⟨⟨rfl, rfl, rfl, by decide +kernel, rfl, by decide +kernel, by decide +kernel⟩, by decide, rfl, by decide +kernel⟩, fun _ _ _ _ _ _ us hl => match us, hl with | [_, _, _], _ => rfl⟩
theorem c39 : Chk T gs xt (39, d39, i39) :=
  ⟨⟨⟨rfl, rfl, rfl, by decide +kernel, rfl, by decide +kernel, by decide +kernel⟩, by decide, rfl, by decide +kernel⟩, fun _ _ _ _ _ _ us hl => match us, hl with | [_, _, _], _ => rfl⟩
theorem c125 : Chk T gs xt (125, d125, i125) :=
  ⟨⟨⟨rfl, rfl, rfl, by decide +kernel, rfl, by decide +kernel, by decide +kernel⟩, by decide, rfl, by decide +kernel⟩, fun _ _ _ _ _ _ us hl => match us, hl with | [_, _, _], _ => rfl⟩
theorem c126 : Chk T gs xt (126, d126, i126) :=
  ⟨⟨⟨rfl, rfl, rfl, by decide +kernel, rfl, by decide +kernel, by decide +kernel⟩, by decide, rfl, by decide +kernel⟩, fun _ _ _ _ _ _ us hl => match us, hl with | [_, _, _], _ => rfl⟩
theorem c4 : Chk T gs xt (4, d4, i4) :=
  ⟨⟨⟨rfl, rfl, rfl, by decide +kernel, rfl, by decide +kernel, by decide +kernel⟩, by decide, rfl, by decide +kernel⟩, fun _ _ _ _ _ _ us hl => match us, hl with | [_], _ => rfl⟩
theorem c5 : Chk T gs xt (5, d5, i5) :=
  ⟨⟨⟨rfl, rfl, rfl, by decide +kernel, rfl, by decide +kernel, by decide +kernel⟩, by decide, rfl, by decide +kernel⟩, fun _ _ _ _ _ _ us hl => match us, hl with | [_, _], _ => rfl⟩
theorem c6 : Chk T gs xt (6, d6, i6) :=
  ⟨⟨⟨rfl, rfl, rfl, by decide +kernel, rfl, by decide +kernel, by decide +kernel⟩, by decide, rfl, by decide +kernel⟩, fun _ _ _ _ _ _ us hl => match us, hl with | [_, _], _ => rfl⟩
theorem c25 : Chk T gs xt (25, d25, i25) :=
  ⟨⟨⟨rfl, rfl, rfl, by decide +kernel, rfl, by decide +kernel, by decide +kernel⟩, by decide, rfl, by decide +kernel⟩, fun _ _ _ _ _ _ us hl => match us, hl with | [_, _], _ => rfl⟩
theorem c16 : Chk T gs xt (16, d16, i16) :=
  ⟨⟨⟨rfl, rfl, rfl, by decide +kernel, rfl, by decide +kernel, by decide +kernel⟩, by decide, rfl, by decide +kernel⟩, fun _ _ _ _ _ _ us hl => match us, hl with | [_, _], _ => rfl⟩
theorem c8 : Chk T gs xt (8, d8, i8) :=
  ⟨⟨⟨rfl, rfl, rfl, by decide +kernel, rfl, by decide +kernel, by decide +kernel⟩, by decide, rfl, by decide +kernel⟩, fun _ _ _ _ _ _ us hl => match us, hl with | [_, _, _], _ => rfl⟩
theorem c17 : Chk T gs xt (17, d17, i17) :=
  ⟨⟨⟨rfl, rfl, rfl, by decide +kernel, rfl, by decide +kernel, by decide +kernel⟩, by decide, rfl, by decide +kernel⟩, fun _ _ _ _ _ _ us hl => match us, hl with | [_, _, _], _ => rfl⟩
theorem c18 : Chk T gs xt (18, d18, i18) :=
  ⟨⟨⟨rfl, rfl, rfl, by decide +kernel, rfl, by decide +kernel, by decide +kernel⟩, by decide, rfl, by decide +kernel⟩, fun _ _ _ _ _ _ us hl => match us, hl with | [_, _], _ => rfl⟩
theorem c19 : Chk T gs xt (19, d19, i19) :=
  ⟨⟨⟨rfl, rfl, rfl, by decide +kernel, rfl, by decide +kernel, by decide +kernel⟩, by decide, rfl, by decide +kernel⟩, fun _ _ _ _ _ _ us hl => match us, hl with | [_, _, _, _], _ => rfl⟩
theorem c29 : Chk T gs xt (29, d29, i29) :=
  ⟨⟨⟨rfl, rfl, rfl, by decide +kernel, rfl, by decide +kernel, by decide +kernel⟩, by decide, rfl, by decide +kernel⟩, fun _ _ _ _ _ _ us hl => match us, hl with | [_, _], _ => rfl⟩
theorem c30 : Chk T gs xt (30, d30, i30) :=
  ⟨⟨⟨rfl, rfl, rfl, by decide +kernel, rfl, by decide +kernel, by decide +kernel⟩, by decide, rfl, by decide +kernel⟩, fun _ _ _ _ _ _ us hl => match us, hl with | [_, _, _], _ => rfl⟩
theorem c31 : Chk T gs xt (31, d31, i31) :=
  ⟨⟨⟨rfl, rfl, rfl, by decide +kernel, rfl, by decide +kernel, by decide +kernel⟩, by decide, rfl, by decide +kernel⟩, fun _ _ _ _ _ _ us hl => match us, hl with | [_], _ => rfl⟩
theorem c42 : Chk T gs xt (42, d42, i42) :=
  ⟨⟨⟨rfl, rfl, rfl, by decide +kernel, rfl, by decide +kernel, by decide +kernel⟩, by decide, rfl, by decide +kernel⟩, fun _ _ _ _ _ _ us hl => match us, hl with | [_], _ => rfl⟩
theorem c32 : Chk T gs xt (32, d32, i32) :=
  ⟨⟨⟨rfl, rfl, rfl, by decide +kernel, rfl, by decide +kernel, by decide +kernel⟩, by decide, rfl, by decide +kernel⟩, fun _ _ _ _ _ _ us hl => match us, hl with | [_, _], _ => rfl⟩
theorem c33 : Chk T gs xt (33, d33, i33) :=
  ⟨⟨⟨rfl, rfl, rfl, by decide +kernel, rfl, by decide +kernel, by decide +kernel⟩, by decide, rfl, by decide +kernel⟩, fun _ _ _ _ _ _ us hl => match us, hl with | [_, _], _ => rfl⟩
theorem c40 : Chk T gs xt (40, d40, i40) :=
  ⟨⟨⟨rfl, rfl, rfl, by decide +kernel, rfl, by decide +kernel, by decide +kernel⟩, by decide, rfl, by decide +kernel⟩, fun _ _ _ _ _ _ us hl => match us, hl with | [_, _], _ => rfl⟩
theorem c41 : Chk T gs xt (41, d41, i41) :=
  ⟨⟨⟨rfl, rfl, rfl, by decide +kernel, rfl, by decide +kernel, by decide +kernel⟩, by decide, rfl, by decide +kernel⟩, fun _ _ _ _ _ _ us hl => match us, hl with | [_, _, _], _ => rfl⟩
theorem c133 : Chk T gs xt (133, d133, i133) :=
  ⟨⟨⟨rfl, rfl, rfl, by decide +kernel, rfl, by decide +kernel, by decide +kernel⟩, by decide, rfl, by decide +kernel⟩, fun _ _ _ _ _ _ us hl => match us, hl with | [_, _, _], _ => rfl⟩
theorem c134 : Chk T gs xt (134, d134, i134) :=
  ⟨⟨⟨rfl, rfl, rfl, by decide +kernel, rfl, by decide +kernel, by decide +kernel⟩, by decide, rfl, by decide +kernel⟩, fun _ _ _ _ _ _ us hl => match us, hl with | [_], _ => rfl⟩
theorem chk : ∀ p ∈ T, Chk T gs xt p := by
  intro p hp
  simp only [T, List.mem_cons, List.not_mem_nil, or_false] at hp
  rcases hp with rfl | rfl | rfl | rfl | rfl | rfl | rfl | rfl | rfl | rfl | rfl | rfl | rfl | rfl | rfl | rfl | rfl | rfl | rfl | rfl | rfl | rfl | rfl | rfl | rfl | rfl | rfl | rfl | rfl | rfl | rfl
  · exact c23
  · exact c24
  · exact c27
  · exact c28
  · exact c124
  · exact c35
  · exact c36
  · exact c37
  · exact c38
  · exact c39
  · exact c125
  · exact c126
  · exact c4
  · exact c5
  · exact c6
  · exact c25
  · exact c16
  · exact c8
  · exact c17
  · exact c18
  · exact c19
  · exact c29
  · exact c30
  · exact c31
  · exact c42
  · exact c32
  · exact c33
  · exact c40
  · exact c41
  · exact c133
  · exact c134
theorem cx : ChkX T gs xt := chkX_no
def loose0 : List Str := ["RoomError", "Unlike", "NoPlace", "places", "things", "amiss", "too_many", "check_things", "ties", "piece_of", "pieces", "is_shut", "shut_pieces", "check_way", "fewest", "_law_deck", "_law_next", "_law_one", "_law_same", "_law_amount"]
def loose1 : List Str := ["_law_house", "_law_row", "_law_stand", "_law_put", "_law_free", "_law_wish", "_law_case", "_law_pairs", "_law_amiss", "_law_too_many", "_law_pieces", "_law_shut", "_law_fewest"]
def loose : List Str := loose0 ++ loose1
abbrev R : PySem.W.OpenRow := PySem.W.OpenLaw.row PySem.Challenge.rw_fullrooms_k13_fewest_told
abbrev qv : Program := PySem.W.view R.prog [38]
abbrev hk : PySem.W.Hook := MP.hookS 4 (T.fa gs xt) (T.fn xt) xt
def ob (s : PySem.W.SharedT) : (He.AlD × Bool) × Bool := MP.obS 4 (T.fa gs xt) (T.fn xt) xt (HandSHeadRun.getT s)
theorem ob_eq (s : PySem.W.SharedT) : ob s = hk.obs s.abs := MP.obS_eq (HandSHeadRun.getT_eq s)
theorem run (w : World) : HandSHeadRun.RunEq R qv hk ob 2710 loose w := by
  intro os
  kernel_rfl
abbrev dep : Nat := 40
theorem told : ∀ ns : List Int, ns.length ≤ 63 → Told T.prog 134 dep ns := fun ns hn => by
  obtain ⟨v, h, e, rfl⟩ := law_ok (P := T.prog) (fuel := 100) (d := 28) ⟨⟨rfl, rfl, rfl, rfl, rfl, rfl, rfl, rfl, rfl, rfl, rfl, rfl, rfl, rfl, rfl, rfl, rfl, rfl, rfl, rfl, rfl, rfl, rfl⟩, rfl, rfl, rfl, rfl, rfl, rfl, rfl⟩ rfl (by decide) hn
  exact ⟨100, h, e⟩
end MP.K13
open PySem PySem.W PySem.Calls PyProof.Rows
theorem PySem.Challenge.cw_fullrooms_k13_fewest_told_holds : PySem.Challenge.rw_fullrooms_k13_fewest_told.Holds := by
  w_on; o_law
  refine HandSHeadRun.head_any (r := OpenLaw.row PySem.Challenge.rw_fullrooms_k13_fewest_told) (q := MP.K13.qv) (H := MP.K13.hk) (ob := MP.K13.ob) (M := 2710) (loose := MP.K13.loose) (d := HandSHeadRun.topDef (OpenLaw.row PySem.Challenge.rw_fullrooms_k13_fewest_told).prog 38) (kwd := []) MP.K13.ob_eq
    (by kernel_rfl) (fun s => by kernel_rfl) MP.K13.run (by kernel_rfl) (by kernel_rfl) (by kernel_rfl) (by rfl) (by first | assumption | decide +kernel) (by decide +kernel) ⟨rfl, rfl, rfl, rfl, rfl, by decide +kernel⟩ ?hw ?hc
  case hw => w_witness2
  case hc => exact MP.law_fin (l := PySem.Challenge.rw_fullrooms_k13_fewest_told) (n := 63) (d := MP.K13.dep) (f := 134) (m := MP.K13.d134) (I := MP.K13.i134) (x := "_law_script") rfl (by decide) (by kernel_rfl) ⟨rfl, by decide, by decide⟩ rfl rfl (by kernel_rfl) MP.K13.chk MP.K13.cx MP.K13.told
