import PyProof.Rows.All
import Wide.All
import OpenK.AllK
import Wide.FinOn
import HandS.ForMost
import HandS.Defaults
import HandS.Exc
import KE.DataCmp
import KE.SortData
import KE.SortKeyHeap
import HandS.CallSlots
import HandS.Lambda
import HandS.HeadHook4
import HandS.TupLe
import HandS.TupAny
import HandS.IsInst
import HandS.Deep
import HandS.Flow
import HandS.Style
import HandS.ExcOwn
import HandS.Conv
import HandS.Head0
import HandS.Head1
import HandS.Head2
import HandS.HeadEnd
import HandS.HeadHook1
import HandS.HeadHook2
import HandS.HeadWalk
import PySem.Challenge.RW_boundlands_k01_sets_of_numbers
set_option Elab.async false
set_option linter.all false
set_option autoImplicit false
set_option maxRecDepth 100000
set_option maxHeartbeats 4000000
/-! The small language: values, programs, what a program does. -/
namespace Bd
open PySem

/-- a value: tuples, lists that nobody changes any more, dicts and sets likewise; ref n: the n-th shared object -/
inductive W where
  | non
  | bl (b : Bool)
  | int (i : Int)
  | str (x : Str)
  | tup (ws : List W)
  | lst (ws : List W)
  | dct (ks vs : List W)
  | set (ws : List W)
  | ref (n : Nat)
  deriving Inhabited

/-- an object that may change -/
inductive Ob where
  | lst (ws : List W)
  | dct (ks vs : List W)
  | set (ws : List W)
  | ins (c : Str) (fs : List (Str × W))
  deriving Inhabited

/-- a slot of a frame: nothing, a value, an object that this slot alone holds -/
inductive Sl where
  | no
  | v (w : W)
  | own (o : Ob)
  deriving Inhabited

abbrev Env := List Sl
abbrev Hw := List Ob

def Ob.w : Ob → W
  | .lst ws => .lst ws
  | .dct ks vs => .dct ks vs
  | .set ws => .set ws
  | .ins _ _ => .non

/-- a shared object looked at -/
def view (h : Hw) : W → W
  | .ref n => match h[n]? with
    | some (.lst ws) => .lst ws
    | some (.dct ks vs) => .dct ks vs
    | some (.set ws) => .set ws
    | _ => .ref n
  | w => w

inductive R (α : Type) where
  | ok (a : α) (h : Hw)
  | exc (c : Str) (ws : List W) (h : Hw)
  | bad

def R.bind {α β : Type} (r : R α) (f : α → Hw → R β) : R β := match r with
  | .ok a h => f a h
  | .exc c ws h => .exc c ws h
  | .bad => .bad
/-- a part that must not raise -/
def R.still {α : Type} : R α → R α
  | .exc _ _ _ => .bad
  | r => r
def R.of {α : Type} (o : Option α) (h : Hw) : R α := match o with
  | some a => .ok a h
  | none => .bad

inductive Bop where
  | add | sub | mul | fdiv | mod | pow
  deriving DecidableEq
inductive Cop where
  | eq | ne | lt | le | gt | ge | isin | notin
  deriving DecidableEq
inductive Bi where
  | len | abs | int | str | list | tuple | all | any | sum | max1 | min1 | max2 | min2 | divmod
  deriving DecidableEq
inductive Ty where
  | int | bool | str | tuple | list
  deriving DecidableEq
inductive Tg where
  | var (i : Nat)
  | tup (ts : List Tg)
/-- how an expression is asked: for its value, as an operand (own objects are only looked at), as a test -/
inductive Md where
  | val | opd | tst
  deriving DecidableEq

mutual
inductive E where
  | var (i : Nat)
  | non
  | bl (b : Bool)
  | int (i : Int)
  | str (x : Str)
  | con (x : Str)
  | bin (o : Bop) (a b : E)
  | neg (a : E)
  | cmp (o : Cop) (a b : E)
  | chain (o o' : Cop) (a b c : E)
  | isn (a : E)
  | notn (a : E)
  | isb (a : E) (b : Bool)
  | notb (a : E) (b : Bool)
  | and (es : List E)
  | or (es : List E)
  | not (a : E)
  | ite (c a b : E)
  | tup (es : List E)
  | lst (es : List E)
  | rep (es : List E) (n : E)
  | ix (a i : E)
  | sl (a : E) (lo hi : Option E)
  | rev (a : E)
  | call (f : Str) (es : List E)
  | bi (b : Bi) (es : List E)
  | isi (a : E) (tys : List Ty)
  | lc (e : E) (t : Tg) (s : Src) (c : Option E)
  | srt (a : E) (k : Option Key) (r : Bool)
  | shr (a : E)
  | lrng (es : List E)
inductive Key where
  | lam (n : Nat) (e : E)
  | fn (f : Str)
inductive Src where
  | of (a : E)
  | rng (es : List E)
  | zip (a b : E)
  | enum (a : E)
  | revd (a : E)
end

inductive S where
  | pass
  | expr (e : E)
  | ret (e : E)
  | asg (t : Tg) (e : E)
  | par (is : List Nat) (es : List E)
  | own (i : Nat) (e : E)
  | frz (i : Nat)
  | ite (c : E) (a b : List S)
  | whl (c : E) (b : List S)
  | for_ (t : Tg) (s : Src) (b : List S)
  | brk
  | cont
  | app (o e : E)
  | set (o k e : E)
  | aug (i : Nat) (o : Bop) (e : E)
  | augix (o k : E) (p : Bop) (e : E)

/-! ### operations on values -/
mutual
def toPy : W → Option PyData
  | .non => some .none
  | .bl b => some (.bool b)
  | .int i => some (.int i)
  | .str x => some (.str x)
  | .tup ws => (toPys ws).map .tuple
  | .lst ws => (toPys ws).map .list
  | .dct _ _ => none
  | .set _ => none
  | .ref _ => none
def toPys : List W → Option (List PyData)
  | [] => some []
  | w :: ws => match toPy w, toPys ws with
    | some d, some ds => some (d :: ds)
    | _, _ => none
end
def eqW (a b : W) : Option Bool := match toPy a, toPy b with
  | some d, some e => if d.depth ≤ 64 ∧ e.depth ≤ 64 then some (PyData.eqv d e) else none
  | _, _ => none
def numW : W → Option Int
  | .int i => some i
  | .bl b => some (if b then 1 else 0)
  | _ => none
def pyNone : PyData → Bool
  | .none => true
  | _ => false
/-- a < b where the two can be compared place by place -/
def ltD (d e : PyData) : Option Bool := if PySem.W.alike d e = true ∧ pyNone d = false ∧ d.depth ≤ 64 ∧ e.depth ≤ 64 then some (PySem.W.dataLt d e) else none
def ltW : W → W → Option Bool
  | .int a, .int b => some (decide (a < b))
  | .str a, .str b => some (decide (a.cps.toList < b.cps.toList))
  | a, b => match toPy a, toPy b with
    | some d, some e => ltD d e
    | _, _ => none
def truW : W → Option Bool
  | .non => some false
  | .bl b => some b
  | .int i => some (i != 0)
  | .str x => some (x.length != 0)
  | .tup ws => some (!ws.isEmpty)
  | .lst ws => some (!ws.isEmpty)
  | .dct ks _ => some (!ks.isEmpty)
  | .set ws => some (!ws.isEmpty)
  | .ref _ => none
def binW : Bop → W → W → Option W
  | .add, .int a, .int b => some (.int (a + b))
  | .add, .str a, .str b => if a.length + b.length ≤ sizeLine then some (.str (a ++ b)) else none
  | .add, .tup a, .tup b => if a.length + b.length ≤ sizeLine then some (.tup (a ++ b)) else none
  | .add, .lst a, .lst b => if a.length + b.length ≤ sizeLine then some (.lst (a ++ b)) else none
  | .sub, .int a, .int b => some (.int (a - b))
  | .mul, .int a, .int b => if (-(2 ^ 64) < a ∧ a < 2 ^ 64) ∨ (-(2 ^ 64) < b ∧ b < 2 ^ 64) then some (.int (a * b)) else none
  | .fdiv, .int a, .int b => if b ≠ 0 ∧ b.natAbs < 1073741824 then some (.int (a.fdiv b)) else none
  | .mod, .int a, .int b => if b ≠ 0 then some (.int (a.fmod b)) else none
  | .pow, .int a, .int b => if 0 ≤ b ∧ b ≤ 1000000 ∧ a.natAbs < 2 ^ 64 then some (.int (a ^ b.toNat)) else none
  | _, _, _ => none
def gtD (d e : PyData) : Option Bool := if PySem.W.alike d e = true ∧ pyNone d = false ∧ d.depth ≤ 64 ∧ e.depth ≤ 64 then some (PySem.W.dataLt e d) else none
def gtW : W → W → Option Bool
  | .int a, .int b => some (decide (b < a))
  | .str a, .str b => some (decide (b.cps.toList < a.cps.toList))
  | a, b => match toPy a, toPy b with
    | some d, some e => gtD d e
    | _, _ => none
def flatW : W → Bool
  | .non => true
  | .bl _ => true
  | .int _ => true
  | .str _ => true
  | _ => false
/-- is one of these equal to x -/
def inL (x : W) (ys : List W) : Option Bool := match toPy x, toPys ys with
  | some d, some ds => if d.depth ≤ 64 ∧ PyData.depthAll ds ≤ 63 then some (ds.any fun z => PyData.eqv z d) else none
  | _, _ => none
def inW (x : W) : W → Option Bool
  | .tup ys => if flatW x = true ∧ ys.all flatW = true then some (ys.any fun y => eqW y x == some true) else none
  | .lst ys => inL x ys
  | .str y => match x with
    | .str x => some (!(Builtin.Str.occurrences y x 0 y.length 1).isEmpty)
    | _ => none
  | _ => none
def leW : W → W → Option Bool
  | .int a, .int b => some (decide (a ≤ b))
  | .str a, .str b => some (!decide (b.cps.toList < a.cps.toList))
  | _, _ => none
def cmpW : Cop → W → W → Option Bool
  | .eq, a, b => eqW a b
  | .ne, a, b => (eqW a b).map (!·)
  | .lt, a, b => ltW a b
  | .gt, a, b => gtW a b
  | .le, a, b => leW a b
  | .ge, a, b => leW b a
  | .isin, a, b => inW a b
  | .notin, a, b => (inW a b).map (!·)
def ixW : W → W → Option W
  | .tup ws, .int i => L2.atI ws i
  | .lst ws, .int i => L2.atI ws i
  | .str x, .int i => (L2.atI x.cps.toList i).map fun c => .str ⟨#[c]⟩
  | _, _ => none
def cutW {α : Type} (ws : List α) (lo hi : Option Int) : List α := (ws.drop (HT.sIx ws.length 0 lo)).take (HT.sIx ws.length ws.length hi - HT.sIx ws.length 0 lo)
def intW : W → Option Int
  | .int i => some i
  | _ => none
def slW : W → Option Int → Option Int → Option W
  | .tup ws, lo, hi => some (.tup (cutW ws lo hi))
  | .lst ws, lo, hi => some (.lst (cutW ws lo hi))
  | _, _, _ => none
def seqW : W → Option (List W)
  | .tup ws => some ws
  | .lst ws => some ws
  | _ => none
def intsW : List W → Option (List Int)
  | [] => some []
  | .int i :: ws => (intsW ws).map (i :: ·)
  | _ :: _ => none
def blsW : List W → Option (List Bool)
  | [] => some []
  | .bl b :: ws => (blsW ws).map (b :: ·)
  | _ :: _ => none
def maxI : List Int → Int
  | [] => 0
  | [a] => a
  | a :: as => max a (maxI as)
def minI : List Int → Int
  | [] => 0
  | [a] => a
  | a :: as => min a (minI as)
def biW : Bi → List W → Option W
  | .len, [.tup ws] => some (.int ws.length)
  | .len, [.lst ws] => some (.int ws.length)
  | .len, [.str x] => some (.int x.length)
  | .abs, [.int i] => some (.int (if i < 0 then -i else i))
  | .int, [.int i] => some (.int i)
  | .list, [.tup ws] => some (.lst ws)
  | .list, [.lst ws] => some (.lst ws)
  | .tuple, [.tup ws] => some (.tup ws)
  | .tuple, [.lst ws] => some (.tup ws)
  | .all, [.lst ws] => (blsW ws).map fun bs => .bl (bs.all id)
  | .any, [.lst ws] => (blsW ws).map fun bs => .bl (bs.any id)
  | .sum, [.lst ws] => (intsW ws).map fun is => .int is.sum
  | .max1, [.lst ws] => (intsW ws).bind fun is => if is = [] then none else some (.int (maxI is))
  | .min1, [.lst ws] => (intsW ws).bind fun is => if is = [] then none else some (.int (minI is))
  | .max2, [.int a, .int b] => some (.int (if b > a then b else a))
  | .min2, [.int a, .int b] => some (.int (if b < a then b else a))
  | .divmod, [.int a, .int b] => if 0 < b ∧ b < 1073741824 then some (.tup [.int (a / b), .int (a % b)]) else none
  | _, _ => none
/-- the class of a value -/
def clsW : W → Option String
  | .non => some "NoneType"
  | .bl _ => some "bool"
  | .int _ => some "int"
  | .str _ => some "str"
  | .tup _ => some "tuple"
  | .lst _ => some "list"
  | _ => none
def isTy : Ty → W → Bool
  | .int, .int _ => true
  | .int, .bl _ => true
  | .bool, .bl _ => true
  | .str, .str _ => true
  | .tuple, .tup _ => true
  | .list, .lst _ => true
  | _, _ => false
def sortable (ds : List PyData) : Bool := (ds.all fun d => match d with
    | .tuple (_ :: _) => true
    | _ => false) || ds.all fun d => match d with
    | .tuple _ => false
    | .none => false
    | _ => true
/-- ws by their keys ks, where any two keys can be compared place by place -/
def srtW (r : Bool) (ks ws : List W) : Option (List W) := match toPys ks with
  | none => none
  | some ds => if ks.length = ws.length ∧ (ds.all fun d => ds.all fun e => PySem.W.alike d e) = true ∧ sortable ds = true ∧ (ds.all fun d => decide (d.depth ≤ 64)) = true ∧ ws.length ≤ sizeLine then
      some (((ds.zip ws).mergeSort (PySem.W.dataLe r Prod.fst)).map Prod.snd) else none

/-! ### environments -/
def look (σ : Env) (i : Nat) : Option W := match σ[i]? with
  | some (.v w) => some w
  | _ => none
/-- what an operand's name holds: an own object is looked at -/
def lookO (σ : Env) (i : Nat) : Option W := match σ[i]? with
  | some (.v w) => some w
  | some (.own (.lst ws)) => some (.lst ws)
  | some (.own (.dct ks vs)) => some (.dct ks vs)
  | some (.own (.set ws)) => some (.set ws)
  | _ => none
mutual
def bindT : Tg → W → Env → Option Env
  | .var i, w, σ => if i < σ.length then some (σ.set i (.v w)) else none
  | .tup ts, w, σ => match w with
    | .tup ws => bindTs ts ws σ
    | _ => none
def bindTs : List Tg → List W → Env → Option Env
  | [], [], σ => some σ
  | t :: ts, w :: ws, σ => match bindT t w σ with
    | some σ' => bindTs ts ws σ'
    | none => none
  | _, _, _ => none
end
mutual
def Tg.vars : Tg → List Nat
  | .var i => [i]
  | .tup ts => Tg.varss ts
def Tg.varss : List Tg → List Nat
  | [] => []
  | t :: ts => t.vars ++ Tg.varss ts
end
def wipeW (σ : Env) : List Nat → Env
  | [] => σ
  | v :: vs => (wipeW σ vs).set v .no

/-- what the rest of the program gives: defs by name, constants by name, a bound on turns of a while -/
structure Ctx where
  call : Str → List W → Hw → R W
  con : Str → Option W
  fuel : Nat

/-- over the items one by one, what is kept -/
def lcRun (f : W → Hw → R (Option W)) : List W → Hw → R (List W)
  | [], h => .ok [] h
  | x :: xs, h => (f x h).bind fun y h => (lcRun f xs h).bind fun ys h => .ok (match y with
    | some y => y :: ys
    | none => ys) h

def rngW : List W → Option (List W)
  | [.int b] => if -(2 ^ 62) ≤ b ∧ b < 2 ^ 62 then some ((List.range b.toNat).map fun (k : Nat) => W.int (k : Int)) else none
  | [.int a, .int b] => if -(2 ^ 62) ≤ a ∧ a < 2 ^ 62 ∧ -(2 ^ 62) ≤ b ∧ b < 2 ^ 62 then some ((List.range (b - a).toNat).map fun (k : Nat) => W.int (a + k)) else none
  | _ => none
def lift (f : W → Option W) (u : W) (h : Hw) : R W := .of (f (view h u)) h
/-- the answer, or its truth -/
def fin (m : Md) (r : R W) : R W := match m with
  | .tst => r.bind fun u h => .of ((truW (view h u)).map .bl) h
  | _ => r
/-- how the parts of and, or, not are asked -/
def Md.sub : Md → Md
  | .tst => .tst
  | _ => .val
def Md.neg : Md → Md
  | .tst => .tst
  | _ => .opd
def isN : W → Bool
  | .non => true
  | _ => false
def isB (k : Bool) : W → Bool
  | .bl c => c == k
  | _ => false

/-- the key of a lambda: an item of what is given, or a tuple of such -/
def keyIx : E → W → Option W
  | .ix (.var 0) (.int k), .tup ws => (L2.atI ws k).bind fun u => if flatW u then some u else none
  | _, _ => none
def keyIxs : List E → W → Option (List W)
  | [], _ => some []
  | e :: es, w => match keyIx e w, keyIxs es w with
    | some u, some us => some (u :: us)
    | _, _ => none
def keyW : E → W → Option W
  | .tup es, w => (keyIxs es w).map .tup
  | e, w => keyIx e w
def keyWs (e : E) : List W → Option (List W)
  | [] => some []
  | w :: ws => match keyW e w, keyWs e ws with
    | some u, some us => some (u :: us)
    | _, _ => none
/-! ### what an expression does -/
mutual
def ev (C : Ctx) (σ : Env) : E → Md → Hw → R W
  | .var i, m, h => fin m (.of (if m = .val then look σ i else lookO σ i) h)
  | .non, m, h => fin m (.ok .non h)
  | .bl b, m, h => fin m (.ok (.bl b) h)
  | .int i, m, h => fin m (.ok (.int i) h)
  | .str x, m, h => fin m (.ok (.str x) h)
  | .con x, m, h => fin m (.of (C.con x) h)
  | .bin o x y, m, h => fin m ((ev C σ x .opd h).bind fun u h => (ev C σ y .opd h).bind fun v h => .of (binW o (view h u) (view h v)) h)
  | .neg x, m, h => fin m ((ev C σ x .opd h).bind fun u h => .of ((intW u).map fun i => .int (-i)) h)
  | .cmp o x y, m, h => fin m ((ev C σ x .opd h).bind fun u h => (ev C σ y .opd h).bind fun v h => .of ((cmpW o (view h u) (view h v)).map .bl) h)
  | .chain o o' x y z, m, h => fin m ((ev C σ x .opd h).bind fun u h => (ev C σ y .opd h).bind fun v h => match cmpW o (view h u) (view h v) with
    | some true => (ev C σ z .opd h).bind fun w h => .of ((cmpW o' (view h v) (view h w)).map .bl) h
    | some false => .ok (.bl false) h
    | none => .bad)
  | .isn x, m, h => fin m ((ev C σ x .opd h).bind fun u h => .ok (.bl (isN u)) h)
  | .notn x, m, h => fin m ((ev C σ x .opd h).bind fun u h => .ok (.bl (!isN u)) h)
  | .isb x k, m, h => fin m ((ev C σ x .opd h).bind fun u h => .ok (.bl (isB k u)) h)
  | .notb x k, m, h => fin m ((ev C σ x .opd h).bind fun u h => .ok (.bl (!isB k u)) h)
  | .and es, m, h => evAnd C σ es m.sub h
  | .or es, m, h => evOr C σ es m.sub h
  | .not x, m, h => (ev C σ x m.neg h).bind fun u h => .of ((truW (view h u)).map fun k => .bl (!k)) h
  | .ite c x y, m, h => (ev C σ c .tst h).bind fun u h => match truW u with
    | some true => ev C σ x m.sub h
    | some false => ev C σ y m.sub h
    | none => .bad
  | .tup es, m, h => fin m ((evs C σ es .val h).bind fun ws h => if ws.length ≤ sizeLine then .ok (.tup ws) h else .bad)
  | .lst es, m, h => fin m ((evs C σ es .val h).bind fun ws h => if ws.length ≤ sizeLine then .ok (.lst ws) h else .bad)
  | .rep es n, m, h => fin m ((evs C σ es .val h).bind fun ws h => if ws.length ≤ sizeLine then (ev C σ n .opd h).bind fun u h => .of (match u with
    | .int b => if -(2 ^ 63) ≤ b ∧ b < 2 ^ 63 ∧ ws.length * b.toNat ≤ sizeLine then some (.lst (List.replicate b.toNat ws).flatten) else none
    | _ => none) h else .bad)
  | .ix x i, m, h => fin m ((ev C σ x .opd h).bind fun u h => (ev C σ i .opd h).bind fun v h => .of (ixW (view h u) v) h)
  | .sl x lo hi, m, h => fin m ((ev C σ x .opd h).bind fun u h => (evo C σ lo h).bind fun l h => (evo C σ hi h).bind fun r h => .of (slW (view h u) l r) h)
  | .rev x, m, h => fin m ((ev C σ x .opd h).bind fun u h => .of (match view h u with
    | .lst ws => some (.lst ws.reverse)
    | _ => none) h)
  | .call f es, m, h => fin m ((evs C σ es .val h).bind fun ws h => C.call f ws h)
  | .bi k es, m, h => fin m ((evs C σ es .opd h).bind fun ws h => .of (biW k (ws.map (view h))) h)
  | .isi x tys, m, h => fin m ((ev C σ x .opd h).bind fun u h => .of ((clsW (view h u)).map fun _ => .bl (tys.any fun t => isTy t (view h u))) h)
  | .lc e t s c, m, h => fin m ((evSrc C σ s .opd h).bind fun ws h => if ws.length ≤ sizeLine then
      (lcRun (fun x h => match bindT t x (wipeW σ t.vars) with
        | none => .bad
        | some σ' => (evc C σ' c h).still.bind fun k h => if k then (ev C σ' e .val h).still.bind fun y h => .ok (some y) h else .ok none h) ws h).bind fun ys h => .ok (.lst ys) h
    else .bad)
  | .srt x k r, m, h => fin m ((ev C σ x .opd h).bind fun u h => match view h u with
    | .lst ws => (evKey C k ws h).bind fun ks h => .of ((srtW r ks ws).map .lst) h
    | _ => .bad)
  | .shr x, m, h => fin m ((ev C σ x .val h).bind fun u h => match u with
    | .lst ws => .ok (.ref h.length) (h ++ [.lst ws])
    | .dct ks vs => .ok (.ref h.length) (h ++ [.dct ks vs])
    | .set ws => .ok (.ref h.length) (h ++ [.set ws])
    | _ => .bad)
  | .lrng es, m, h => fin m ((evs C σ es .opd h).bind fun ws h => .of ((rngW ws).bind fun us => if us.length ≤ sizeLine then some (.lst us) else none) h)
def evs (C : Ctx) (σ : Env) : List E → Md → Hw → R (List W)
  | [], _, h => .ok [] h
  | e :: es, m, h => (ev C σ e m h).bind fun w h => (evs C σ es m h).bind fun ws h => .ok (w :: ws) h
def evo (C : Ctx) (σ : Env) : Option E → Hw → R (Option Int)
  | none, h => .ok none h
  | some e, h => (ev C σ e .opd h).bind fun w h => .of ((intW w).map some) h
def evc (C : Ctx) (σ : Env) : Option E → Hw → R Bool
  | none, h => .ok true h
  | some e, h => (ev C σ e .tst h).bind fun w h => .of (truW w) h
def evKey (C : Ctx) : Option Key → List W → Hw → R (List W)
  | none, ws, h => .ok ws h
  | some k, ws, h => evKeys C k ws h
def evKeys (C : Ctx) : Key → List W → Hw → R (List W)
  | .lam _ e, ws, h => .of (keyWs e ws) h
  | .fn f, ws, h => lcRun (fun x h => (C.call f [x] h).bind fun y h => .ok (some y) h) ws h
def evAnd (C : Ctx) (σ : Env) : List E → Md → Hw → R W
  | [], _, _ => .bad
  | e :: es, m, h => match es with
    | [] => ev C σ e m h
    | _ :: _ => (ev C σ e m h).bind fun u h => match truW (view h u) with
      | some true => evAnd C σ es m h
      | some false => .ok u h
      | none => .bad
def evOr (C : Ctx) (σ : Env) : List E → Md → Hw → R W
  | [], _, _ => .bad
  | e :: es, m, h => match es with
    | [] => ev C σ e m h
    | _ :: _ => (ev C σ e m h).bind fun u h => match truW (view h u) with
      | some true => .ok u h
      | some false => evOr C σ es m h
      | none => .bad
def evSrc (C : Ctx) (σ : Env) : Src → Md → Hw → R (List W)
  | .of x, m, h => (ev C σ x m h).bind fun u h => .of (seqW u) h
  | .rng es, _, h => (evs C σ es .opd h).bind fun ws h => .of (rngW ws) h
  | .zip x y, m, h => (ev C σ x m h).bind fun u h => (ev C σ y m h).bind fun v h => .of (match seqW u, seqW v with
    | some us, some vs => some ((us.zip vs).map fun p => .tup [p.1, p.2])
    | _, _ => none) h
  | .enum x, m, h => (ev C σ x m h).bind fun u h => .of ((seqW u).map fun us => (us.zipIdx).map fun p => .tup [.int p.2, p.1]) h
  | .revd x, m, h => (ev C σ x m h).bind fun u h => .of ((seqW u).map List.reverse) h
end

/-! ### what a statement does -/
inductive Out where
  | next (σ : Env) (h : Hw)
  | ret (w : W) (h : Hw)
  | brk (σ : Env) (h : Hw)
  | cont (σ : Env) (h : Hw)
  | exc (c : Str) (ws : List W) (σ : Env) (h : Hw)
  | bad
def R.then' {α : Type} (r : R α) (σ : Env) (f : α → Hw → Out) : Out := match r with
  | .ok w h => f w h
  | .exc c ws h => .exc c ws σ h
  | .bad => .bad
mutual
def W.beq : W → W → Bool
  | .non, .non => true
  | .bl a, .bl b => a == b
  | .int a, .int b => a == b
  | .str a, .str b => decide (a = b)
  | .tup a, .tup b => W.beqs a b
  | .lst a, .lst b => W.beqs a b
  | .dct a c, .dct b d => W.beqs a b && W.beqs c d
  | .set a, .set b => W.beqs a b
  | .ref a, .ref b => a == b
  | _, _ => false
def W.beqs : List W → List W → Bool
  | [], [] => true
  | a :: as, b :: bs => W.beq a b && W.beqs as bs
  | _, _ => false
end
def whRun (c : Env → Hw → R W) (b : Env → Hw → Out) : Nat → Env → Hw → Out
  | 0, _, _ => .bad
  | n + 1, σ, h => (c σ h).then' σ fun u h => match truW u with
    | some true => match b σ h with
      | .next σ h => whRun c b n σ h
      | .cont σ h => whRun c b n σ h
      | .brk σ h => .next σ h
      | o => o
    | some false => .next σ h
    | none => .bad
/-- a loop's turns -/
def forRun (b : W → Env → Hw → Out) : List W → Env → Hw → Out
  | [], σ, h => .next σ h
  | x :: xs, σ, h => match b x σ h with
    | .next σ h => forRun b xs σ h
    | .cont σ h => forRun b xs σ h
    | .brk σ h => .next σ h
    | o => o
/-- the slot of a name that is to be an own object -/
def setOwn (i : Nat) (w : W) (σ : Env) (h : Hw) : Out := if i < σ.length then (match w with
    | .lst ws => .next (σ.set i (.own (.lst ws))) h
    | .dct ks vs => .next (σ.set i (.own (.dct ks vs))) h
    | .set ws => .next (σ.set i (.own (.set ws))) h
    | _ => .bad) else .bad
/-- an object by its place: a slot of the frame's own, or shared -/
inductive Pl where
  | slot (i : Nat)
  | obj (n : Nat)
def plOf (C : Ctx) (σ : Env) (e : E) (h : Hw) : R Pl := match e with
  | .var i => match σ[i]? with
    | some (.own _) => .ok (.slot i) h
    | some (.v (.ref n)) => .ok (.obj n) h
    | _ => .bad
  | e => (ev C σ e .val h).bind fun w h => match w with
    | .ref n => .ok (.obj n) h
    | _ => .bad
def Pl.get (p : Pl) (σ : Env) (h : Hw) : Option Ob := match p with
  | .slot i => match σ[i]? with
    | some (.own o) => some o
    | _ => none
  | .obj n => h[n]?
def Pl.put (p : Pl) (o : Ob) (σ : Env) (h : Hw) : Out := match p with
  | .slot i => .next (σ.set i (.own o)) h
  | .obj n => .next σ (h.set n o)
def Pl.isLst (p : Pl) (σ : Env) (h : Hw) : Bool := match p.get σ h with
  | some (.lst _) => true
  | _ => false
def appOb (w : W) : Ob → Option Ob
  | .lst ws => if ws.length < sizeLine then some (.lst (ws ++ [w])) else none
  | _ => none
def setOb (k w : W) : Ob → Option Ob
  | .lst ws => (intW k).bind fun i => (L2.ixN ws.length i).map fun j => .lst (ws.set j w)
  | _ => none
mutual
def exS (C : Ctx) : S → Env → Hw → Out
  | .pass, σ, h => .next σ h
  | .expr e, σ, h => (ev C σ e .val h).then' σ fun _ h => .next σ h
  | .ret e, σ, h => (ev C σ e .opd h).then' σ fun w h => .ret w h
  | .asg t e, σ, h => (ev C σ e .val h).then' σ fun w h => match bindT t w σ with
    | some σ => .next σ h
    | none => .bad
  | .own i e, σ, h => (ev C σ e .val h).then' σ fun w h => setOwn i w σ h
  | .frz i, σ, h => match σ[i]? with
    | some (.own (.ins _ _)) => .bad
    | some (.own o) => .next (σ.set i (.v o.w)) h
    | _ => .bad
  | .ite c a b, σ, h => (ev C σ c .tst h).then' σ fun u h => match truW u with
    | some true => exSs C a σ h
    | some false => exSs C b σ h
    | none => .bad
  | .whl c b, σ, h => whRun (fun σ h => ev C σ c .tst h) (fun σ h => exSs C b σ h) C.fuel σ h
  | .for_ t s b, σ, h => (evSrc C σ s .val h).then' σ fun ws h => forRun (fun x σ h => match bindT t x σ with
    | some σ => exSs C b σ h
    | none => .bad) ws σ h
  | .par is es, σ, h => (evs C σ es .val h).then' σ fun ws h => match bindTs (is.map Tg.var) ws σ with
    | some σ => .next σ h
    | none => .bad
  | .brk, σ, h => .brk σ h
  | .cont, σ, h => .cont σ h
  | .app o e, σ, h => (plOf C σ o h).then' σ fun p h => if p.isLst σ h then (ev C σ e .val h).then' σ fun w h => match (p.get σ h).bind (appOb w) with
    | some o => p.put o σ h
    | none => .bad
  else .bad
  | .set o k e, σ, h => (ev C σ e .val h).then' σ fun w h => (plOf C σ o h).then' σ fun p h => (ev C σ k .val h).then' σ fun k h => match (p.get σ h).bind (setOb k w) with
    | some o => p.put o σ h
    | none => .bad
  | .aug i o e, σ, h => match look σ i with
    | some u => (ev C σ e .opd h).then' σ fun v h => match binW o u v with
      | some w => if i < σ.length then .next (σ.set i (.v w)) h else .bad
      | none => .bad
    | none => .bad
  | .augix o k p e, σ, h => (plOf C σ o h).then' σ fun q h => (ev C σ k .val h).then' σ fun k h => match (q.get σ h).bind fun ob => ixW ob.w k with
    | some u => (ev C σ e .opd h).then' σ fun v h => match (binW p u v).bind fun w => (q.get σ h).bind (setOb k w) with
      | some o => q.put o σ h
      | none => .bad
    | none => .bad
def exSs (C : Ctx) : List S → Env → Hw → Out
  | [], σ, h => .next σ h
  | s :: ss, σ, h => match exS C s σ h with
    | .next σ h => exSs C ss σ h
    | o => o
end

/-! ### defs -/
structure Fn where
  np : Nat
  ns : Nat
  gc : Bool
  body : List S
mutual
/-- the shared objects in a value, each in the place of its reading -/
def mapRef (g : Nat → Option W) : W → Option W
  | .ref n => g n
  | .tup ws => (mapRefs g ws).map .tup
  | .lst ws => (mapRefs g ws).map .lst
  | .dct ks vs => match mapRefs g ks, mapRefs g vs with
    | some ks, some vs => some (.dct ks vs)
    | _, _ => none
  | .set ws => (mapRefs g ws).map .set
  | w => some w
def mapRefs (g : Nat → Option W) : List W → Option (List W)
  | [] => some []
  | w :: ws => match mapRef g w, mapRefs g ws with
    | some w, some ws => some (w :: ws)
    | _, _ => none
end
/-- the objects from n on, frozen -/
def frzW (h : Hw) (n : Nat) : Nat → W → Option W
  | 0 => mapRef fun k => if k < n then some (.ref k) else none
  | f + 1 => mapRef fun k => if k < n then some (.ref k) else match h[k]? with
    | some (.lst ws) => frzW h n f (.lst ws)
    | some (.dct ks vs) => frzW h n f (.dct ks vs)
    | some (.set ws) => frzW h n f (.set ws)
    | _ => none
def oldOk (n : Nat) : W → Bool := fun w => (mapRef (fun k => if k < n then some (.ref k) else none) w).isSome
def obOld (n : Nat) : Ob → Bool
  | .lst ws => ws.all (oldOk n)
  | .dct ks vs => ks.all (oldOk n) && vs.all (oldOk n)
  | .set ws => ws.all (oldOk n)
  | .ins _ fs => fs.all fun p => oldOk n p.2
/-- at a def's end: objects that it made and nobody holds but its answer are frozen in it -/
def gcW (n : Nat) (w : W) (h : Hw) : R W := if h.length = n then .ok w h else
  if ((h.take n).all (obOld n)) = true then (match frzW h n 4 w with
    | some w => .ok w (h.take n)
    | none => .ok w h) else .ok w h
def finFn (gc : Bool) (n : Nat) : Out → R W
  | .next _ h => if gc then gcW n .non h else .ok .non h
  | .ret w h => if gc then gcW n w h else .ok w h
  | .exc c ws _ h => .exc c ws h
  | _ => .bad
def runFn (C : Ctx) (f : Fn) (ws : List W) (h : Hw) : R W :=
  if ws.length = f.np ∧ f.np ≤ f.ns then finFn f.gc h.length (exSs C f.body (ws.map .v ++ List.replicate (f.ns - f.np) .no) h) else .bad
/-- a def called, n calls deep at most -/
def callF (T : Str → Option Fn) (con : Str → Option W) (fuel : Nat) : Nat → Str → List W → Hw → R W
  | 0, _, _, _ => .bad
  | n + 1, f, ws, h => match T f with
    | some fn => runFn ⟨callF T con fuel n, con, fuel⟩ fn ws h
    | none => .bad
end Bd
/-! What the small language's values are in the model's heap. -/
namespace Bd
open PySem PySem.Spec PyProof.Rows L2

abbrev Ads := Addr → Prop
/-- a list of the top, that nobody changes -/
def SqK (K : PySem.W.Frag) (a : Addr) (vs : List V) : Prop := ∃ (o : Obj) (its : Array Value) (n : Nat), K.lookup a = some o ∧ o.cls = .type "list" ∧ o.dict = none ∧ o.data = .seq its n ∧ its.size ≤ sizeLine ∧ Vals vs its.toList
section
variable (K : PySem.W.Frag)
mutual
/-- the value w stands as v in the heap H; ι: the shared objects' places, Z: lists that nobody changes -/
def VR (H : Hp) (ι : List Addr) (Z : Ads) : W → V → Prop
  | .non, v => v = .non
  | .bl b, v => v = .bl b
  | .int i, v => v = .int i
  | .str x, v => v = .str x ∧ PyData.strOk x = true ∧ x.length ≤ sizeLine
  | .tup ws, v => ∃ a vs, v = .ref a ∧ SqT K H a vs ∧ vs.length ≤ sizeLine ∧ VRs H ι Z ws vs
  | .lst ws, v => ∃ a vs, v = .ref a ∧ SqL K H a vs ∧ (Z a ∨ SqK K a vs) ∧ vs.length ≤ sizeLine ∧ VRs H ι Z ws vs
  | .dct _ _, _ => False
  | .set _, _ => False
  | .ref n, v => ∃ a, v = .ref a ∧ ι[n]? = some a
def VRs (H : Hp) (ι : List Addr) (Z : Ads) : List W → List V → Prop
  | [], vs => vs = []
  | w :: ws, vs => ∃ v us, vs = v :: us ∧ VR H ι Z w v ∧ VRs H ι Z ws us
end
/-- the object o stands at a -/
def ObR (H : Hp) (ι : List Addr) (Z : Ads) : Ob → Addr → Prop
  | .lst ws, a => ∃ vs, H a = some (.lst vs) ∧ vs.length ≤ sizeLine ∧ VRs K H ι Z ws vs
  | _, _ => False
/-- the defs that make lambdas -/
def lamL : List Str := ["set_of", "order_of"]
/-- does the def stand at the top, with its own table of codes -/
def hasTab (K : PySem.W.Frag) (nm : Str) : Bool := (He.Fa.glo nm).ok K && PySem.W.codeHdIn K (He.cT K (nm, none)).1 (He.cT K (nm, none)).2
/-- the tables of codes, by what their codes are called -/
def tbs (K : PySem.W.Frag) : List (Addr × Str) := (lamL.filter (hasTab K)).map fun nm => ((He.cT K (nm, none)).2, nm ++ ".<locals>." ++ "<lambda>")
/-- not a table -/
def nT (o : HO) : Prop := ∀ ps, o ≠ .tbl ps
/-- the shared objects stand -/
structure HR (H : Hp) (ι : List Addr) (Z : Ads) (h : Hw) : Prop where
  len : ι.length = h.length
  nd : ι.Nodup
  ob : ∀ (n : Nat) (o : Ob) (a : Addr), h[n]? = some o → ι[n]? = some a → ObR K H ι Z o a
  dis : ∀ a ∈ ι, ¬ Z a
  zin : ∀ a, Z a → H a ≠ none
  tb : LamX.Tabs (tbs K) H
/-- a frame's slots -/
structure ER (H : Hp) (ι : List Addr) (Z : Ads) (σ : L2.St) (τ : Env) : Prop where
  len : σ.length = τ.length
  val : ∀ (i : Nat) (w : W), τ[i]? = some (.v w) → ∃ v, σ[i]? = some (some v) ∧ VR K H ι Z w v
  own : ∀ (i : Nat) (o : Ob), τ[i]? = some (.own o) → ∃ a, σ[i]? = some (some (.ref a)) ∧ ¬ Z a ∧ a ∉ ι ∧ ObR K H ι Z o a
  apart : ∀ (i j : Nat) (o o' : Ob) (a : Addr), i ≠ j → τ[i]? = some (.own o) → τ[j]? = some (.own o') → σ[i]? = some (some (.ref a)) → σ[j]? ≠ some (some (.ref a))
end
/-- from one state to a later one; M: what the frame alone holds and may change -/
structure Stp (M : Ads) (ι : List Addr) (Z : Ads) (H : Hp) (ι' : List Addr) (Z' : Ads) (H' : Hp) : Prop where
  pre : ∀ (n : Nat) (a : Addr), ι[n]? = some a → ι'[n]? = some a
  new : ∀ a ∈ ι', a ∈ ι ∨ H a = none ∨ M a
  zin : ∀ a, Z a → Z' a
  znew : ∀ a, Z' a → Z a ∨ H a = none ∨ M a
  keep : ∀ a o, H a = some o → nT o → a ∉ ι → ¬ M a → H' a = some o
  stay : ∀ a, H a ≠ none → H' a ≠ none
abbrev no : Ads := fun _ => False
section
variable {K : PySem.W.Frag} {M M' : Ads} {ι ι1 ι2 : List Addr} {Z Z1 Z2 : Ads} {H H1 H2 : Hp} {h h1 : Hw} {σ : L2.St} {τ : Env}
theorem Stp.refl : Stp M ι Z H ι Z H := ⟨fun _ _ e => e, fun _ e => .inl e, fun _ e => e, fun _ e => .inl e, fun _ _ e _ _ _ => e, fun _ e => e⟩
theorem Stp.trans (s : Stp M ι Z H ι1 Z1 H1) (t : Stp M' ι1 Z1 H1 ι2 Z2 H2) (hm : ∀ a, M' a → M a ∨ H a = none) : Stp M ι Z H ι2 Z2 H2 where
  pre := fun n a e => t.pre n a (s.pre n a e)
  new := fun a e => by
    rcases t.new a e with q | q | q
    · exact s.new a q
    · refine .inr (.inl ?_)
      cases z : H a with
      | none => rfl
      | some o => exact absurd q (s.stay a (by rw [z]; simp))
    · rcases hm a q with q | q
      · exact .inr (.inr q)
      · exact .inr (.inl q)
  zin := fun a e => t.zin a (s.zin a e)
  znew := fun a e => by
    rcases t.znew a e with q | q | q
    · exact s.znew a q
    · refine .inr (.inl ?_)
      cases z : H a with
      | none => rfl
      | some o => exact absurd q (s.stay a (by rw [z]; simp))
    · rcases hm a q with q | q
      · exact .inr (.inr q)
      · exact .inr (.inl q)
  keep := fun a o e nt ni nm => by
    refine t.keep a o (s.keep a o e nt ni nm) nt (fun q => ?_) fun q => ?_
    · rcases s.new a q with z | z | z
      · exact ni z
      · rw [e] at z; cases z
      · exact nm z
    · rcases hm a q with z | z
      · exact nm z
      · rw [e] at z; cases z
  stay := fun a e => t.stay a (s.stay a e)
theorem Stp.trans0 (s : Stp M ι Z H ι1 Z1 H1) (t : Stp no ι1 Z1 H1 ι2 Z2 H2) : Stp M ι Z H ι2 Z2 H2 := s.trans t fun _ x => x.elim
theorem Stp.mono (s : Stp M ι Z H ι1 Z1 H1) (hm : ∀ a, M a → M' a) : Stp M' ι Z H ι1 Z1 H1 :=
  ⟨s.pre, fun a e => (s.new a e).imp id fun x => x.imp id (hm a), s.zin, fun a e => (s.znew a e).imp id fun x => x.imp id (hm a), fun a o e nt ni nm => s.keep a o e nt ni fun x => nm (hm a x), s.stay⟩
theorem Stp.free (s : Stp M ι Z H ι1 Z1 H1) {a : Addr} (e : H1 a = none) : H a = none := by
  cases z : H a with
  | none => rfl
  | some o => exact absurd e (s.stay a (by rw [z]; simp))

/-! ### what stays -/
/-- no shared object, no own one is a tuple or locked -/
def Fits (M : Ads) (H : Hp) (ι : List Addr) (Z : Ads) : Prop := ∀ a, a ∈ ι ∨ M a → ¬ Z a ∧ (∀ xs, H a ≠ some (.tup xs)) ∧ (∀ o u, H a ≠ some (.frz o u))
theorem ObR.kind {o : Ob} {a : Addr} (x : ObR K H ι Z o a) : (∀ xs, H a ≠ some (.tup xs)) ∧ (∀ o u, H a ≠ some (.frz o u)) ∧ H a ≠ none := by
  cases o with
  | lst ws =>
    obtain ⟨vs, e, _⟩ := x
    rw [e]
    exact ⟨fun _ q => (by cases q), fun _ _ q => (by cases q), fun q => (by cases q)⟩
  | _ => exact x.elim
theorem HR.atA (x : HR K H ι Z h) {a : Addr} (ha : a ∈ ι) : ∃ (n : Nat) (o : Ob), h[n]? = some o ∧ ι[n]? = some a ∧ ObR K H ι Z o a := by
  obtain ⟨n, hn, e⟩ := List.getElem_of_mem ha
  have hh : n < h.length := by rw [← x.len]; exact hn
  have e1 : ι[n]? = some a := by rw [List.getElem?_eq_getElem hn, e]
  exact ⟨n, h[n], List.getElem?_eq_getElem hh, e1, x.ob n _ a (List.getElem?_eq_getElem hh) e1⟩
theorem HR.fits (x : HR K H ι Z h) : Fits no H ι Z := fun a ha => by
  rcases ha with ha | ha
  · obtain ⟨n, o, _, _, r⟩ := x.atA ha
    exact ⟨x.dis a ha, r.kind.1, r.kind.2.1⟩
  · exact ha.elim
theorem SqT.go {a : Addr} {xs : List V} (f : Fits M H ι Z) (s : Stp M ι Z H ι1 Z1 H1) (r : SqT K H a xs) : SqT K H1 a xs := by
  rcases r with (r | ⟨o, r⟩) | r
  · exact .inl (.inl (s.keep a _ r (fun _ z => nomatch z) (fun q => (f a (.inl q)).2.1 _ r) fun q => (f a (.inr q)).2.1 _ r))
  · exact .inl (.inr ⟨o, s.keep a _ r (fun _ z => nomatch z) (fun q => (f a (.inl q)).2.2 _ _ r) fun q => (f a (.inr q)).2.2 _ _ r⟩)
  · exact .inr r
theorem RdL.go {a : Addr} {o : HO} (nt : nT o) (f : Fits M H ι Z) (s : Stp M ι Z H ι1 Z1 H1) (z : Z a) (r : Rd H a o) : Rd H1 a o := by
  rcases r with r | ⟨u, r⟩
  · exact .inl (s.keep a _ r nt (fun q => (f a (.inl q)).1 z) fun q => (f a (.inr q)).1 z)
  · exact .inr ⟨u, s.keep a _ r (fun _ z => nomatch z) (fun q => (f a (.inl q)).1 z) fun q => (f a (.inr q)).1 z⟩
theorem SqL.go {a : Addr} {xs : List V} (f : Fits M H ι Z) (s : Stp M ι Z H ι1 Z1 H1) (z : Z a ∨ SqK K a xs) (r : SqL K H a xs) : SqL K H1 a xs := by
  rcases z with z | k
  · rcases r with r | k
    · exact .inl (RdL.go (fun _ z => nomatch z) f s z r)
    · exact .inr k
  · exact .inr k
mutual
theorem VR.go (f : Fits M H ι Z) (s : Stp M ι Z H ι1 Z1 H1) : ∀ (w : W) (v : V), VR K H ι Z w v → VR K H1 ι1 Z1 w v
  | .non, _, r => r
  | .bl _, _, r => r
  | .int _, _, r => r
  | .str _, _, r => r
  | .tup ws, _, ⟨a, vs, e, q, l, r⟩ => ⟨a, vs, e, SqT.go f s q, l, VRs.go f s ws vs r⟩
  | .lst ws, _, ⟨a, vs, e, q, z, l, r⟩ => ⟨a, vs, e, SqL.go f s z q, z.imp (s.zin a) id, l, VRs.go f s ws vs r⟩
  | .dct _ _, _, r => r.elim
  | .set _, _, r => r.elim
  | .ref n, _, ⟨a, e, q⟩ => ⟨a, e, s.pre n a q⟩
theorem VRs.go (f : Fits M H ι Z) (s : Stp M ι Z H ι1 Z1 H1) : ∀ (ws : List W) (vs : List V), VRs K H ι Z ws vs → VRs K H1 ι1 Z1 ws vs
  | [], _, r => r
  | w :: ws, _, ⟨v, us, e, r, q⟩ => ⟨v, us, e, VR.go f s w v r, VRs.go f s ws us q⟩
end
theorem VRs.length : ∀ {ws : List W} {vs : List V}, VRs K H ι Z ws vs → ws.length = vs.length
  | [], _, r => by cases r; rfl
  | w :: ws, _, ⟨v, us, e, r, q⟩ => by subst e; simp [VRs.length q]
theorem VRs.get : ∀ {ws : List W} {vs : List V} {i : Nat} {w : W}, VRs K H ι Z ws vs → ws[i]? = some w → ∃ v, vs[i]? = some v ∧ VR K H ι Z w v
  | [], _, _, _, _, e => by simp at e
  | w :: ws, _, 0, _, ⟨v, us, rfl, r, q⟩, e => by
    simp at e; subst e; exact ⟨v, rfl, r⟩
  | w :: ws, _, i + 1, x, ⟨v, us, rfl, r, q⟩, e => by
    obtain ⟨y, e1, e2⟩ := VRs.get (i := i) (w := x) q (by simpa using e)
    exact ⟨y, by simpa using e1, e2⟩
theorem VRs.app : ∀ {ws us : List W} {vs xs : List V}, VRs K H ι Z ws vs → VRs K H ι Z us xs → VRs K H ι Z (ws ++ us) (vs ++ xs)
  | [], _, _, _, r, q => by cases r; exact q
  | w :: ws, _, _, _, ⟨v, us, rfl, r, q⟩, t => ⟨v, _, rfl, r, VRs.app q t⟩
theorem VRs.drop : ∀ {ws : List W} {vs : List V} (n : Nat), VRs K H ι Z ws vs → VRs K H ι Z (ws.drop n) (vs.drop n)
  | _, _, 0, r => r
  | [], _, n + 1, r => by cases r; exact rfl
  | w :: ws, _, n + 1, ⟨v, us, rfl, r, q⟩ => VRs.drop n q
theorem VRs.take : ∀ {ws : List W} {vs : List V} (n : Nat), VRs K H ι Z ws vs → VRs K H ι Z (ws.take n) (vs.take n)
  | _, _, 0, _ => rfl
  | [], _, n + 1, r => by cases r; exact rfl
  | w :: ws, _, n + 1, ⟨v, us, rfl, r, q⟩ => ⟨v, _, rfl, r, VRs.take n q⟩
theorem VRs.set : ∀ {ws : List W} {vs : List V} (n : Nat) {w : W} {v : V}, VR K H ι Z w v → VRs K H ι Z ws vs → VRs K H ι Z (ws.set n w) (vs.set n v)
  | [], _, n, _, _, _, r => by cases r; cases n <;> exact rfl
  | w :: ws, _, 0, _, _, x, ⟨v, us, rfl, r, q⟩ => ⟨_, _, rfl, x, q⟩
  | w :: ws, _, n + 1, _, _, x, ⟨v, us, rfl, r, q⟩ => ⟨v, _, rfl, r, VRs.set n x q⟩
theorem VRs.rev : ∀ {ws : List W} {vs : List V}, VRs K H ι Z ws vs → VRs K H ι Z ws.reverse vs.reverse
  | [], _, r => by cases r; exact rfl
  | w :: ws, _, ⟨v, us, rfl, r, q⟩ => by
    rw [List.reverse_cons, List.reverse_cons]
    exact VRs.app (VRs.rev q) ⟨v, [], rfl, r, rfl⟩
/-- item by item -/
theorem VRs.of_get : ∀ {ws : List W} {vs : List V}, ws.length = vs.length → (∀ (i : Nat) (w : W) (v : V), ws[i]? = some w → vs[i]? = some v → VR K H ι Z w v) → VRs K H ι Z ws vs
  | [], [], _, _ => rfl
  | [], _ :: _, e, _ => by simp at e
  | _ :: _, [], e, _ => by simp at e
  | w :: ws, v :: vs, e, h => ⟨v, vs, rfl, h 0 w v rfl rfl, VRs.of_get (by simpa using e) fun i x y e1 e2 => h (i + 1) x y (by simpa using e1) (by simpa using e2)⟩
theorem ObR.go (f : Fits M H ι Z) (s : Stp M ι Z H ι1 Z1 H1) {o : Ob} {a : Addr} (r : ObR K H ι Z o a) (ni : a ∉ ι) (nm : ¬ M a) : ObR K H1 ι1 Z1 o a := by
  cases o with
  | lst ws =>
    obtain ⟨vs, e, l, q⟩ := r
    exact ⟨vs, s.keep a _ e (fun _ z => nomatch z) ni nm, l, VRs.go f s ws vs q⟩
  | _ => exact r.elim
theorem ER.go (x : HR K H ι Z h) (s : Stp no ι Z H ι1 Z1 H1) (e : ER K H ι Z σ τ) : ER K H1 ι1 Z1 σ τ where
  len := e.len
  val := fun i w q => by
    obtain ⟨v, e1, r⟩ := e.val i w q
    exact ⟨v, e1, VR.go x.fits s w v r⟩
  own := fun i o q => by
    obtain ⟨a, e1, nz, ni, r⟩ := e.own i o q
    have hn := r.kind.2.2
    refine ⟨a, e1, fun z => ?_, fun z => ?_, r.go x.fits s ni (fun q => q)⟩
    · rcases s.znew a z with z | z | z
      · exact nz z
      · exact hn z
      · exact z
    · rcases s.new a z with z | z | z
      · exact ni z
      · exact hn z
      · exact z
  apart := e.apart

/-! ### a new object -/
theorem Stp.laid {p : Addr} {o : HO} (hp : H p = none) : Stp M ι Z H ι Z (upd H p o) where
  pre := fun _ _ e => e
  new := fun _ e => .inl e
  zin := fun _ e => e
  znew := fun _ e => .inl e
  keep := fun a u e _ _ _ => by rw [upd_ne (ne_of_none e hp)]; exact e
  stay := fun a e => by
    by_cases q : a = p
    · subst q; exact absurd hp e
    · rw [upd_ne q]; exact e
theorem HR.go (x : HR K H ι Z h) (s : Stp no ι Z H ι Z H1) (k : ∀ a ∈ ι, H1 a = H a) (tb : LamX.Tabs (tbs K) H1) : HR K H1 ι Z h where
  tb := tb
  len := x.len
  nd := x.nd
  ob := fun n o a e1 e2 => by
    have r := x.ob n o a e1 e2
    cases o with
    | lst ws =>
      obtain ⟨vs, e, l, q⟩ := r
      exact ⟨vs, (k a (List.mem_of_getElem? e2)).trans e, l, VRs.go x.fits s ws vs q⟩
    | _ => exact r.elim
  dis := x.dis
  zin := fun a z => s.stay a (x.zin a z)
theorem HR.laid {p : Addr} {o : HO} (x : HR K H ι Z h) (hp : H p = none) : HR K (upd H p o) ι Z h :=
  x.go (Stp.laid hp) (fun a ha => by
    obtain ⟨n, ob, _, _, r⟩ := x.atA ha
    exact upd_ne (fun q => r.kind.2.2 (q ▸ hp))) (x.tb.ext fun b o e => by rw [upd_ne (ne_of_none e hp)]; exact e)
/-- a list that nobody changes any more -/
theorem Stp.frozen {p : Addr} (hp : H p = none ∨ M p) (hz : H1 = H) : Stp M ι Z H ι (fun a => Z a ∨ a = p) H1 where
  pre := fun _ _ e => e
  new := fun _ e => .inl e
  zin := fun _ e => .inl e
  znew := fun a e => by
    rcases e with e | e
    · exact .inl e
    · subst e; exact .inr hp
  keep := fun a o e _ _ _ => by rw [hz]; exact e
  stay := fun a e => by rw [hz]; exact e
mutual
theorem VR.z {Z' : Ads} (hz : ∀ a, Z a → Z' a) : ∀ (w : W) (v : V), VR K H ι Z w v → VR K H ι Z' w v
  | .non, _, r => r
  | .bl _, _, r => r
  | .int _, _, r => r
  | .str _, _, r => r
  | .tup ws, _, ⟨a, vs, e, q, l, r⟩ => ⟨a, vs, e, q, l, VRs.z hz ws vs r⟩
  | .lst ws, _, ⟨a, vs, e, q, z, l, r⟩ => ⟨a, vs, e, q, z.imp (hz a) id, l, VRs.z hz ws vs r⟩
  | .dct _ _, _, r => r.elim
  | .set _, _, r => r.elim
  | .ref n, _, r => r
theorem VRs.z {Z' : Ads} (hz : ∀ a, Z a → Z' a) : ∀ (ws : List W) (vs : List V), VRs K H ι Z ws vs → VRs K H ι Z' ws vs
  | [], _, r => r
  | w :: ws, _, ⟨v, us, e, r, q⟩ => ⟨v, us, e, VR.z hz w v r, VRs.z hz ws us q⟩
end
theorem ObR.z {Z' : Ads} (hz : ∀ a, Z a → Z' a) {o : Ob} {a : Addr} (r : ObR K H ι Z o a) : ObR K H ι Z' o a := by
  cases o with
  | lst ws =>
    obtain ⟨vs, e, l, q⟩ := r
    exact ⟨vs, e, l, VRs.z hz ws vs q⟩
  | _ => exact r.elim
theorem HR.frozen {p : Addr} (x : HR K H ι Z h) (hp : H p ≠ none) (ni : p ∉ ι) : HR K H ι (fun a => Z a ∨ a = p) h where
  tb := x.tb
  len := x.len
  nd := x.nd
  ob := fun n o a e1 e2 => (x.ob n o a e1 e2).z fun _ q => .inl q
  dis := fun a ha z => by
    rcases z with z | z
    · exact x.dis a ha z
    · subst z; exact ni ha
  zin := fun a z => by
    rcases z with z | z
    · exact x.zin a z
    · subst z; exact hp
end

/-- an object that is no table and no code is changed: the tables stay -/
theorem Tabs.upd {H : Hp} {T : List (Addr × Str)} {a : Addr} {u o : HO} (t : LamX.Tabs T H) (ha : H a = some u) (nt : nT u) (nc : ∀ c q, u ≠ LamX.CodeO c q) : LamX.Tabs T (L2.upd H a o) := fun p hp => by
  obtain ⟨ps, h1, h2, h3⟩ := t p hp
  refine ⟨ps, ?_, h2, fun pos cv hc => ?_⟩
  · rw [upd_ne fun z => nt ps (Option.some.inj (by rw [← ha, ← z, h1]))]
    exact h1
  · obtain ⟨c, e1, e2⟩ := h3 pos cv hc
    refine ⟨c, e1, ?_⟩
    rw [upd_ne fun z => nc c p.2 (Option.some.inj (by rw [← ha, ← z, e2]))]
    exact e2
theorem ObR.tabs {K : PySem.W.Frag} {H : Hp} {ι : List Addr} {Z : Ads} {o : Ob} {a : Addr} {T : List (Addr × Str)} {u : HO} (r : ObR K H ι Z o a) (t : LamX.Tabs T H) : LamX.Tabs T (L2.upd H a u) := by
  cases o with
  | lst ws =>
    obtain ⟨vs, e, _⟩ := r
    exact Tabs.upd t e (fun _ z => nomatch z) fun _ _ z => by unfold LamX.CodeO at z; cases z
  | _ => exact r.elim

/-! ### an operand: a value, or an object looked at -/
section
variable (K : PySem.W.Frag)
/-- an operand (an own object's address is none of the shared ones) -/
def VP (H : Hp) (ι : List Addr) (Z : Ads) (w : W) (v : V) : Prop := VR K H ι Z w v ∨ ∃ o a, w = o.w ∧ v = .ref a ∧ a ∉ ι ∧ ObR K H ι Z o a
/-- what an operation reads -/
def VB (H : Hp) (ι : List Addr) (Z : Ads) (w : W) (v : V) : Prop := VR K H ι Z w v ∨ ∃ o a, w = o.w ∧ v = .ref a ∧ ObR K H ι Z o a
end
section
variable {K : PySem.W.Frag} {M M' : Ads} {ι ι1 ι2 : List Addr} {Z Z1 Z2 : Ads} {H H1 H2 : Hp} {h h1 : Hw} {σ : L2.St} {τ : Env} {w : W} {v : V}
theorem VP.go (x : HR K H ι Z h) (s : Stp no ι Z H ι1 Z1 H1) (r : VP K H ι Z w v) : VP K H1 ι1 Z1 w v := by
  rcases r with r | ⟨o, a, e1, e2, ni, r⟩
  · exact .inl (VR.go x.fits s w v r)
  · refine .inr ⟨o, a, e1, e2, fun z => ?_, r.go x.fits s ni fun q => q⟩
    rcases s.new a z with z | z | z
    · exact ni z
    · exact r.kind.2.2 z
    · exact z
theorem Ob.w_ref {o : Ob} {n : Nat} : o.w ≠ .ref n := by cases o <;> (intro e; cases e)
theorem view_val {h : Hw} (hw : ∀ n, w ≠ .ref n) : view h w = w := by
  cases w with
  | ref n => exact absurd rfl (hw n)
  | _ => rfl
theorem view_obw {h : Hw} {o : Ob} : view h o.w = o.w := view_val fun _ => Ob.w_ref
theorem VP.view (x : HR K H ι Z h) (r : VP K H ι Z w v) : VB K H ι Z (view h w) v := by
  rcases r with r | ⟨o, a, e1, e2, ni, r⟩
  · cases w with
    | ref n =>
      obtain ⟨a, e, q⟩ := r
      have hn : n < h.length := by rw [← x.len]; exact (List.getElem?_eq_some_iff.mp q).1
      have e3 : h[n]? = some h[n] := List.getElem?_eq_getElem hn
      have ro := x.ob n _ a e3 q
      show VB K H ι Z (match h[n]? with
        | some (.lst ws) => W.lst ws
        | some (.dct ks vs) => W.dct ks vs
        | some (.set ws) => W.set ws
        | _ => W.ref n) v
      rw [e3]
      cases e4 : h[n] with
      | lst ws => rw [e4] at ro; exact .inr ⟨.lst ws, a, rfl, e, ro⟩
      | dct ks vs => rw [e4] at ro; exact ro.elim
      | set ws => rw [e4] at ro; exact ro.elim
      | ins c fs => exact .inl ⟨a, e, q⟩
    | _ => exact .inl r
  · subst e1
    rw [view_obw]
    exact .inr ⟨o, a, rfl, e2, r⟩
theorem VP.of (r : VR K H ι Z w v) : VP K H ι Z w v := .inl r
/-- a list that is read -/
theorem VB.lst {ws : List W} (r : VB K H ι Z (.lst ws) v) : ∃ a vs, v = .ref a ∧ SqL K H a vs ∧ vs.length ≤ sizeLine ∧ VRs K H ι Z ws vs := by
  rcases r with ⟨a, vs, e, q, _, l, r⟩ | ⟨o, a, e1, e2, r⟩
  · exact ⟨a, vs, e, q, l, r⟩
  · cases o with
    | lst us =>
      injection e1 with e1
      subst e1
      obtain ⟨vs, e, l, r⟩ := r
      exact ⟨a, vs, e2, SqL.of e, l, r⟩
    | _ => exact r.elim
theorem VB.tup {ws : List W} (r : VB K H ι Z (.tup ws) v) : ∃ a vs, v = .ref a ∧ SqT K H a vs ∧ vs.length ≤ sizeLine ∧ VRs K H ι Z ws vs := by
  rcases r with r | ⟨o, a, e1, e2, r⟩
  · exact r
  · cases o with
    | lst us => cases e1
    | _ => exact r.elim
theorem VB.int {i : Int} (r : VB K H ι Z (.int i) v) : v = .int i := by
  rcases r with r | ⟨o, a, e1, e2, r⟩
  · exact r
  · cases o with
    | lst us => cases e1
    | _ => exact r.elim
theorem VB.bl {b : Bool} (r : VB K H ι Z (.bl b) v) : v = .bl b := by
  rcases r with r | ⟨o, a, e1, e2, r⟩
  · exact r
  · cases o with
    | lst us => cases e1
    | _ => exact r.elim
theorem VB.str {x : Str} (r : VB K H ι Z (.str x) v) : v = .str x ∧ PyData.strOk x = true ∧ x.length ≤ sizeLine := by
  rcases r with r | ⟨o, a, e1, e2, r⟩
  · exact r
  · cases o with
    | lst us => cases e1
    | _ => exact r.elim
theorem VB.non (r : VB K H ι Z .non v) : v = .non := by
  rcases r with r | ⟨o, a, e1, e2, r⟩
  · exact r
  · cases o with
    | lst us => cases e1
    | _ => exact r.elim
theorem VP.non_iff (r : VP K H ι Z w v) : isN w = decide (v = .non) := by
  rcases r with r | ⟨o, a, e1, e2, _, r⟩
  · cases w with
    | non => cases r; rfl
    | bl b => cases r; rfl
    | int i => cases r; rfl
    | str x => obtain ⟨e, _⟩ := r; subst e; rfl
    | tup ws => obtain ⟨a, vs, e, _⟩ := r; subst e; rfl
    | lst ws => obtain ⟨a, vs, e, _⟩ := r; subst e; rfl
    | dct ks vs => exact r.elim
    | set ws => exact r.elim
    | ref n => obtain ⟨a, e, _⟩ := r; subst e; rfl
  · cases o with
    | lst us => subst e1 e2; rfl
    | _ => exact r.elim
end
end Bd
/-! Operations on values: what the model does is what the small language says. -/
namespace Bd
open PySem PySem.Spec PyProof.Rows L2

/-- an exception as it flies (to be widened) -/
def XR (c : Str) (ws : List W) (cls : Value) (d : Option Addr) (H : Hp) (ι : List Addr) (Z : Ads) : Prop := False
abbrev Rel (α β : Type) := Hp → List Addr → Ads → α → β → Prop
/-- an answer of the small language, as what is wanted in the model -/
def Ps {α β : Type} (K : PySem.W.Frag) (RA : Rel α β) (Wx : WX) (σ : L2.St) (ι : List Addr) (Z : Ads) (H : Hp) (r : R α) (Q : β → Hp → Prop) : Prop := match r with
  | .ok a h' => ∀ ι' Z' H' b, Stp no ι Z H ι' Z' H' → HR K H' ι' Z' h' → RA H' ι' Z' a b → Q b H'
  | .exc c ws h' => ∀ ι' Z' H' cls d, Stp no ι Z H ι' Z' H' → HR K H' ι' Z' h' → XR c ws cls d H' ι' Z' → Wx cls d σ H'
  | .bad => False
section
variable {K : PySem.W.Frag} {α β γ δ : Type} {RA : Rel α β} {RC : Rel γ δ} {Wx : WX} {σ : L2.St} {ι ι1 : List Addr} {Z Z1 : Ads} {H H1 : Hp} {h h1 : Hw}
theorem Ps.imp {r : R α} {Q Q' : β → Hp → Prop} (p : Ps K RA Wx σ ι Z H r Q) (i : ∀ b H', Q b H' → Q' b H') : Ps K RA Wx σ ι Z H r Q' := by
  cases r with
  | ok a h' => exact fun ι' Z' H' b s x y => i _ _ (p ι' Z' H' b s x y)
  | exc c ws h' => exact p
  | bad => exact p
theorem Ps.later {r : R α} {Q : β → Hp → Prop} (p : Ps K RA Wx σ ι Z H r Q) (s : Stp no ι Z H ι1 Z1 H1) : Ps K RA Wx σ ι1 Z1 H1 r Q := by
  cases r with
  | ok a h' => exact fun ι' Z' H' b t x y => p ι' Z' H' b (s.trans0 t) x y
  | exc c ws h' => exact fun ι' Z' H' cls d t x y => p ι' Z' H' cls d (s.trans0 t) x y
  | bad => exact p
/-- a first step, then the rest -/
theorem Ps.bind {r : R α} {f : α → Hw → R γ} {Q : δ → Hp → Prop} (p : Ps K RC Wx σ ι Z H (r.bind f) Q) :
    Ps K RA Wx σ ι Z H r fun b H1 => ∃ ι1 Z1 h1 a, Stp no ι Z H ι1 Z1 H1 ∧ HR K H1 ι1 Z1 h1 ∧ RA H1 ι1 Z1 a b ∧ Ps K RC Wx σ ι1 Z1 H1 (f a h1) Q := by
  cases r with
  | ok a h' => exact fun ι' Z' H' b s x y => ⟨ι', Z', h', a, s, x, y, p.later s⟩
  | exc c ws h' => exact p
  | bad => exact p
/-- weaker relations -/
theorem Ps.rel {RA' : Rel α β} {r : R α} {Q : β → Hp → Prop} (p : Ps K RA Wx σ ι Z H r Q) (i : ∀ ι' Z' H' a b, Stp no ι Z H ι' Z' H' → RA' H' ι' Z' a b → RA H' ι' Z' a b) : Ps K RA' Wx σ ι Z H r Q := by
  cases r with
  | ok a h' => exact fun ι' Z' H' b s x y => p ι' Z' H' b s x (i _ _ _ _ _ s y)
  | exc c ws h' => exact p
  | bad => exact p
theorem Ps.of_some {o : Option α} {h : Hw} {Q : β → Hp → Prop} (p : Ps K RA Wx σ ι Z H (.of o h) Q) : ∃ a, o = some a ∧ Ps K RA Wx σ ι Z H (.ok a h) Q := by
  cases o with
  | none => exact False.elim p
  | some a => exact ⟨a, rfl, p⟩
end

section
variable (K : PySem.W.Frag)
/-- an object that was not there at H0, and that nothing else holds -/
def VF (H0 : Hp) (H : Hp) (ι : List Addr) (Z : Ads) (w : W) (v : V) : Prop := ∃ o a, w = o.w ∧ v = .ref a ∧ H0 a = none ∧ a ∉ ι ∧ ¬ Z a ∧ ObR K H ι Z o a
/-- an answer: a value, or an object that was not there at H0 -/
def VN (H0 : Hp) (H : Hp) (ι : List Addr) (Z : Ads) (w : W) (v : V) : Prop := VR K H ι Z w v ∨ ∃ o a, w = o.w ∧ v = .ref a ∧ H0 a = none ∧ a ∉ ι ∧ ¬ Z a ∧ ObR K H ι Z o a
end
section
variable {K : PySem.W.Frag} {ι ι1 : List Addr} {Z Z1 : Ads} {H H0 H1 : Hp} {h h1 : Hw} {w : W} {v : V}
theorem VN.vp (r : VN K H0 H ι Z w v) : VP K H ι Z w v := by
  rcases r with r | ⟨o, a, e1, e2, _, ni, _, r⟩
  · exact .inl r
  · exact .inr ⟨o, a, e1, e2, ni, r⟩
/-- the object is never changed again -/
theorem VN.frz (x : HR K H ι Z h) (r : VN K H0 H ι Z w v) : ∃ Z', Stp no ι Z H ι Z' H ∧ (∀ a, Z' a → Z a ∨ H0 a = none) ∧ HR K H ι Z' h ∧ VR K H ι Z' w v ∨ (∃ a, Z' = (fun b => Z b ∨ b = a) ∧ H0 a = none ∧ HR K H ι Z' h ∧ VR K H ι Z' w v) := by
  rcases r with r | ⟨o, a, e1, e2, hn, ni, nz, r⟩
  · exact ⟨Z, .inl ⟨Stp.refl, fun _ q => .inl q, x, r⟩⟩
  · refine ⟨fun b => Z b ∨ b = a, .inr ⟨a, rfl, hn, x.frozen r.kind.2.2 ni, ?_⟩⟩
    have r2 := r.z (Z' := fun b => Z b ∨ b = a) fun _ q => .inl q
    cases o with
    | lst ws =>
      subst e1 e2
      obtain ⟨vs, e, l, q⟩ := r2
      exact ⟨a, vs, rfl, SqL.of e, .inl (.inr rfl), l, q⟩
    | _ => exact r2.elim
end

/-! ### data -/
section
variable {K : PySem.W.Frag} {ι : List Addr} {Z : Ads} {H : Hp}
mutual
theorem VR.dp : ∀ (w : W) (v : V) (d : PyData), VR K H ι Z w v → toPy w = some d → Dp K H v d ∧ d.canLay0 = true
  | .non, v, d, r, e => by
    cases r
    cases e
    exact ⟨.non, rfl⟩
  | .bl b, v, d, r, e => by
    cases r
    cases e
    exact ⟨.bl b, rfl⟩
  | .int b, v, d, r, e => by
    cases r
    cases e
    exact ⟨.int b, rfl⟩
  | .str x, v, d, ⟨r, k, _⟩, e => by
    cases r
    cases e
    exact ⟨.str x, k⟩
  | .tup ws, v, d, ⟨a, vs, r, q, _, t⟩, e => by
    subst r
    have e' : (toPys ws).map PyData.tuple = some d := e
    cases e2 : toPys ws with
    | none => rw [e2] at e'; cases e'
    | some ds =>
      rw [e2] at e'
      cases e'
      obtain ⟨h1, h2⟩ := VRs.dp ws vs ds t e2
      exact ⟨.tup q h1, h2⟩
  | .lst ws, v, d, ⟨a, vs, r, q, _, _, t⟩, e => by
    subst r
    have e' : (toPys ws).map PyData.list = some d := e
    cases e2 : toPys ws with
    | none => rw [e2] at e'; cases e'
    | some ds =>
      rw [e2] at e'
      cases e'
      obtain ⟨h1, h2⟩ := VRs.dp ws vs ds t e2
      exact ⟨.lst q h1, h2⟩
  | .dct _ _, _, _, r, _ => r.elim
  | .set _, _, _, r, _ => r.elim
  | .ref _, _, _, _, e => by cases e
theorem VRs.dp : ∀ (ws : List W) (vs : List V) (ds : List PyData), VRs K H ι Z ws vs → toPys ws = some ds → DpAll K H vs ds ∧ PyData.canLayAll0 ds = true
  | [], vs, ds, r, e => by
    cases r
    cases e
    exact ⟨.nil, rfl⟩
  | w :: ws, vs, ds, ⟨v, us, r, q, t⟩, e => by
    subst r
    have e' : (match toPy w, toPys ws with
      | some d, some ds => some (d :: ds)
      | _, _ => none) = some ds := e
    cases e1 : toPy w with
    | none => rw [e1] at e'; cases e'
    | some d =>
      cases e2 : toPys ws with
      | none => rw [e1, e2] at e'; cases e'
      | some ds' =>
        rw [e1, e2] at e'
        cases e'
        obtain ⟨h1, h2⟩ := VR.dp w v d q e1
        obtain ⟨h3, h4⟩ := VRs.dp ws us ds' t e2
        exact ⟨.cons h1 h3, by show (d.canLay0 && PyData.canLayAll0 ds') = true; rw [h2, h4]; rfl⟩
end
theorem VB.dp {w : W} {v : V} {d : PyData} (r : VB K H ι Z w v) (e : toPy w = some d) : Dp K H v d ∧ d.canLay0 = true := by
  rcases r with r | ⟨o, a, e1, e2, r⟩
  · exact VR.dp w v d r e
  · cases o with
    | lst ws =>
      subst e1 e2
      obtain ⟨vs, q, _, t⟩ := r
      have e' : (toPys ws).map PyData.list = some d := e
      cases e3 : toPys ws with
      | none => rw [e3] at e'; cases e'
      | some ds =>
        rw [e3] at e'
        cases e'
        obtain ⟨h1, h2⟩ := VRs.dp ws vs ds t e3
        exact ⟨.lst (SqL.of q) h1, h2⟩
    | _ => exact r.elim
/-- what == asks -/
theorem eqW_some {a b : W} {k : Bool} (e : eqW a b = some k) : ∃ d f, toPy a = some d ∧ toPy b = some f ∧ d.depth ≤ 64 ∧ f.depth ≤ 64 ∧ k = PyData.eqv d f := by
  unfold eqW at e
  cases e1 : toPy a with
  | none => rw [e1] at e; cases e
  | some d =>
    cases e2 : toPy b with
    | none => rw [e1, e2] at e; cases e
    | some f =>
      rw [e1, e2] at e
      dsimp only at e
      split at e
      · rename_i q
        cases e
        exact ⟨d, f, rfl, rfl, q.1, q.2, rfl⟩
      · cases e
theorem shaped_of {d : PyData} (h1 : d.canLay0 = true) (h2 : d.depth ≤ 64) : SeqAt.shaped d = true := by
  unfold SeqAt.shaped
  rw [h1, decide_eq_true h2]
  rfl
end

theorem strOk_app {a b : Str} (h1 : PyData.strOk a = true) (h2 : PyData.strOk b = true) : PyData.strOk (a ++ b) = true := by
  show (a.cps ++ b.cps).all _ = true
  rw [Array.all_append]
  rw [show a.cps.all _ = true from h1, show b.cps.all _ = true from h2]
  rfl
theorem str_app_length (a b : Str) : (a ++ b).length = a.length + b.length := by
  show (a.cps ++ b.cps).size = _
  rw [Array.size_append]
  rfl

/-! ### what an operation gives -/
section
variable (K : PySem.W.Frag)
/-- an operation on two operands -/
def rOp2 (f : W → W → Option W) : R2 := fun x y H Q => ∃ ι Z h u v w, HR K H ι Z h ∧ VB K H ι Z u x ∧ VB K H ι Z v y ∧ f u v = some w ∧
  ∀ H' z, Stp no ι Z H ι Z H' → HR K H' ι Z h → VN K H H' ι Z w z → Q z H'
end
section
variable {X : Cx} {pins : List (Addr × Obj)} {σ : L2.St} {H : Hp} {s : Shared}
/-- a new list, a new tuple -/
theorem new_lstF {K : PySem.W.Frag} {ι : List Addr} {Z : Ads} {h : Hw} {ws : List W} {vs : List V} {p : Addr} {Q : V → Hp → Prop} (x : HR K H ι Z h) (hp : H p = none) (l : vs.length ≤ sizeLine) (r : VRs K H ι Z ws vs)
    (q : ∀ H' z, Stp no ι Z H ι Z H' → HR K H' ι Z h → VF K H H' ι Z (.lst ws) z → Q z H') : Q (.ref p) (upd H p (.lst vs)) := by
  have st : Stp no ι Z H ι Z (upd H p (.lst vs)) := Stp.laid hp
  refine q _ _ st (x.laid hp) ⟨.lst ws, p, rfl, rfl, hp, fun hi => ?_, fun hz => x.zin p hz hp, ⟨vs, upd_same, l, VRs.go x.fits st ws vs r⟩⟩
  obtain ⟨_, o, _, _, ro⟩ := x.atA hi
  exact ro.kind.2.2 hp
theorem new_lst {K : PySem.W.Frag} {ι : List Addr} {Z : Ads} {h : Hw} {ws : List W} {vs : List V} {p : Addr} {Q : V → Hp → Prop} (x : HR K H ι Z h) (hp : H p = none) (l : vs.length ≤ sizeLine) (r : VRs K H ι Z ws vs)
    (q : ∀ H' z, Stp no ι Z H ι Z H' → HR K H' ι Z h → VN K H H' ι Z (.lst ws) z → Q z H') : Q (.ref p) (upd H p (.lst vs)) := by
  have st : Stp no ι Z H ι Z (upd H p (.lst vs)) := Stp.laid hp
  refine q _ _ st (x.laid hp) (.inr ⟨.lst ws, p, rfl, rfl, hp, fun hi => ?_, fun hz => x.zin p hz hp, ⟨vs, upd_same, l, VRs.go x.fits st ws vs r⟩⟩)
  obtain ⟨_, o, _, _, ro⟩ := x.atA hi
  exact ro.kind.2.2 hp
theorem new_tup {K : PySem.W.Frag} {ι : List Addr} {Z : Ads} {h : Hw} {ws : List W} {vs : List V} {p : Addr} {Q : V → Hp → Prop} (x : HR K H ι Z h) (hp : H p = none) (l : vs.length ≤ sizeLine) (r : VRs K H ι Z ws vs)
    (q : ∀ H' z, Stp no ι Z H ι Z H' → HR K H' ι Z h → VN K H H' ι Z (.tup ws) z → Q z H') : Q (.ref p) (upd H p (.tup vs)) := by
  have st : Stp no ι Z H ι Z (upd H p (.tup vs)) := Stp.laid hp
  exact q _ _ st (x.laid hp) (.inl ⟨p, vs, rfl, SqT.of upd_same, l, VRs.go x.fits st ws vs r⟩)
end
section
variable {X : Cx}
/-- lists that are read only: + -/
def rCatL (K : PySem.W.Frag) : R2 := fun x y H Q => ∃ l b xs zs, x = .ref l ∧ y = .ref b ∧ SqL K H l xs ∧ SqL K H b zs ∧ xs.length + zs.length ≤ sizeLine ∧ ∀ p, H p = none → Q (.ref p) (upd H p (.lst (xs ++ zs)))
theorem op_catL : OpR X (binaryOp .Add) (rCatL X.K) := by
  intro pins s σ H x y v u Q I rx ry ⟨l, b, xs, zs, ex, ey, h1, h2, hz, q⟩
  subst ex ey
  cases rx
  cases ry
  obtain ⟨its, r, e, _⟩ := Inv.list I h1
  obtain ⟨its2, r2, e2, _⟩ := Inv.list I h2
  have l1 := r.length
  have l2 := r2.length
  obtain ⟨⟨cls, dd, data, sl⟩, n, ho, hc, _, hd⟩ := e
  obtain ⟨⟨cls2, dd2, data2, sl2⟩, n2, ho2, hc2, _, hd2⟩ := e2
  simp only at hc hd hc2 hd2
  subst hc hd hc2 hd2
  have e : its.toArray ++ its2.toArray = (its ++ its2).toArray := by simp
  refine concat_meets ⟨_, ho, rfl⟩ ⟨_, ho2, rfl⟩ noFill_list_add seq_list_add PySem.F.slot_list_add PySem.F.entry_list_add (PySem.F.args_list_add_2 _ _) (list_addW l b its.toArray its2.toArray n n2 dd dd2 sl sl2 (by simp; omega)) ⟨ho, ho2, ?_⟩
  rw [e]
  exact ⟨.ref _, _, I.lnew (t' := s.toks) (r.append r2) (by rw [List.length_append]; omega), rfl, q _ I.fresh⟩
end
/-- the operators that + .. ** stand for -/
def Bop.ast : Bop → Operator
  | .add => .Add
  | .sub => .Sub
  | .mul => .Mult
  | .fdiv => .FloorDiv
  | .mod => .Mod
  | .pow => .Pow
section
variable {X : Cx}
theorem op_bin (o : Bop) : OpR X (binaryOp o.ast) (rOp2 X.K (binW o)) := by
  intro pins s σ H x y v u Q I rx ry ⟨ι, Z, h, a, b, w, hr, ra, rb, e, q⟩
  have one : ∀ z, VR X.K H ι Z w z → Q z H := fun z r => q H z Stp.refl hr (.inl r)
  unfold binW at e
  split at e
  case h_1 =>
    cases e
    rw [ra.int] at rx; rw [rb.int] at ry
    exact op_add pins s σ H _ _ v u Q I rx ry ⟨_, _, rfl, rfl, one _ rfl⟩
  case h_2 =>
    split at e
    · rename_i hz
      cases e
      obtain ⟨e1, k1, _⟩ := ra.str
      obtain ⟨e2, k2, _⟩ := rb.str
      rw [e1] at rx; rw [e2] at ry
      exact op_add_str pins s σ H _ _ v u Q I rx ry ⟨_, _, rfl, rfl, hz, one _ ⟨rfl, strOk_app k1 k2, by rw [str_app_length]; exact hz⟩⟩
    · cases e
  case h_3 =>
    split at e
    · rename_i hz
      cases e
      obtain ⟨p, xs, e1, h1, l1, r1⟩ := ra.tup
      obtain ⟨p2, ys, e2, h2, l2, r2⟩ := rb.tup
      rw [e1] at rx; rw [e2] at ry
      have n1 := r1.length
      have n2 := r2.length
      have hz' : xs.length + ys.length ≤ sizeLine := by omega
      refine op_catA pins s σ H _ _ v u Q I rx ry ⟨_, _, xs, ys, rfl, rfl, h1, h2, hz', fun e => ?_, fun _ e => ?_, fun _ _ p hp => ?_⟩
      · refine one _ ⟨_, ys, rfl, h2, l2, ?_⟩
        have : (xs ++ ys) = ys := by rw [e]; rfl
        rw [← this]; exact r1.app r2
      · refine one _ ⟨_, xs, rfl, h1, l1, ?_⟩
        have : (xs ++ ys) = xs := by rw [e]; simp
        rw [← this]; exact r1.app r2
      · exact new_tup hr hp (by rw [List.length_append]; exact hz') (r1.app r2) q
    · cases e
  case h_4 =>
    split at e
    · rename_i hz
      cases e
      obtain ⟨p, xs, e1, h1, l1, r1⟩ := ra.lst
      obtain ⟨p2, ys, e2, h2, l2, r2⟩ := rb.lst
      rw [e1] at rx; rw [e2] at ry
      have n1 := r1.length
      have n2 := r2.length
      have hz' : xs.length + ys.length ≤ sizeLine := by omega
      exact op_catL pins s σ H _ _ v u Q I rx ry ⟨_, _, xs, ys, rfl, rfl, h1, h2, hz', fun p hp => new_lst hr hp (by rw [List.length_append]; exact hz') (r1.app r2) q⟩
    · cases e
  case h_5 =>
    cases e
    rw [ra.int] at rx; rw [rb.int] at ry
    exact op_sub pins s σ H _ _ v u Q I rx ry ⟨_, _, rfl, rfl, one _ rfl⟩
  case h_6 =>
    split at e
    · rename_i hz
      cases e
      rw [ra.int] at rx; rw [rb.int] at ry
      exact op_mul pins s σ H _ _ v u Q I rx ry ⟨_, _, rfl, rfl, hz, one _ rfl⟩
    · cases e
  case h_7 =>
    split at e
    · rename_i hz
      cases e
      rw [ra.int] at rx; rw [rb.int] at ry
      exact op_fdivN pins s σ H _ _ v u Q I rx ry ⟨_, _, rfl, rfl, hz, one _ rfl⟩
    · cases e
  case h_8 =>
    split at e
    · rename_i hz
      cases e
      rw [ra.int] at rx; rw [rb.int] at ry
      exact op_modN pins s σ H _ _ v u Q I rx ry ⟨_, _, rfl, rfl, hz, one _ rfl⟩
    · cases e
  case h_9 =>
    split at e
    · rename_i hz
      cases e
      rw [ra.int] at rx; rw [rb.int] at ry
      exact op_pow pins s σ H _ _ v u Q I rx ry ⟨_, _, rfl, rfl, hz, one _ rfl⟩
    · cases e
  case h_10 => cases e
end

/-! ### comparisons -/
def Cop.ast : Cop → CmpOp
  | .eq => .Eq
  | .ne => .NotEq
  | .lt => .Lt
  | .le => .LtE
  | .gt => .Gt
  | .ge => .GtE
  | .isin => .In
  | .notin => .NotIn
section
variable (K : PySem.W.Frag)
def rOpB (f : W → W → Option Bool) : R2 := fun x y H Q => ∃ ι Z h u v k, HR K H ι Z h ∧ VB K H ι Z u x ∧ VB K H ι Z v y ∧ f u v = some k ∧ Q (.bl k) H
end
theorem eqW_flat {K : PySem.W.Frag} {H : Hp} {ι : List Addr} {Z : Ads} {w : W} {v : V} (r : VR K H ι Z w v) (f : flatW w = true) : flatV v = true ∧ ∃ d, toPy w = some d := by
  cases w with
  | non => cases r; exact ⟨rfl, _, rfl⟩
  | bl b => cases r; exact ⟨rfl, _, rfl⟩
  | int b => cases r; exact ⟨rfl, _, rfl⟩
  | str b => obtain ⟨e, _⟩ := r; subst e; exact ⟨rfl, _, rfl⟩
  | _ => cases f
theorem eqV_flat {K : PySem.W.Frag} {H : Hp} {ι : List Addr} {Z : Ads} {a b : W} {x y : V} (r : VR K H ι Z a x) (q : VR K H ι Z b y) (f : flatW a = true) (g : flatW b = true) : eqW a b = some (eqV x y) := by
  cases a with
  | non => cases r; cases b with
    | non => cases q; rfl
    | bl b => cases q; rfl
    | int b => cases q; rfl
    | str b => obtain ⟨e, _⟩ := q; subst e; rfl
    | _ => cases g
  | bl c => cases r; cases b with
    | non => cases q; rfl
    | bl b => cases q; rfl
    | int b => cases q; rfl
    | str b => obtain ⟨e, _⟩ := q; subst e; rfl
    | _ => cases g
  | int c => cases r; cases b with
    | non => cases q; rfl
    | bl b => cases q; rfl
    | int b => cases q; rfl
    | str b => obtain ⟨e, _⟩ := q; subst e; rfl
    | _ => cases g
  | str c => obtain ⟨e, _⟩ := r; subst e; cases b with
    | non => cases q; rfl
    | bl b => cases q; rfl
    | int b => cases q; rfl
    | str b => obtain ⟨e, _⟩ := q; subst e; rfl
    | _ => cases g
  | _ => cases f
theorem eqV_any {K : PySem.W.Frag} {H : Hp} {ι : List Addr} {Z : Ads} {b : W} {y : V} (q : VR K H ι Z b y) (g : flatW b = true) : ∀ {ws : List W} {vs : List V}, VRs K H ι Z ws vs → ws.all flatW = true →
    vs.all flatV = true ∧ (ws.any fun a => eqW a b == some true) = inV y vs
  | [], _, r, _ => by cases r; exact ⟨rfl, rfl⟩
  | w :: ws, _, ⟨v, us, rfl, r, t⟩, f => by
    rw [List.all_cons, Bool.and_eq_true] at f
    obtain ⟨h1, h2⟩ := eqV_any q g t f.2
    refine ⟨by rw [List.all_cons, (eqW_flat r f.1).1, h1]; rfl, ?_⟩
    rw [List.any_cons, h2, eqV_flat r q f.1 g]
    show ((some (eqV v y) == some true) || inV y us) = (eqV v y || inV y us)
    cases eqV v y <;> rfl
theorem VB.val {K : PySem.W.Frag} {H : Hp} {ι : List Addr} {Z : Ads} {w : W} {v : V} (r : VB K H ι Z w v) (f : flatW w = true) : VR K H ι Z w v := by
  rcases r with r | ⟨o, a, e1, e2, r⟩
  · exact r
  · cases o with
    | lst us => subst e1; cases f
    | _ => exact r.elim
section
variable {X : Cx}
theorem Iv.reads {K : PySem.W.Frag} {pins : List (Addr × Obj)} {σ : L2.St} {H : Hp} {s : Shared} {ι : List Addr} {Z : Ads} {w : W} {v : V} {u : Value} {d : PyData} (I : Inv X pins σ H s) (r : VB X.K H ι Z w v) (ru : RelV v u) (e : toPy w = some d) : ∃ as, Reads s.heap u d as :=
  Dp.reads I d v u (r.dp e).1 ru
theorem ltD_some {d e : PyData} {k : Bool} (h : ltD d e = some k) : PySem.W.alike d e = true ∧ d ≠ .none ∧ d.depth ≤ 64 ∧ k = PySem.W.dataLt d e := by
  unfold ltD at h
  split at h
  · rename_i q
    cases h
    exact ⟨q.1, fun z => (by subst z; exact absurd q.2.1 (by decide)), q.2.2.1, rfl⟩
  · cases h
theorem gtD_some {d e : PyData} {k : Bool} (h : gtD d e = some k) : PySem.W.alike d e = true ∧ d ≠ .none ∧ d.depth ≤ 64 ∧ k = PySem.W.dataLt e d := by
  unfold gtD at h
  split at h
  · rename_i q
    cases h
    exact ⟨q.1, fun z => (by subst z; exact absurd q.2.1 (by decide)), q.2.2.1, rfl⟩
  · cases h
theorem op_cmp (o : Cop) (hu : X.A.units + 65 < cLine) : OpR X (compareOp o.ast) (rOpB X.K (cmpW o)) := by
  intro pins s σ H x y v u Q I rx ry ⟨ι, Z, h, a, b, k, hr, ra, rb, e, q⟩
  have eqq : ∀ {k}, eqW a b = some k → (k = k → Q (.bl k) H) → wpAny (model X.prog X.w) X.A (compareOp .Eq v u) (EP X pins σ Q) X.xe s := fun {k} e q => by
    obtain ⟨d, f, e1, e2, d1, d2, e3⟩ := eqW_some e
    subst e3
    exact op_eqD (by omega) pins s σ H _ _ v u Q I rx ry ⟨d, f, (ra.dp e1).1, (rb.dp e2).1, shaped_of (ra.dp e1).2 d1, shaped_of (rb.dp e2).2 d2, q rfl⟩
  cases o with
  | eq => exact eqq e fun _ => q
  | ne =>
    obtain ⟨k', e', rfl⟩ := Option.map_eq_some_iff.mp e
    obtain ⟨d, f, e1, e2, d1, d2, e3⟩ := eqW_some e'
    subst e3
    exact op_neD (by omega) pins s σ H _ _ v u Q I rx ry ⟨d, f, (ra.dp e1).1, (rb.dp e2).1, shaped_of (ra.dp e1).2 d1, shaped_of (rb.dp e2).2 d2, q⟩
  | lt =>
    have e : ltW a b = some k := e
    unfold ltW at e
    split at e
    · cases e
      rw [ra.int] at rx; rw [rb.int] at ry
      exact op_lt pins s σ H _ _ v u Q I rx ry ⟨_, _, rfl, rfl, q⟩
    · cases e
      rw [ra.str.1] at rx; rw [rb.str.1] at ry
      exact op_lt_str pins s σ H _ _ v u Q I rx ry ⟨_, _, rfl, rfl, q⟩
    · split at e
      · rename_i d f e1 e2
        obtain ⟨h1, h2, h3, h4⟩ := ltD_some e
        subst h4
        obtain ⟨as, r1⟩ := Iv.reads (K := X.K) I ra rx e1
        obtain ⟨bs, r2⟩ := Iv.reads (K := X.K) I rb ry e2
        exact PySem.W.lt_data r1 r2 h1 h2 (by have := Nat.min_le_left d.depth f.depth; omega) ⟨.bl _, H, I, rfl, q⟩
      · cases e
  | gt =>
    have e : gtW a b = some k := e
    unfold gtW at e
    split at e
    · cases e
      rw [ra.int] at rx; rw [rb.int] at ry
      exact op_gt pins s σ H _ _ v u Q I rx ry ⟨_, _, rfl, rfl, q⟩
    · cases e
      rw [ra.str.1] at rx; rw [rb.str.1] at ry
      exact op_gt_str pins s σ H _ _ v u Q I rx ry ⟨_, _, rfl, rfl, q⟩
    · split at e
      · rename_i d f e1 e2
        obtain ⟨h1, h2, h3, h4⟩ := gtD_some e
        subst h4
        obtain ⟨as, r1⟩ := Iv.reads (K := X.K) I ra rx e1
        obtain ⟨bs, r2⟩ := Iv.reads (K := X.K) I rb ry e2
        exact PySem.W.gt_data r1 r2 h1 h2 (by have := Nat.min_le_left d.depth f.depth; omega) ⟨.bl _, H, I, rfl, q⟩
      · cases e
  | le =>
    have e : leW a b = some k := e
    unfold leW at e
    split at e
    · cases e
      rw [ra.int] at rx; rw [rb.int] at ry
      exact op_le pins s σ H _ _ v u Q I rx ry ⟨_, _, rfl, rfl, q⟩
    · cases e
      rw [ra.str.1] at rx; rw [rb.str.1] at ry
      exact op_le_str pins s σ H _ _ v u Q I rx ry ⟨_, _, rfl, rfl, q⟩
    · cases e
  | ge =>
    have e : leW b a = some k := e
    unfold leW at e
    split at e
    · cases e
      rw [ra.int] at rx; rw [rb.int] at ry
      exact op_ge pins s σ H _ _ v u Q I rx ry ⟨_, _, rfl, rfl, q⟩
    · cases e
      rw [ra.str.1] at rx; rw [rb.str.1] at ry
      exact op_ge_str pins s σ H _ _ v u Q I rx ry ⟨_, _, rfl, rfl, q⟩
    · cases e
  | isin =>
    have e : inW a b = some k := e
    unfold inW at e
    split at e
    · split at e
      · rename_i ys z
        cases e
        have qa := ra.val z.1
        obtain ⟨p, xs, e1, h1, l1, r1⟩ := rb.tup
        rw [e1] at ry
        obtain ⟨f1, f2⟩ := eqV_any qa z.1 r1 z.2
        rw [f2] at q
        exact op_in_seq pins s σ H _ _ v u Q I rx ry ⟨p, xs, rfl, .inr h1, (eqW_flat qa z.1).1, f1, q⟩
      · cases e
    · unfold inL at e
      split at e
      · rename_i d ds e1 e2
        split at e
        · rename_i z
          cases e
          have e3 : toPy (.lst _) = some (.list ds) := congrArg (Option.map PyData.list) e2
          exact op_inD hu pins s σ H _ _ v u Q I rx ry ⟨d, ds, (ra.dp e1).1, (rb.dp e3).1, shaped_of (ra.dp e1).2 z.1, shaped_of (rb.dp e3).2 (by show PyData.depthAll ds + 1 ≤ 64; omega), q⟩
        · cases e
      · cases e
    · split at e
      · cases e
        rw [ra.str.1] at rx; rw [rb.str.1] at ry
        exact op_in_str pins s σ H _ _ v u Q I rx ry ⟨_, _, rfl, rfl, q⟩
      · cases e
    · cases e
  | notin =>
    obtain ⟨k', e', rfl⟩ := Option.map_eq_some_iff.mp e
    have e : inW a b = some k' := e'
    unfold inW at e
    split at e
    · split at e
      · rename_i ys z
        cases e
        have qa := ra.val z.1
        obtain ⟨p, xs, e1, h1, l1, r1⟩ := rb.tup
        rw [e1] at ry
        obtain ⟨f1, f2⟩ := eqV_any qa z.1 r1 z.2
        rw [f2] at q
        exact op_notIn_seq pins s σ H _ _ v u Q I rx ry ⟨p, xs, rfl, .inr h1, (eqW_flat qa z.1).1, f1, q⟩
      · cases e
    · unfold inL at e
      split at e
      · rename_i d ds e1 e2
        split at e
        · rename_i z
          cases e
          have e3 : toPy (.lst _) = some (.list ds) := congrArg (Option.map PyData.list) e2
          exact op_notInD hu pins s σ H _ _ v u Q I rx ry ⟨d, ds, (ra.dp e1).1, (rb.dp e3).1, shaped_of (ra.dp e1).2 z.1, shaped_of (rb.dp e3).2 (by show PyData.depthAll ds + 1 ≤ 64; omega), q⟩
        · cases e
      · cases e
    · split at e
      · cases e
        rw [ra.str.1] at rx; rw [rb.str.1] at ry
        exact op_notin_str pins s σ H _ _ v u Q I rx ry ⟨_, _, rfl, rfl, q⟩
      · cases e
    · cases e
end

/-! ### truth -/
theorem VRs.nil_iff {K : PySem.W.Frag} {H : Hp} {ι : List Addr} {Z : Ads} {ws : List W} {vs : List V} (r : VRs K H ι Z ws vs) : ws.isEmpty = vs.isEmpty := by
  cases ws with
  | nil => cases r; rfl
  | cons w ws => obtain ⟨v, us, e, _⟩ := r; subst e; rfl
theorem tru_V {K : PySem.W.Frag} {H : Hp} {ι : List Addr} {Z : Ads} {w : W} {v : V} {k : Bool} (r : VB K H ι Z w v) (e : truW w = some k) : TruV K v H k := by
  cases w with
  | non => cases e; rw [r.non]; rfl
  | bl b => cases e; rw [r.bl]; rfl
  | int i => cases e; rw [r.int]; rfl
  | str x =>
    cases e
    obtain ⟨e1, _, l⟩ := r.str
    rw [e1]
    refine ⟨l, ?_⟩
    show (x.length != 0) = ((x.length : Int) != 0)
    cases h : x.length with
    | zero => rfl
    | succ n =>
      rw [show ((n + 1 : Nat) != 0) = true from rfl]
      symm
      rw [bne_iff_ne]
      omega
  | tup ws =>
    cases e
    obtain ⟨a, vs, e1, h1, _, t⟩ := r.tup
    rw [e1, t.nil_iff]
    exact .inr (.inl ⟨vs, h1, rfl⟩)
  | lst ws =>
    cases e
    obtain ⟨a, vs, e1, h1, _, t⟩ := r.lst
    rw [e1, t.nil_iff]
    exact .inl ⟨vs, h1, rfl⟩
  | dct ks vs =>
    rcases r with r | ⟨o, a, e1, e2, r⟩
    · exact r.elim
    · cases o with
      | lst us => cases e1
      | _ => exact r.elim
  | set ws =>
    rcases r with r | ⟨o, a, e1, e2, r⟩
    · exact r.elim
    · cases o with
      | lst us => cases e1
      | _ => exact r.elim
  | ref n => cases e

/-! ### items, slices -/
theorem atI_get2 {K : PySem.W.Frag} {H : Hp} {ι : List Addr} {Z : Ads} {ws : List W} {vs : List V} {i : Int} {w : W} (r : VRs K H ι Z ws vs) (e : atI ws i = some w) : ∃ v, atI vs i = some v ∧ VR K H ι Z w v := by
  unfold atI at e ⊢
  rw [← r.length]
  cases h : ixN ws.length i with
  | none => rw [h] at e; cases e
  | some j =>
    rw [h] at e
    exact r.get e
section
variable {X : Cx}
def rIxW (K : PySem.W.Frag) : R2 := fun x y H Q => ∃ ι Z h u v w, HR K H ι Z h ∧ VB K H ι Z u x ∧ VB K H ι Z v y ∧ ixW u v = some w ∧ ∀ z, VR K H ι Z w z → Q z H
theorem ix_W : IxR X (rIxW X.K) := by
  intro value slice pins s σ H x y v u Q I rx ry ⟨ι, Z, h, a, b, w, hr, ra, rb, e, q⟩ hs
  unfold ixW at e
  split at e
  · obtain ⟨p, xs, e1, h1, _, t⟩ := ra.tup
    obtain ⟨z, e2, rz⟩ := atI_get2 t e
    rw [e1] at rx; rw [rb.int] at ry
    exact ix_tup value slice pins s σ H _ _ v u Q I rx ry ⟨p, xs, _, z, rfl, rfl, h1, e2, q z rz⟩ hs
  · obtain ⟨p, xs, e1, h1, _, t⟩ := ra.lst
    obtain ⟨z, e2, rz⟩ := atI_get2 t e
    rw [e1] at rx; rw [rb.int] at ry
    exact ix_list value slice pins s σ H _ _ v u Q I rx ry ⟨p, xs, _, z, rfl, rfl, h1, e2, q z rz⟩ hs
  · rename_i xx ii
    obtain ⟨c, e', rfl⟩ := Option.map_eq_some_iff.mp e
    obtain ⟨e1, k, l⟩ := ra.str
    rw [e1] at rx; rw [rb.int] at ry
    refine ix_str value slice pins s σ H _ _ v u Q I rx ry ⟨_, _, c, rfl, rfl, l, e', q _ ⟨rfl, ?_, ?_⟩⟩ hs
    · have hm : c ∈ xx.cps.toList := by
        unfold atI at e'
        cases h2 : ixN xx.cps.toList.length ii with
        | none => rw [h2] at e'; cases e'
        | some j => rw [h2] at e'; exact List.mem_of_getElem? e'
      have k2 : ∀ (i : Nat) (h : i < xx.cps.size), xx.cps[i] < 1114112 := by simpa [PyData.strOk] using k
      obtain ⟨j, hj, e3⟩ := List.getElem_of_mem hm
      have k3 := k2 j (by simpa using hj)
      have e4 : xx.cps[j]'(by simpa using hj) = c := by simpa using e3
      rw [e4] at k3
      simpa [PyData.strOk] using k3
    · show (1 : Nat) ≤ sizeLine
      decide
  · cases e
theorem VRs.cut {K : PySem.W.Frag} {H : Hp} {ι : List Addr} {Z : Ads} {ws : List W} {vs : List V} (r : VRs K H ι Z ws vs) (lo hi : Option Int) : VRs K H ι Z (cutW ws lo hi) (cutV vs lo hi) := by
  unfold cutW cutV
  rw [r.length]
  exact (r.drop _).take _
def rSlW (K : PySem.W.Frag) : V → Option Int → Option Int → Hp → VK → Prop := fun x lo hi H Q => ∃ ι Z h u w, HR K H ι Z h ∧ VB K H ι Z u x ∧ slW u lo hi = some w ∧
  ∀ H' z, Stp no ι Z H ι Z H' → HR K H' ι Z h → VN K H H' ι Z w z → Q z H'
theorem sl_W : SlR X (rSlW X.K) := by
  intro pins s σ H x v vl vu lo hi sl Q I rx hs pl pu ⟨ι, Z, h, a, w, hr, ra, e, q⟩
  unfold slW at e
  split at e
  · cases e
    obtain ⟨p, xs, e1, h1, l, t⟩ := ra.tup
    subst e1
    refine sl_tupA pins s σ H _ v vl vu lo hi sl Q I rx hs pl pu ⟨p, xs, rfl, h1, fun z => ?_, fun _ p hp => ?_⟩
    · refine q H _ Stp.refl hr (.inl ⟨p, xs, rfl, h1, l, ?_⟩)
      have c := t.cut lo hi
      have : cutV xs lo hi = xs := by
        unfold cutV
        rw [z.1, z.2]
        simp
      rw [this] at c
      exact c
    · exact new_tup hr hp (Nat.le_trans (cutV_length _ _ _) l) (t.cut lo hi) q
  · cases e
    obtain ⟨p, xs, e1, h1, l, t⟩ := ra.lst
    subst e1
    exact sl_list pins s σ H _ v vl vu lo hi sl Q I rx hs pl pu ⟨p, xs, rfl, h1, fun p hp => new_lst hr hp (Nat.le_trans (cutV_length _ _ _) l) (t.cut lo hi) q⟩
  · cases e
end
end Bd
/-! Built-in functions on values. -/
namespace Bd
open PySem PySem.Spec PyProof.Rows L2
section
variable (K : PySem.W.Frag)
def VBs (H : Hp) (ι : List Addr) (Z : Ads) : List W → List V → Prop
  | [], vs => vs = []
  | w :: ws, vs => ∃ v us, vs = v :: us ∧ VB K H ι Z w v ∧ VBs H ι Z ws us
def VPs (H : Hp) (ι : List Addr) (Z : Ads) : List W → List V → Prop
  | [], vs => vs = []
  | w :: ws, vs => ∃ v us, vs = v :: us ∧ VP K H ι Z w v ∧ VPs H ι Z ws us
end
section
variable {K : PySem.W.Frag} {H H1 : Hp} {ι ι1 : List Addr} {Z Z1 : Ads} {h : Hw}
theorem VPs.view (x : HR K H ι Z h) : ∀ {ws : List W} {vs : List V}, VPs K H ι Z ws vs → VBs K H ι Z (ws.map (view h)) vs
  | [], _, r => r
  | _ :: _, _, ⟨v, us, e, r, q⟩ => ⟨v, us, e, r.view x, VPs.view x q⟩
theorem VPs.go (x : HR K H ι Z h) (s : Stp no ι Z H ι1 Z1 H1) : ∀ {ws : List W} {vs : List V}, VPs K H ι Z ws vs → VPs K H1 ι1 Z1 ws vs
  | [], _, r => r
  | _ :: _, _, ⟨v, us, e, r, q⟩ => ⟨v, us, e, r.go x s, VPs.go x s q⟩
theorem VBs.one {w : W} {vs : List V} (r : VBs K H ι Z [w] vs) : ∃ v, vs = [v] ∧ VB K H ι Z w v := by
  obtain ⟨v, us, e, q, t⟩ := r
  cases t
  exact ⟨v, e, q⟩
theorem VBs.two {w w' : W} {vs : List V} (r : VBs K H ι Z [w, w'] vs) : ∃ v v', vs = [v, v'] ∧ VB K H ι Z w v ∧ VB K H ι Z w' v' := by
  obtain ⟨v, us, e, q, v', us', e', q', t⟩ := r
  cases t
  subst e'
  exact ⟨v, v', e, q, q'⟩
theorem ints_V : ∀ {ws : List W} {vs : List V} {is : List Int}, VRs K H ι Z ws vs → intsW ws = some is → vs = is.map V.int
  | [], _, _, r, e => by cases r; cases e; rfl
  | w :: ws, _, is, ⟨v, us, e1, r, q⟩, e => by
    subst e1
    unfold intsW at e
    split at e
    · rename_i z; cases z
    · rename_i i ws' z
      cases z
      obtain ⟨js, e2, rfl⟩ := Option.map_eq_some_iff.mp e
      cases r
      rw [ints_V q e2]; rfl
    · cases e
theorem bls_V : ∀ {ws : List W} {vs : List V} {bs : List Bool}, VRs K H ι Z ws vs → blsW ws = some bs → vs = bs.map V.bl
  | [], _, _, r, e => by cases r; cases e; rfl
  | w :: ws, _, is, ⟨v, us, e1, r, q⟩, e => by
    subst e1
    unfold blsW at e
    split at e
    · rename_i z; cases z
    · rename_i i ws' z
      cases z
      obtain ⟨js, e2, rfl⟩ := Option.map_eq_some_iff.mp e
      cases r
      rw [bls_V q e2]; rfl
    · cases e
end
theorem maxI_spec : ∀ {is : List Int}, is ≠ [] → maxI is ∈ is ∧ ∀ y ∈ is, y ≤ maxI is
  | [], h => absurd rfl h
  | [a], _ => ⟨by simp [maxI], fun y hy => by simp at hy; subst hy; exact Int.le_refl _⟩
  | a :: b :: r, _ => by
    obtain ⟨h1, h2⟩ := maxI_spec (is := b :: r) (by simp)
    show max a (maxI (b :: r)) ∈ _ ∧ ∀ y ∈ _, y ≤ max a (maxI (b :: r))
    refine ⟨?_, fun y hy => ?_⟩
    · rcases Int.le_total a (maxI (b :: r)) with q | q
      · rw [Int.max_eq_right q]; exact List.mem_cons_of_mem _ h1
      · rw [Int.max_eq_left q]; exact List.mem_cons_self
    · rcases List.mem_cons.mp hy with rfl | hy
      · exact Int.le_max_left _ _
      · exact Int.le_trans (h2 y hy) (Int.le_max_right _ _)
theorem minI_spec : ∀ {is : List Int}, is ≠ [] → minI is ∈ is ∧ ∀ y ∈ is, minI is ≤ y
  | [], h => absurd rfl h
  | [a], _ => ⟨by simp [minI], fun y hy => by simp at hy; subst hy; exact Int.le_refl _⟩
  | a :: b :: r, _ => by
    obtain ⟨h1, h2⟩ := minI_spec (is := b :: r) (by simp)
    show min a (minI (b :: r)) ∈ _ ∧ ∀ y ∈ _, min a (minI (b :: r)) ≤ y
    refine ⟨?_, fun y hy => ?_⟩
    · rcases Int.le_total a (minI (b :: r)) with q | q
      · rw [Int.min_eq_left q]; exact List.mem_cons_self
      · rw [Int.min_eq_right q]; exact List.mem_cons_of_mem _ h1
    · rcases List.mem_cons.mp hy with rfl | hy
      · exact Int.min_le_left _ _
      · exact Int.le_trans (Int.min_le_right _ _) (h2 y hy)

/-- the built-in's name in the text, and what it is -/
def Bi.nm : Bi → Str
  | .len => "len"
  | .abs => "abs"
  | .int => "int"
  | .str => "str"
  | .list => "list"
  | .tuple => "tuple"
  | .all => "all"
  | .any => "any"
  | .sum => "sum"
  | .max1 => "max"
  | .min1 => "min"
  | .max2 => "max"
  | .min2 => "min"
  | .divmod => "divmod"
def Bi.fn : Bi → Value
  | .len => .builtin "len"
  | .abs => .builtin "abs"
  | .int => .type "int"
  | .str => .type "str"
  | .list => .type "list"
  | .tuple => .type "tuple"
  | .all => .builtin "all"
  | .any => .builtin "any"
  | .sum => .builtin "sum"
  | .max1 => .builtin "max"
  | .min1 => .builtin "min"
  | .max2 => .builtin "max"
  | .min2 => .builtin "min"
  | .divmod => .builtin "divmod"
theorem Bi.boot (b : Bi) : bootBuiltins b.nm = some b.fn := by cases b <;> decide +kernel
theorem Bi.nm_ne (b : Bi) : b.nm ≠ "__name__" ∧ (b.nm == ("__debug__" : Str)) = false := by cases b <;> exact ⟨by decide +kernel, by decide +kernel⟩
theorem Bi.fn_cases (b : Bi) : (∃ id, b.fn = .builtin id) ∨ ∃ t, b.fn = .type t := by cases b <;> first | exact .inl ⟨_, rfl⟩ | exact .inr ⟨_, rfl⟩
def rBi (K : PySem.W.Frag) (b : Bi) : List V → Hp → VK → Prop := fun xs H Q => ∃ ι Z h ws w, HR K H ι Z h ∧ VBs K H ι Z ws xs ∧ biW b ws = some w ∧
  ∀ H' z, Stp no ι Z H ι Z H' → HR K H' ι Z h → VN K H H' ι Z w z → Q z H'
section
variable {X : Cx}
theorem cr_bi (hc : X.calm = true) (b : Bi) : CallR X b.fn (rBi X.K b) := by
  intro pins s σ H xs us Q I rx ⟨ι, Z, h, ws, w, hr, rs, e, q⟩
  have one : ∀ z, VR X.K H ι Z w z → Q z H := fun z r => q H z Stp.refl hr (.inl r)
  unfold biW at e
  split at e
  · -- len of a tuple
    cases e
    obtain ⟨v, rfl, r⟩ := rs.one
    obtain ⟨p, vs, e1, h1, _, t⟩ := r.tup
    subst e1
    exact call_len pins s σ H _ us Q I rx ⟨_, vs.length, rfl, .inr ⟨vs, h1, rfl⟩, one _ (by rw [t.length]; exact rfl)⟩
  · cases e
    obtain ⟨v, rfl, r⟩ := rs.one
    obtain ⟨p, vs, e1, h1, _, t⟩ := r.lst
    subst e1
    exact call_len pins s σ H _ us Q I rx ⟨_, vs.length, rfl, .inl ⟨vs, h1, rfl⟩, one _ (by rw [t.length]; exact rfl)⟩
  · cases e
    obtain ⟨v, rfl, r⟩ := rs.one
    obtain ⟨e1, _, l⟩ := r.str
    subst e1
    exact call_len_str pins s σ H _ us Q I rx ⟨_, rfl, l, one _ rfl⟩
  · cases e
    obtain ⟨v, rfl, r⟩ := rs.one
    cases r.int
    exact call_abs pins s σ H _ us Q I rx ⟨_, rfl, one _ rfl⟩
  · cases e
    obtain ⟨v, rfl, r⟩ := rs.one
    cases r.int
    exact call_int1 pins s σ H _ us Q I rx (.inl ⟨_, rfl, one _ rfl⟩)
  · cases e
    obtain ⟨v, rfl, r⟩ := rs.one
    obtain ⟨p, vs, e1, h1, l, t⟩ := r.tup
    subst e1
    exact call_list_of pins s σ H _ us Q I rx ⟨p, vs, rfl, .inr h1, fun a ha => new_lst hr ha l t q⟩
  · cases e
    obtain ⟨v, rfl, r⟩ := rs.one
    obtain ⟨p, vs, e1, h1, l, t⟩ := r.lst
    subst e1
    exact call_list_of pins s σ H _ us Q I rx ⟨p, vs, rfl, .inl (h1), fun a ha => new_lst hr ha l t q⟩
  · cases e
    obtain ⟨v, rfl, r⟩ := rs.one
    obtain ⟨p, vs, e1, h1, l, t⟩ := r.tup
    subst e1
    exact call_tuple_of pins s σ H _ us Q I rx ⟨p, vs, rfl, .inr ⟨h1, one _ ⟨p, vs, rfl, h1, l, t⟩⟩⟩
  · cases e
    obtain ⟨v, rfl, r⟩ := rs.one
    obtain ⟨p, vs, e1, h1, l, t⟩ := r.lst
    subst e1
    exact call_tuple_of pins s σ H _ us Q I rx ⟨p, vs, rfl, .inl ⟨h1, fun a ha => new_tup hr ha l t q⟩⟩
  · obtain ⟨bs, e2, rfl⟩ := Option.map_eq_some_iff.mp e
    obtain ⟨v, rfl, r⟩ := rs.one
    obtain ⟨p, vs, e1, h1, l, t⟩ := r.lst
    subst e1
    rw [bls_V t e2] at h1
    exact cr_all hc pins s σ H _ us Q I rx ⟨p, bs, rfl, h1, one _ rfl⟩
  · obtain ⟨bs, e2, rfl⟩ := Option.map_eq_some_iff.mp e
    obtain ⟨v, rfl, r⟩ := rs.one
    obtain ⟨p, vs, e1, h1, l, t⟩ := r.lst
    subst e1
    rw [bls_V t e2] at h1
    exact cr_any hc pins s σ H _ us Q I rx ⟨p, bs, rfl, h1, one _ rfl⟩
  · obtain ⟨bs, e2, rfl⟩ := Option.map_eq_some_iff.mp e
    obtain ⟨v, rfl, r⟩ := rs.one
    obtain ⟨p, vs, e1, h1, l, t⟩ := r.lst
    subst e1
    rw [ints_V t e2] at h1
    exact cr_sum hc pins s σ H _ us Q I rx ⟨p, bs, rfl, h1, one _ rfl⟩
  · obtain ⟨is, e2, e3⟩ := Option.bind_eq_some_iff.mp e
    split at e3
    · cases e3
    · rename_i ne
      cases e3
      obtain ⟨v, rfl, r⟩ := rs.one
      obtain ⟨p, vs, e1, h1, l, t⟩ := r.lst
      subst e1
      rw [ints_V t e2] at h1
      refine cr_max hc pins s σ H _ us Q I rx ⟨p, is, rfl, h1, List.length_pos_iff.mpr ne, fun m hm hy => ?_⟩
      obtain ⟨g1, g2⟩ := maxI_spec ne
      have : m = maxI is := Int.le_antisymm (g2 m hm) (hy _ g1)
      subst this
      exact one _ rfl
  · obtain ⟨is, e2, e3⟩ := Option.bind_eq_some_iff.mp e
    split at e3
    · cases e3
    · rename_i ne
      cases e3
      obtain ⟨v, rfl, r⟩ := rs.one
      obtain ⟨p, vs, e1, h1, l, t⟩ := r.lst
      subst e1
      rw [ints_V t e2] at h1
      refine cr_min hc pins s σ H _ us Q I rx ⟨p, is, rfl, h1, List.length_pos_iff.mpr ne, fun m hm hy => ?_⟩
      obtain ⟨g1, g2⟩ := minI_spec ne
      have : m = minI is := Int.le_antisymm (hy _ g1) (g2 m hm)
      subst this
      exact one _ rfl
  · cases e
    obtain ⟨v, v', rfl, r, r'⟩ := rs.two
    cases r.int
    cases r'.int
    exact call_max2 hc pins s σ H _ us Q I rx ⟨_, _, rfl, one _ rfl⟩
  · cases e
    obtain ⟨v, v', rfl, r, r'⟩ := rs.two
    cases r.int
    cases r'.int
    exact call_min2 hc pins s σ H _ us Q I rx ⟨_, _, rfl, one _ rfl⟩
  · split at e
    · rename_i z
      cases e
      obtain ⟨v, v', rfl, r, r'⟩ := rs.two
      cases r.int
      cases r'.int
      exact call_divmod pins s σ H _ us Q I rx ⟨_, _, rfl, z, fun p hp => new_tup hr hp (by show 2 ≤ sizeLine; decide) (show VRs X.K H ι Z [.int _, .int _] [V.int _, V.int _] from ⟨_, _, rfl, rfl, _, _, rfl, rfl, rfl⟩) q⟩
    · cases e
  · cases e

/-! ### isinstance -/
def Ty.nm : Ty → String
  | .int => "int"
  | .bool => "bool"
  | .str => "str"
  | .tuple => "tuple"
  | .list => "list"
def Ty.sn : Ty → Str
  | .int => "int"
  | .bool => "bool"
  | .str => "str"
  | .tuple => "tuple"
  | .list => "list"
theorem Ty.boot (t : Ty) : bootBuiltins t.sn = some (.type t.nm) := by cases t <;> decide +kernel
theorem Ty.sn_ne (t : Ty) : t.sn ≠ "__name__" ∧ (t.sn == ("__debug__" : Str)) = false := by cases t <;> exact ⟨by decide +kernel, by decide +kernel⟩
def isTyN : Ty → String → Bool
  | .int, c => c == "int" || c == "bool"
  | t, c => c == t.nm
theorem kit_isTy {K : PySem.W.Frag} {w : W} {c : String} (t : Ty) (e : clsW w = some c) : PySem.W.kitOne K (.type c) (.type t.nm) = some (isTy t w) := by
  cases w with
  | non => cases e; cases t <;> exact kit_ty (by decide +kernel)
  | bl b =>
    cases e
    have k : ∀ t : Ty, kitB "bool" t.nm = some (isTyN t "bool") := fun t => by cases t <;> decide +kernel
    rw [kit_ty (k t)]
    cases t <;> rfl
  | int i =>
    cases e
    have k : ∀ t : Ty, kitB "int" t.nm = some (isTyN t "int") := fun t => by cases t <;> decide +kernel
    rw [kit_ty (k t)]
    cases t <;> rfl
  | str x =>
    cases e
    have k : ∀ t : Ty, kitB "str" t.nm = some (isTyN t "str") := fun t => by cases t <;> decide +kernel
    rw [kit_ty (k t)]
    cases t <;> rfl
  | tup ws =>
    cases e
    have k : ∀ t : Ty, kitB "tuple" t.nm = some (isTyN t "tuple") := fun t => by cases t <;> decide +kernel
    rw [kit_ty (k t)]
    cases t <;> rfl
  | lst ws =>
    cases e
    have k : ∀ t : Ty, kitB "list" t.nm = some (isTyN t "list") := fun t => by cases t <;> decide +kernel
    rw [kit_ty (k t)]
    cases t <;> rfl
  | _ => cases e
theorem VB.ty {K : PySem.W.Frag} {H : Hp} {ι : List Addr} {Z : Ads} {w : W} {v : V} (r : VB K H ι Z w v) (n : ∀ k, w ≠ .ref k) : ∃ c, clsW w = some c ∧ TyX K H v (.type c) := by
  cases w with
  | non => cases r.non; exact ⟨_, rfl, .base .non⟩
  | bl b => cases r.bl; exact ⟨_, rfl, .base (.bl b)⟩
  | int i => cases r.int; exact ⟨_, rfl, .base (.int i)⟩
  | str x => cases r.str.1; exact ⟨_, rfl, .base (.str x)⟩
  | tup ws =>
    obtain ⟨a, vs, e, h1, _⟩ := r.tup
    subst e
    rcases h1 with (h1 | ⟨o, h1⟩) | ⟨o, its, k, h1, h2, _⟩
    · exact ⟨_, rfl, .base (.tup h1)⟩
    · exact ⟨_, rfl, .fTuple h1⟩
    · exact ⟨_, rfl, .kTuple h1 h2⟩
  | lst ws =>
    obtain ⟨a, vs, e, h1, _⟩ := r.lst
    subst e
    rcases h1 with (h1 | ⟨o, h1⟩) | ⟨o, its, k, h1, h2, _⟩
    · exact ⟨_, rfl, .base (.lst h1)⟩
    · exact ⟨_, rfl, .base (.frz h1)⟩
    · exact ⟨_, rfl, .kList h1 h2⟩
  | dct ks vs =>
    rcases r with r | ⟨o, a, e1, e2, r⟩
    · exact r.elim
    · cases o with
      | lst us => cases e1
      | _ => exact r.elim
  | set ws =>
    rcases r with r | ⟨o, a, e1, e2, r⟩
    · exact r.elim
    · cases o with
      | lst us => cases e1
      | _ => exact r.elim
  | ref k => exact absurd rfl (n k)
theorem kit_any {K : PySem.W.Frag} {w : W} {c : String} (e : clsW w = some c) : ∀ ts : List Ty, PySem.W.kitAny K (.type c) (ts.map fun (t : Ty) => Value.type t.nm) = some (ts.any fun t => isTy t w)
  | [] => rfl
  | t :: ts => by
    show (match PySem.W.kitOne K (.type c) (.type t.nm) with
      | some true => some true
      | some false => PySem.W.kitAny K (.type c) (ts.map fun (t : Ty) => Value.type t.nm)
      | none => none) = _
    rw [kit_isTy t e]
    cases h : isTy t w with
    | true => simp [h]
    | false => simp [h, kit_any e ts]
theorem cls_all : ∀ ts : List Ty, Paired ClsV (ts.map fun (t : Ty) => V.ty t.nm) (ts.map fun (t : Ty) => Value.type t.nm)
  | [] => .nil
  | t :: ts => .cons (.ty _) (cls_all ts)
end
end Bd
/-! Expressions: the model does what the small language says. -/
namespace Bd
open PySem PySem.Spec PyProof.Rows L2

theorem pe_imp {X : Cx} {e : Expr} {t t' : TE} (p : PE X e t) (i : ∀ σ H Q, t' σ H Q → t σ H Q) : PE X e t' := ⟨fun pins s σ H Q I h => p.run pins s σ H Q I (i σ H Q h)⟩
theorem pt_imp {X : Cx} {e : Expr} {t t' : TT} (p : PT X e t) (i : ∀ σ H Q, t' σ H Q → t σ H Q) : PT X e t' := ⟨fun pins s σ H Q I h => p.run pins s σ H Q I (i σ H Q h)⟩
theorem pw_imp {X : Cx} {e : Expr} {t t' : TT} (p : PW X e t) (i : ∀ σ H Q, t' σ H Q → t σ H Q) : PW X e t' := ⟨fun w pins s σ H Q I h => p.run w pins s σ H Q I (i σ H Q h)⟩
theorem pa_imp {X : Cx} {e : List Expr} {t t' : TA} (p : PA X e t) (i : ∀ σ H Q, t' σ H Q → t σ H Q) : PA X e t' := ⟨fun po pins s σ H Q I h => p.run po pins s σ H Q I (i σ H Q h)⟩
theorem po_imp {X : Cx} {e : Option Expr} {t t' : TO} (p : PO X e t) (i : ∀ σ H Q, t' σ H Q → t σ H Q) : PO X e t' := ⟨fun pins s σ H Q I h => p.run pins s σ H Q I (i σ H Q h)⟩
theorem pi_imp {X : Cx} {tg e : Expr} {t t' : TI} (p : PI X tg e t) (i : ∀ σ H Q, t' σ H Q → t σ H Q) : PI X tg e t' := ⟨fun pins s σ H Q I h => p.run pins s σ H Q I (i σ H Q h)⟩
theorem pi_or {X : Cx} {tg e : Expr} {t t' : TI} (p : PI X tg e t) (p' : PI X tg e t') : PI X tg e (fun σ H R => t σ H R ∨ t' σ H R) := ⟨fun pins s σ H Q I h => by
  rcases h with h | h
  · exact p.run pins s σ H Q I h
  · exact p'.run pins s σ H Q I h⟩

/-! ### readings -/
section
variable (K : PySem.W.Frag) (C : Ctx) (Wx : WX)
/-- a reading of something that the small language answers by r, the answers related by RA -/
def rdG {α β : Type} (RA : Hp → Rel α β) (r : Env → Hw → R α) : L2.St → Hp → (β → Hp → Prop) → Prop := fun σ H Q => ∃ ι Z τ h, HR K H ι Z h ∧ ER K H ι Z σ τ ∧ Ps K (RA H) Wx σ ι Z H (r τ h) Q
def rdN (e : E) : TE := rdG K Wx (VN K) fun τ h => ev C τ e .val h
def rdF (e : E) : TE := rdG K Wx (VF K) fun τ h => ev C τ e .val h
def rdV (e : E) : TE := rdG K Wx (fun _ => VR K) fun τ h => ev C τ e .val h
def rdO (e : E) : TE := rdG K Wx (fun _ => VP K) fun τ h => ev C τ e .opd h
def rdT (e : E) : TT := rdG K Wx (fun _ _ _ _ (w : W) (b : Bool) => w = .bl b) fun τ h => ev C τ e .tst h
def rdVs (es : List E) : TA := rdG K Wx (fun _ => VRs K) fun τ h => evs C τ es .val h
def rdPs (es : List E) : TA := rdG K Wx (fun _ => VPs K) fun τ h => evs C τ es .opd h
def rdI (e : Option E) : TO := rdG K Wx (fun _ _ _ _ (a b : Option Int) => a = b) fun τ h => evo C τ e h
end
section
variable {K : PySem.W.Frag} {C : Ctx} {Wx : WX} {σ : L2.St} {ι ι1 : List Addr} {Z Z1 : Ads} {H H1 : Hp} {h h1 : Hw}
theorem VN.base {M : Ads} {w : W} {v : V} {H2 : Hp} (s : Stp M ι Z H ι1 Z1 H1) {ι2 : List Addr} {Z2 : Ads} (r : VN K H1 H2 ι2 Z2 w v) : VN K H H2 ι2 Z2 w v := by
  rcases r with r | ⟨o, a, e1, e2, hn, q⟩
  · exact .inl r
  · exact .inr ⟨o, a, e1, e2, s.free hn, q⟩
theorem VF.base {M : Ads} {w : W} {v : V} {H2 : Hp} (s : Stp M ι Z H ι1 Z1 H1) {ι2 : List Addr} {Z2 : Ads} (r : VF K H1 H2 ι2 Z2 w v) : VF K H H2 ι2 Z2 w v := by
  obtain ⟨o, a, e1, e2, hn, q⟩ := r
  exact ⟨o, a, e1, e2, s.free hn, q⟩
theorem rdF_N {e : E} {Q : V → Hp → Prop} (p : rdN K C Wx e σ H Q) : rdF K C Wx e σ H Q :=
  let ⟨ι, Z, τ, h, hr, er, q⟩ := p
  ⟨ι, Z, τ, h, hr, er, q.rel fun _ _ _ _ _ _ r => .inr r⟩
theorem Ps.frz {r : R W} {Q : V → Hp → Prop} (p : Ps K (VR K) Wx σ ι Z H r Q) : Ps K (VN K H) Wx σ ι Z H r Q := by
  cases r with
  | ok a h' =>
    intro ι' Z' H' b st hr vn
    rcases vn with r | ⟨o, a', e1, e2, hn, ni, nz, ro⟩
    · exact p ι' Z' H' b st hr r
    · subst e1 e2
      refine p ι' (fun x => Z' x ∨ x = a') H' _ (st.trans (Stp.frozen (M := fun x => x = a') (.inr rfl) rfl) fun x e => by subst e; exact .inr hn) (hr.frozen ro.kind.2.2 ni) ?_
      have r2 := ro.z (Z' := fun x => Z' x ∨ x = a') fun _ q => .inl q
      cases o with
      | lst ws =>
        obtain ⟨vs, e, l, q⟩ := r2
        exact ⟨a', vs, rfl, SqL.of e, .inl (.inr rfl), l, q⟩
      | _ => exact r2.elim
  | exc c ws h' => exact p
  | bad => exact p
theorem rdV_N {e : E} {Q : V → Hp → Prop} (p : rdV K C Wx e σ H Q) : rdN K C Wx e σ H Q :=
  let ⟨ι, Z, τ, h, hr, er, q⟩ := p
  ⟨ι, Z, τ, h, hr, er, q.frz⟩
/-- the next part, from where one stands -/
theorem rdG.next {α β γ δ : Type} {RA : Hp → Rel α β} {RC : Rel γ δ} {r : Env → Hw → R α} {f : α → Hw → R γ} {τ : Env} {Q : δ → Hp → Prop} {Q' : β → Hp → Prop} (hr : HR K H ι Z h) (er : ER K H ι Z σ τ) (p : Ps K RC Wx σ ι Z H ((r τ h).bind f) Q)
    (n : ∀ b H1 ι1 Z1 h1 a, Stp no ι Z H ι1 Z1 H1 → HR K H1 ι1 Z1 h1 → ER K H1 ι1 Z1 σ τ → RA H H1 ι1 Z1 a b → Ps K RC Wx σ ι1 Z1 H1 (f a h1) Q → Q' b H1) : rdG K Wx RA r σ H Q' :=
  ⟨ι, Z, τ, h, hr, er, (Ps.bind (RA := RA H) p).imp fun b H1 ⟨ι1, Z1, h1, a, s, hr1, ra, p1⟩ => n b H1 ι1 Z1 h1 a s hr1 (er.go hr s) ra p1⟩
section
variable {γ δ : Type} {RC : Rel γ δ} {τ : Env} {Q : δ → Hp → Prop}
theorem rdO_next {e : E} {f : W → Hw → R γ} {Q' : V → Hp → Prop} (hr : HR K H ι Z h) (er : ER K H ι Z σ τ) (p : Ps K RC Wx σ ι Z H ((ev C τ e .opd h).bind f) Q)
    (n : ∀ b H1 ι1 Z1 h1 a, Stp no ι Z H ι1 Z1 H1 → HR K H1 ι1 Z1 h1 → ER K H1 ι1 Z1 σ τ → (fun _ => VP K : Hp → Rel (W) (V)) H H1 ι1 Z1 a b → Ps K RC Wx σ ι1 Z1 H1 (f a h1) Q → Q' b H1) : rdO K C Wx e σ H Q' :=
  rdG.next (r := fun τ h => ev C τ e .opd h) hr er p n
theorem rdV_next {e : E} {f : W → Hw → R γ} {Q' : V → Hp → Prop} (hr : HR K H ι Z h) (er : ER K H ι Z σ τ) (p : Ps K RC Wx σ ι Z H ((ev C τ e .val h).bind f) Q)
    (n : ∀ b H1 ι1 Z1 h1 a, Stp no ι Z H ι1 Z1 H1 → HR K H1 ι1 Z1 h1 → ER K H1 ι1 Z1 σ τ → (fun _ => VR K : Hp → Rel (W) (V)) H H1 ι1 Z1 a b → Ps K RC Wx σ ι1 Z1 H1 (f a h1) Q → Q' b H1) : rdV K C Wx e σ H Q' :=
  rdG.next (r := fun τ h => ev C τ e .val h) hr er p n
theorem rdT_next {e : E} {f : W → Hw → R γ} {Q' : Bool → Hp → Prop} (hr : HR K H ι Z h) (er : ER K H ι Z σ τ) (p : Ps K RC Wx σ ι Z H ((ev C τ e .tst h).bind f) Q)
    (n : ∀ b H1 ι1 Z1 h1 a, Stp no ι Z H ι1 Z1 H1 → HR K H1 ι1 Z1 h1 → ER K H1 ι1 Z1 σ τ → (fun _ _ _ _ (w : W) (b : Bool) => w = .bl b : Hp → Rel (W) (Bool)) H H1 ι1 Z1 a b → Ps K RC Wx σ ι1 Z1 H1 (f a h1) Q → Q' b H1) : rdT K C Wx e σ H Q' :=
  rdG.next (r := fun τ h => ev C τ e .tst h) hr er p n
theorem rdVs_next {e : List E} {f : List W → Hw → R γ} {Q' : List V → Hp → Prop} (hr : HR K H ι Z h) (er : ER K H ι Z σ τ) (p : Ps K RC Wx σ ι Z H ((evs C τ e .val h).bind f) Q)
    (n : ∀ b H1 ι1 Z1 h1 a, Stp no ι Z H ι1 Z1 H1 → HR K H1 ι1 Z1 h1 → ER K H1 ι1 Z1 σ τ → (fun _ => VRs K : Hp → Rel (List W) (List V)) H H1 ι1 Z1 a b → Ps K RC Wx σ ι1 Z1 H1 (f a h1) Q → Q' b H1) : rdVs K C Wx e σ H Q' :=
  rdG.next (r := fun τ h => evs C τ e .val h) hr er p n
theorem rdPs_next {e : List E} {f : List W → Hw → R γ} {Q' : List V → Hp → Prop} (hr : HR K H ι Z h) (er : ER K H ι Z σ τ) (p : Ps K RC Wx σ ι Z H ((evs C τ e .opd h).bind f) Q)
    (n : ∀ b H1 ι1 Z1 h1 a, Stp no ι Z H ι1 Z1 H1 → HR K H1 ι1 Z1 h1 → ER K H1 ι1 Z1 σ τ → (fun _ => VPs K : Hp → Rel (List W) (List V)) H H1 ι1 Z1 a b → Ps K RC Wx σ ι1 Z1 H1 (f a h1) Q → Q' b H1) : rdPs K C Wx e σ H Q' :=
  rdG.next (r := fun τ h => evs C τ e .opd h) hr er p n
theorem rdI_next {e : Option E} {f : Option Int → Hw → R γ} {Q' : Option Int → Hp → Prop} (hr : HR K H ι Z h) (er : ER K H ι Z σ τ) (p : Ps K RC Wx σ ι Z H ((evo C τ e h).bind f) Q)
    (n : ∀ b H1 ι1 Z1 h1 a, Stp no ι Z H ι1 Z1 H1 → HR K H1 ι1 Z1 h1 → ER K H1 ι1 Z1 σ τ → (fun _ _ _ _ (a b : Option Int) => a = b : Hp → Rel (Option Int) (Option Int)) H H1 ι1 Z1 a b → Ps K RC Wx σ ι1 Z1 H1 (f a h1) Q → Q' b H1) : rdI K C Wx e σ H Q' :=
  rdG.next (r := fun τ h => evo C τ e h) hr er p n
end
/-- at the end -/
theorem Ps.fin {α : Type} {RA : Hp → Rel W V} {o : Option W} {Q : V → Hp → Prop} (p : Ps K (RA H) Wx σ ι Z H (.of o h) Q) (hr : HR K H ι Z h) : ∃ w, o = some w ∧ ∀ H' z, Stp no ι Z H ι Z H' → HR K H' ι Z h → RA H H' ι Z w z → Q z H' := by
  obtain ⟨w, e, q⟩ := Ps.of_some p
  exact ⟨w, e, fun H' z st hr' r => q ι Z H' z st hr' r⟩
end

/-! ### the check of a text -/
def visB (sc : Scope) (x : Str) : Bool := match sc.names.lookup x with
  | some .local => true
  | some .cell => true
  | some .free => true
  | _ => false
def locB (sc : Scope) (x : Str) : Bool := match sc.names.lookup x with
  | some .local => true
  | some .cell => true
  | _ => false
def glB (sc : Scope) (x : Str) : Bool := match sc.names.lookup x with
  | some .globalImplicit => true
  | _ => false
def dbg (x : Str) : Bool := x == ("__debug__" : Str) || x == ("__classdict__" : Str)
theorem visB_ok {sc : Scope} {x : Str} (h : visB sc x = true) : Vis sc x := by
  unfold visB at h
  split at h <;> first | exact .inl (by assumption) | exact .inr (.inl (by assumption)) | exact .inr (.inr (by assumption)) | cases h
theorem locB_ok {sc : Scope} {x : Str} (h : locB sc x = true) : L2.Loc sc x := by
  unfold locB at h
  split at h <;> first | exact .inl (by assumption) | exact .inr (by assumption) | cases h
theorem glB_ok {sc : Scope} {x : Str} (h : glB sc x = true) : sc.names.lookup x = some .globalImplicit := by
  unfold glB at h
  split at h <;> first | assumption | cases h
theorem dbg_ok {x : Str} (h : dbg x = false) : (x == ("__debug__" : Str)) = false ∧ (x == ("__classdict__" : Str)) = false := by
  unfold dbg at h
  rw [Bool.or_eq_false_iff] at h
  exact h
def notSet : Expr → Bool
  | .Set .. => false
  | _ => true
def notStar : Expr → Bool
  | .Starred .. => false
  | _ => true
def notSlice : Expr → Bool
  | .Slice .. => false
  | _ => true
def opB : Bop → Operator → Bool
  | .add, .Add => true
  | .sub, .Sub => true
  | .mul, .Mult => true
  | .fdiv, .FloorDiv => true
  | .mod, .Mod => true
  | .pow, .Pow => true
  | _, _ => false
theorem opB_ok {o : Bop} {p : Operator} (h : opB o p = true) : p = o.ast := by
  cases o <;> cases p <;> first | rfl | cases h
def cmpB : Cop → CmpOp → Bool
  | .eq, .Eq => true
  | .ne, .NotEq => true
  | .lt, .Lt => true
  | .le, .LtE => true
  | .gt, .Gt => true
  | .ge, .GtE => true
  | .isin, .In => true
  | .notin, .NotIn => true
  | _, _ => false
theorem cmpB_ok {o : Cop} {p : CmpOp} (h : cmpB o p = true) : p = o.ast := by
  cases o <;> cases p <;> first | rfl | cases h
def plainT : Expr → Bool
  | .UnaryOp .Not _ _ => false
  | .BoolOp .. => false
  | .IfExp .. => false
  | .Compare .. => false
  | _ => true
def isNone : Expr → Bool
  | .Constant .none _ _ => true
  | _ => false
def isBl (k : Bool) : Expr → Bool
  | .Constant (.bool c) _ _ => c == k
  | _ => false
def tysB (sc : Scope) : List Ty → List Expr → Bool
  | [], [] => true
  | t :: ts, .Name x _ :: xs => decide (x = t.sn) && glB sc x && tysB sc ts xs
  | _, _ => false
def rngName (sc : Scope) (x : Str) : Bool := decide (x = ("range" : Str)) && glB sc x
mutual
def tgB (N : List Str) (sc : Scope) : Tg → Expr → Bool
  | .var i, a => match a with
    | .Name x _ => decide (N[i]? = some x) && locB sc x
    | _ => false
  | .tup ts, a => match a with
    | .Tuple xs _ _ => tgsB N sc ts xs
    | _ => false
def tgsB (N : List Str) (sc : Scope) : List Tg → List Expr → Bool
  | [], xs => match xs with
    | [] => true
    | _ => false
  | t :: ts, xs => match xs with
    | x :: xs => notStar x && tgB N sc t x && tgsB N sc ts xs
    | _ => false
end
def ownOf (N : List Str) : List Nat → List (Str × Nat)
  | [] => []
  | i :: is => match N[i]? with
    | some x => (x, i) :: ownOf N is
    | none => ownOf N is
def allIn (N : List Str) (is : List Nat) : Bool := is.all fun i => decide (i < N.length)
def keyIxB (x : Str) : E → Expr → Bool
  | .ix (.var 0) (.int k), .Subscript (.Name y _) (.Constant (.int k') _ _) _ => decide (y = x) && decide (k = k')
  | _, _ => false
def keyIxsB (x : Str) : List E → List Expr → Bool
  | [], [] => true
  | e :: es, a :: as => keyIxB x e a && keyIxsB x es as
  | _, _ => false
def keyB (x : Str) : E → Expr → Bool
  | .tup es, .Tuple as _ _ => keyIxsB x es as && decide (es.length ≤ 29)
  | .tup _, _ => false
  | e, a => keyIxB x e a
/-- the lambda's names: its parameter and globals -/
def lamSc (x : Str) (sc : Scope) : Bool := (match sc.kind with
  | .function => true
  | _ => false) && !sc.isCoroutine && !sc.isGenerator && sc.names.all (fun y => match y.2 with
  | .cell => false
  | .free => false
  | _ => true) && (match sc.names.lookup x with
  | some .local => true
  | _ => false) && !dbg x
/-- one parameter without a default, a body that is a key -/
def lamB (e : E) (ps : Arguments) (body : Expr) (sc : Scope) : Bool := match ps with
  | ⟨[], [⟨y, _, _⟩], none, [], [], none, []⟩ => lamSc y sc && keyB y e body
  | _ => false
/-- what gives a new object, held by nothing else -/
def freshE : E → Bool
  | .lst _ => true
  | .rep _ _ => true
  | .lc _ _ _ _ => true
  | .lrng _ => true
  | .bi .list [_] => true
  | .srt _ _ _ => true
  | _ => false
section
variable (F : List Str)
mutual
def chk (N : List Str) (sc : Scope) : E → Expr → Bool
  | .var i, a => match a with
    | .Name x _ => decide (N[i]? = some x) && visB sc x && !dbg x
    | _ => false
  | .non, a => isNone a
  | .bl b, a => isBl b a
  | .int i, a => match a with
    | .Constant (.int j) _ _ => decide (i = j)
    | _ => false
  | .str x, a => match a with
    | .Constant (.str y) _ _ => decide (x = y) && PyData.strOk x && decide (x.length ≤ sizeLine)
    | _ => false
  | .con x, a => match a with
    | .Name y _ => decide (x = y) && glB sc y && !dbg y
    | _ => false
  | .bin o x y, a => match a with
    | .BinOp x' p y' _ => opB o p && chk N sc x x' && chk N sc y y'
    | _ => false
  | .neg x, a => match a with
    | .UnaryOp .USub x' _ => chk N sc x x'
    | _ => false
  | .cmp o x y, a => match a with
    | .Compare x' [p] [y'] _ => cmpB o p && notSet y' && chk N sc x x' && chk N sc y y'
    | _ => false
  | .chain o o' x y z, a => match a with
    | .Compare x' [p, p'] [y', z'] _ => cmpB o p && cmpB o' p' && notSet z' && chk N sc x x' && chk N sc y y' && chk N sc z z'
    | _ => false
  | .isn x, a => match a with
    | .Compare x' [.Is] [y'] _ => isNone y' && chk N sc x x'
    | _ => false
  | .notn x, a => match a with
    | .Compare x' [.IsNot] [y'] _ => isNone y' && chk N sc x x'
    | _ => false
  | .isb x k, a => match a with
    | .Compare x' [.Is] [y'] _ => isBl k y' && chk N sc x x'
    | _ => false
  | .notb x k, a => match a with
    | .Compare x' [.IsNot] [y'] _ => isBl k y' && chk N sc x x'
    | _ => false
  | .and es, a => match a with
    | .BoolOp .And xs _ => chks N sc es xs && decide (2 ≤ xs.length)
    | _ => false
  | .or es, a => match a with
    | .BoolOp .Or xs _ => chks N sc es xs && decide (2 ≤ xs.length)
    | _ => false
  | .not x, a => match a with
    | .UnaryOp .Not x' _ => chk N sc x x'
    | _ => false
  | .ite c x y, a => match a with
    | .IfExp c' x' y' _ => chk N sc c c' && chk N sc x x' && chk N sc y y'
    | _ => false
  | .tup es, a => match a with
    | .Tuple xs _ _ => chks N sc es xs
    | _ => false
  | .lst es, a => match a with
    | .List xs _ => chks N sc es xs
    | _ => false
  | .rep es n, a => match a with
    | .BinOp (.List xs _) .Mult n' _ => chks N sc es xs && chk N sc n n'
    | _ => false
  | .ix x i, a => match a with
    | .Subscript x' i' _ => notSlice i' && chk N sc x x' && chk N sc i i'
    | _ => false
  | .sl x lo hi, a => match a with
    | .Subscript x' (.Slice lo' hi' none _) _ => chk N sc x x' && chko N sc lo lo' && chko N sc hi hi'
    | _ => false
  | .rev x, a => match a with
    | .Subscript x' (.Slice none none (some (.UnaryOp .USub (.Constant (.int 1) _ _) _)) _) _ => chk N sc x x'
    | _ => false
  | .call f es, a => match a with
    | .Call (.Name x _) xs [] _ => decide (f = x) && F.contains f && decide (f ≠ "<lambda>") && glB sc x && !dbg x && chks N sc es xs && decide (xs ≠ [])
    | _ => false
  | .bi k es, a => match a with
    | .Call (.Name x _) xs [] _ => decide (x = k.nm) && glB sc x && chks N sc es xs && decide (xs ≠ [])
    | _ => false
  | .isi x tys, a => match a with
    | .Call (.Name f _) [x', t'] [] _ => decide (f = ("isinstance" : Str)) && glB sc f && notStar x' && chk N sc x x' && decide (tys.length ≤ 9) && (match t' with
      | .Tuple ts _ _ => tysB sc tys ts
      | t => tysB sc tys [t])
    | _ => false
  | .lc e t s c, a => match a with
    | .ListComp elt [⟨tg, iter, ifs, 0⟩] sc' _ => blkC N sc sc' (ownOf N t.vars) && allIn N t.vars && tgB N sc' t tg && srcB N sc s iter && notSet iter && chkc N (relS sc' sc) c ifs && chk N (relS sc' sc) e elt
    | _ => false
  | .srt x k r, a => match k, r, a with
    | some (.lam 1 e), false, .Call (.Name f _) [x'] [⟨some kn, .Lambda ps body lsc _, _⟩] _ => decide (f = ("sorted" : Str)) && decide (kn = ("key" : Str)) && glB sc f && F.contains "<lambda>" && notStar x' && chk N sc x x' && lamB e ps body lsc
    | _, _, _ => false
  | .shr x, a => freshE x && plainT a && chk N sc x a
  | .lrng es, a => match a with
    | .Call (.Name x _) [.Call (.Name y _) xs [] _] [] _ => decide (x = ("list" : Str)) && glB sc x && rngName sc y && chks N sc es xs && decide (1 ≤ xs.length ∧ xs.length ≤ 2)
    | _ => false
def chks (N : List Str) (sc : Scope) : List E → List Expr → Bool
  | [], xs => match xs with
    | [] => true
    | _ => false
  | e :: es, xs => match xs with
    | x :: xs => notStar x && chk N sc e x && chks N sc es xs
    | _ => false
def chko (N : List Str) (sc : Scope) : Option E → Option Expr → Bool
  | none, x => match x with
    | none => true
    | _ => false
  | some e, x => match x with
    | some x => chk N sc e x
    | _ => false
def chkc (N : List Str) (sc : Scope) : Option E → List Expr → Bool
  | none, x => match x with
    | [] => true
    | _ => false
  | some e, x => match x with
    | [x] => chk N sc e x
    | _ => false
def srcB (N : List Str) (sc : Scope) : Src → Expr → Bool
  | .of x, a => chk N sc x a
  | .rng es, a => match a with
    | .Call (.Name y _) xs [] _ => rngName sc y && chks N sc es xs && decide (1 ≤ xs.length ∧ xs.length ≤ 2)
    | _ => false
  | .zip _ _, _ => false
  | .enum _, _ => false
  | .revd _, _ => false
end
end
end Bd
/-! One construct after the other. -/
namespace Bd
open PySem PySem.Spec PyProof.Rows L2

def bltNames : List Str := ["range", "len", "abs", "int", "str", "list", "tuple", "all", "any", "sum", "max", "min", "divmod", "isinstance", "sorted", "zip", "enumerate", "reversed", "bool", "set"]
/-- what a def promises: what the small language says of it -/
def spW (K : PySem.W.Frag) (g : List W → Hw → R W) : Sp := fun vs H Q E => ∃ ι Z h ws, HR K H ι Z h ∧ VRs K H ι Z ws vs ∧ Ps K (fun H ι Z => VR K H ι Z) (fun cls d _ H => E cls d H) [] ι Z H (g ws h) Q
/-- where one stands: what the text's names are -/
structure Gd (F : List Str) (X : Cx) (C : Ctx) (N : List Str) (sc : Scope) (Wx : WX) : Prop where
  nd : N.Nodup
  eN : X.N = N
  sc : X.env.scope = sc
  calm : X.calm = true
  hu : X.A.units + 66 < cLine
  tk : Takes X Wx
  free : ∀ x ∈ bltNames, X.mg x = none
  con : ∀ x w, C.con x = some w → ∃ u v, X.mg x = some u ∧ RelV v u ∧ ∀ H ι Z, VR X.K H ι Z w v
  dp : X.A.depth + 3 < recursionLimit
  lam : F.contains "<lambda>" = true → ∃ c P, X.env.code = .ref c ∧ LamX.TabB X.base X.mg c P ∧ (P, X.env.qual ++ "<lambda>") ∈ tbs X.K ∧ ∀ p ∈ tbs X.K, p.1 = P → p.2 = X.env.qual ++ "<lambda>"
  fns : ∀ f, F.contains f = true → f ≠ "<lambda>" → ∃ a fd ps k, X.mg f = some (.ref a) ∧ PySem.W.keepIn X.K (.ref a) = true ∧ Binds X.K fd ps [] ∧ Room k X.A ∧ FnOk X.prog X.w X.K X.mg X.base (L2.CX X.prog X.w) k a fd ps (spW X.K (C.call f))
theorem Gd.gl {F : List Str} {X : Cx} {C : Ctx} {N : List Str} {sc : Scope} {Wx : WX} (G : Gd F X C N sc Wx) {x : Str} (h : glB sc x = true) : Gl X x := by
  show X.env.scope.names.lookup x = _
  rw [G.sc]
  exact glB_ok h
/-- the names that are stored: ts tells them -/
structure Ts (X : Cx) (ts : Scope) : Prop where
  loc : ∀ x, locB ts x = true → L2.Loc X.env.scope x
  fn : ∀ x, ts.names.lookup x = some .cell → X.fn x = true
  lc : ∀ x, ts.names.lookup x = some .local → X.env.scope.names.lookup x = some .local
/-- the three ways in which an expression is asked -/
structure Sd (X : Cx) (C : Ctx) (Wx : WX) (e : E) (a : Expr) : Prop where
  val : PE X a (rdN X.K C Wx e)
  opd : PE X a (rdO X.K C Wx e)
  tst : PT X a (rdT X.K C Wx e)
theorem isTrue_of {a : Expr} {env : PySem.Env} (h : plainT a = true) : ∀ whole, isTrue a env whole = (do let v ← whole; standAt a.pos; holding [v] (truthy v)) := by
  intro whole
  cases a with
  | UnaryOp o x p => cases o <;> first | rfl | cases h
  | BoolOp => cases h
  | IfExp => cases h
  | Compare => cases h
  | _ => rfl
section
variable {F : List Str} {X : Cx} {C : Ctx} {N : List Str} {sc : Scope} {Wx : WX}
theorem rdN_O {e : E} (hv : ∀ τ h, ev C τ e .opd h = ev C τ e .val h) {σ : L2.St} {H : Hp} {Q : VK} (p : rdO X.K C Wx e σ H Q) : rdN X.K C Wx e σ H Q := by
  obtain ⟨ι, Z, τ, h, hr, er, q⟩ := p
  dsimp only at q
  rw [hv] at q
  exact ⟨ι, Z, τ, h, hr, er, q.rel fun _ _ _ _ _ _ r => VN.vp r⟩
theorem tst_of {e : E} {a : Expr} (ho : PE X a (rdO X.K C Wx e)) (ht : ∀ τ h, ev C τ e .tst h = (ev C τ e .opd h).bind fun u h => .of ((truW (view h u)).map .bl) h) (hp : plainT a = true) : PT X a (rdT X.K C Wx e) := by
  refine pt_imp (pt_truth ho fun _ => isTrue_of hp _) fun σ H Q ⟨ι, Z, τ, h, hr, er, q⟩ => ?_
  dsimp only at q
  rw [ht] at q
  refine rdO_next hr er q fun v H1 ι1 Z1 h1 w s1 hr1 er1 r1 q1 => ?_
  obtain ⟨u, e1, q2⟩ := Ps.of_some q1
  obtain ⟨k, e2, rfl⟩ := Option.map_eq_some_iff.mp e1
  exact ⟨k, tru_V (r1.view hr1) e2, q2 ι1 Z1 H1 k Stp.refl hr1 rfl⟩
/-- most constructs: asked as an operand the same, asked as a test its truth -/
theorem Sd.of {e : E} {a : Expr} (h : PE X a (rdN X.K C Wx e)) (hv : ∀ τ h, ev C τ e .opd h = ev C τ e .val h) (ht : ∀ τ h, ev C τ e .tst h = (ev C τ e .opd h).bind fun u h => .of ((truW (view h u)).map .bl) h) (hp : plainT a = true) : Sd X C Wx e a :=
  have ho : PE X a (rdO X.K C Wx e) := pe_imp h fun _ _ _ p => rdN_O hv p
  ⟨h, ho, tst_of ho ht hp⟩
theorem VN.bl {H0 H : Hp} {ι : List Addr} {Z : Ads} {K : PySem.W.Frag} {b : Bool} {v : V} (r : VN K H0 H ι Z (.bl b) v) : v = .bl b := by
  rcases r with r | ⟨o, a, e1, e2, _, _, _, r⟩
  · exact r
  · cases o with
    | lst us => cases e1
    | _ => exact r.elim
/-- a construct that answers True or False: its test -/
theorem rdT_N {e : E} (hv : ∀ τ h, ev C τ e .tst h = (ev C τ e .val h).bind fun u h => .of ((truW (view h u)).map .bl) h) (hb : ∀ τ h w h', ev C τ e .val h = .ok w h' → ∃ c, w = .bl c) {σ : L2.St} {H : Hp} {Q : Bool → Hp → Prop} (p : rdT X.K C Wx e σ H Q) :
    rdN X.K C Wx e σ H fun x H' => ∃ k, x = .bl k ∧ Q k H' := by
  obtain ⟨ι, Z, τ, h, hr, er, q⟩ := p
  dsimp only at q
  rw [hv] at q
  refine ⟨ι, Z, τ, h, hr, er, ?_⟩
  show Ps X.K (VN X.K H) Wx σ ι Z H (ev C τ e .val h) _
  cases e1 : ev C τ e .val h with
  | ok w h' =>
    obtain ⟨c, rfl⟩ := hb τ h w h' e1
    rw [e1] at q
    intro ι' Z' H' b st hr' r
    exact ⟨c, VN.bl r, q ι' Z' H' c st hr' rfl⟩
  | exc c ws h' => rw [e1] at q; exact q
  | bad => rw [e1] at q; exact q
/-! ### names, constants -/
theorem sd_var (G : Gd F X C N sc Wx) {i : Nat} {x : Str} {pos : Pos} (h1 : N[i]? = some x) (h2 : Vis sc x) (h3 : dbg x = false) : Sd X C Wx (.var i) (.Name x pos) := by
  have hN : X.N[i]? = some x := by rw [G.eN]; exact h1
  have hV : Vis X.env.scope x := by rw [G.sc]; exact h2
  have p := pe_var (X := X) (pos := pos) hN hV (dbg_ok h3).1 (dbg_ok h3).2
  have ho : PE X (.Name x pos) (rdO X.K C Wx (.var i)) := by
    refine pe_imp p fun σ H Q ⟨ι, Z, τ, h, hr, er, q⟩ => ?_
    obtain ⟨w, e1, q1⟩ := Ps.of_some (α := W) q
    have e1 : lookO τ i = some w := e1
    unfold lookO at e1
    cases e2 : τ[i]? with
    | none => rw [e2] at e1; cases e1
    | some sl =>
      rw [e2] at e1
      cases sl with
      | no => cases e1
      | v u =>
        cases e1
        obtain ⟨v, e3, r⟩ := er.val i w e2
        exact ⟨v, e3, q1 ι Z H v Stp.refl hr (.inl r)⟩
      | own o =>
        obtain ⟨a, e3, nz, ni, r⟩ := er.own i o e2
        cases o with
        | lst ws => cases e1; exact ⟨_, e3, q1 ι Z H _ Stp.refl hr (.inr ⟨.lst ws, a, rfl, rfl, ni, r⟩)⟩
        | _ => exact r.elim
  refine ⟨?_, ho, tst_of ho (fun τ h => ?_) rfl⟩
  · refine pe_imp p fun σ H Q ⟨ι, Z, τ, h, hr, er, q⟩ => ?_
    obtain ⟨w, e1, q1⟩ := Ps.of_some (α := W) q
    have e1 : look τ i = some w := e1
    unfold look at e1
    split at e1
    · rename_i e2
      cases e1
      obtain ⟨v, e3, r⟩ := er.val i w e2
      exact ⟨v, e3, q1 ι Z H v Stp.refl hr (.inl r)⟩
    · cases e1
  · show fin .tst (.of (lookO τ i) h) = _
    rfl
theorem sd_con (G : Gd F X C N sc Wx) {x : Str} {pos : Pos} (h1 : glB sc x = true) (h3 : dbg x = false) : Sd X C Wx (.con x) (.Name x pos) := by
  refine Sd.of ⟨fun pins s σ H Q I p => ?_⟩ (fun _ _ => rfl) (fun _ _ => rfl) rfl
  obtain ⟨ι, Z, τ, h, hr, er, q⟩ := p
  obtain ⟨w, e1, q1⟩ := Ps.of_some (α := W) q
  obtain ⟨u, v, hm, rv, hv⟩ := G.con x w e1
  exact (pe_glob (G.gl h1) hm rv (hd := (dbg_ok h3).1)).run pins s σ H Q I (q1 ι Z H v Stp.refl hr (.inl (hv _ _ _)))
theorem sd_lit {e : E} {a : Expr} {v : V} {w : W} (p : PE X a (tC v)) (he : ∀ τ h, ev C τ e .val h = .ok w h) (hv : ∀ H ι Z, VR X.K H ι Z w v) (h1 : ∀ τ h, ev C τ e .opd h = ev C τ e .val h)
    (h2 : ∀ τ h, ev C τ e .tst h = (ev C τ e .opd h).bind fun u h => .of ((truW (view h u)).map .bl) h) (hp : plainT a = true) : Sd X C Wx e a := by
  refine Sd.of (pe_imp p fun σ H Q ⟨ι, Z, τ, h, hr, er, q⟩ => ?_) h1 h2 hp
  dsimp only at q
  rw [he] at q
  exact q ι Z H v Stp.refl hr (.inl (hv _ _ _))
/-! ### operators -/
theorem bin_rd {o : Bop} {x y : E} {σ : L2.St} {H : Hp} {Q : VK} (p : rdN X.K C Wx (.bin o x y) σ H Q) : tOp (rOp2 X.K (binW o)) (rdO X.K C Wx x) (rdO X.K C Wx y) σ H Q := by
  obtain ⟨ι, Z, τ, h, hr, er, q⟩ := p
  simp only [ev, fin] at q
  refine rdO_next hr er q fun v1 H1 ι1 Z1 h1 u s1 hr1 er1 r1 q1 => ?_
  refine rdO_next hr1 er1 q1 fun v2 H2 ι2 Z2 h2 v s2 hr2 er2 r2 q2 => ?_
  obtain ⟨w, e, q3⟩ := Ps.of_some q2
  exact ⟨ι2, Z2, h2, _, _, w, hr2, (r1.go hr1 s2).view hr2, r2.view hr2, e, fun H' z st hr' vn => q3 ι2 Z2 H' z st hr' ((vn.base s2).base s1)⟩
theorem sd_bin {o : Bop} {x y : E} {x' y' : Expr} {pos : Pos} (hx : Sd X C Wx x x') (hy : Sd X C Wx y y') : Sd X C Wx (.bin o x y) (.BinOp x' o.ast y' pos) :=
  Sd.of (pe_imp (pe_op (op_bin o) hx.opd hy.opd) fun _ _ _ p => bin_rd p) (fun _ _ => rfl) (fun _ _ => rfl) rfl
theorem VP.int {K : PySem.W.Frag} {H : Hp} {ι : List Addr} {Z : Ads} {w : W} {i : Int} {v : V} (r : VP K H ι Z w v) (e : intW w = some i) : v = .int i := by
  cases w with
  | int j =>
    cases e
    rcases r with r | ⟨o, a, e1, e2, _, r⟩
    · exact r
    · cases o with
      | lst us => cases e1
      | _ => exact r.elim
  | _ => cases e
theorem sd_neg {x : E} {x' : Expr} {pos : Pos} (hx : Sd X C Wx x x') : Sd X C Wx (.neg x) (.UnaryOp .USub x' pos) := by
  refine Sd.of (pe_imp (pe_un un_neg hx.opd) fun σ H Q ⟨ι, Z, τ, h, hr, er, q⟩ => ?_) (fun _ _ => rfl) (fun _ _ => rfl) rfl
  simp only [ev, fin] at q
  refine rdO_next hr er q fun v1 H1 ι1 Z1 h1 u s1 hr1 er1 r1 q1 => ?_
  obtain ⟨w, e, q3⟩ := Ps.of_some q1
  obtain ⟨i, e2, rfl⟩ := Option.map_eq_some_iff.mp e
  exact ⟨i, r1.int e2, q3 ι1 Z1 H1 _ Stp.refl hr1 (.inl rfl)⟩
theorem cmp_rd {o : Cop} {x y : E} {σ : L2.St} {H : Hp} {Q : VK} (p : rdN X.K C Wx (.cmp o x y) σ H Q) : tOp (rOpB X.K (cmpW o)) (rdO X.K C Wx x) (rdO X.K C Wx y) σ H Q := by
  obtain ⟨ι, Z, τ, h, hr, er, q⟩ := p
  simp only [ev, fin] at q
  refine rdO_next hr er q fun v1 H1 ι1 Z1 h1 u s1 hr1 er1 r1 q1 => ?_
  refine rdO_next hr1 er1 q1 fun v2 H2 ι2 Z2 h2 v s2 hr2 er2 r2 q2 => ?_
  obtain ⟨w, e, q3⟩ := Ps.of_some q2
  obtain ⟨k, e2, rfl⟩ := Option.map_eq_some_iff.mp e
  exact ⟨ι2, Z2, h2, _, _, k, hr2, (r1.go hr1 s2).view hr2, r2.view hr2, e2, q3 ι2 Z2 H2 _ Stp.refl hr2 (.inl rfl)⟩
theorem R.bind_ok {α β : Type} {r : R α} {f : α → Hw → R β} {b : β} {h' : Hw} (e : r.bind f = .ok b h') : ∃ a h, r = .ok a h ∧ f a h = .ok b h' := by
  cases r with
  | ok a h => exact ⟨a, h, rfl, e⟩
  | exc c ws h => cases e
  | bad => cases e
theorem R.of_ok {α : Type} {o : Option α} {h h' : Hw} {a : α} (e : R.of o h = .ok a h') : o = some a ∧ h' = h := by
  cases o with
  | none => cases e
  | some b => cases e; exact ⟨rfl, rfl⟩
theorem sd_cmp (hu : X.A.units + 66 < cLine) {o : Cop} {x y : E} {x' y' : Expr} {pos : Pos} (hx : Sd X C Wx x x') (hy : Sd X C Wx y y') (hm : behindInMarks o.ast y' = false) : Sd X C Wx (.cmp o x y) (.Compare x' [o.ast] [y'] pos) := by
  have hp := pe_cmpR (pos := pos) (op_cmp (X := X) o (by omega)) hx.opd hy.opd hm
  have hn : PE X (.Compare x' [o.ast] [y'] pos) (rdN X.K C Wx (.cmp o x y)) := pe_imp hp fun _ _ _ p => cmp_rd p
  refine ⟨hn, pe_imp hn fun _ _ _ p => rdN_O (fun _ _ => rfl) p, pt_imp (pt_cmpR (op_cmp (X := X) o (by omega)) hx.opd hy.opd hm) fun σ H Q p => cmp_rd (rdT_N (fun _ _ => rfl) (fun τ h w h' e => ?_) p)⟩
  obtain ⟨u, h1, _, e⟩ := R.bind_ok e
  obtain ⟨v, h2, _, e⟩ := R.bind_ok e
  obtain ⟨e, _⟩ := R.of_ok e
  obtain ⟨k, _, rfl⟩ := Option.map_eq_some_iff.mp e
  exact ⟨k, rfl⟩
theorem chain_rd {o o' : Cop} {x y z : E} {σ : L2.St} {H : Hp} {Q : VK} (p : rdN X.K C Wx (.chain o o' x y z) σ H Q) :
    tChain (rOpB X.K (cmpW o)) (rOpB X.K (cmpW o')) (rdO X.K C Wx x) (rdO X.K C Wx y) (rdO X.K C Wx z) σ H Q := by
  obtain ⟨ι, Z, τ, h, hr, er, q⟩ := p
  simp only [ev, fin] at q
  refine rdO_next hr er q fun v1 H1 ι1 Z1 h1 u s1 hr1 er1 r1 q1 => ?_
  refine rdO_next hr1 er1 q1 fun v2 H2 ι2 Z2 h2 v s2 hr2 er2 r2 q2 => ?_
  cases e : cmpW o (view h2 u) (view h2 v) with
  | none => rw [e] at q2; exact q2.elim
  | some k =>
    rw [e] at q2
    refine ⟨ι2, Z2, h2, _, _, k, hr2, (r1.go hr1 s2).view hr2, r2.view hr2, e, k, rfl, ?_⟩
    cases k with
    | false => rw [if_neg (by decide)]; exact q2 ι2 Z2 H2 _ Stp.refl hr2 (.inl rfl)
    | true =>
      rw [if_pos rfl]
      refine rdO_next hr2 er2 q2 fun v3 H3 ι3 Z3 h3 w s3 hr3 er3 r3 q3 => ?_
      obtain ⟨w2, e2, q4⟩ := Ps.of_some q3
      obtain ⟨k, e3, rfl⟩ := Option.map_eq_some_iff.mp e2
      exact ⟨ι3, Z3, h3, _, _, k, hr3, (r2.go hr2 s3).view hr3, r3.view hr3, e3, q4 ι3 Z3 H3 _ Stp.refl hr3 (.inl rfl)⟩
theorem sd_chain (hu : X.A.units + 66 < cLine) {o o' : Cop} {x y z : E} {x' y' z' : Expr} {pos : Pos} (hx : Sd X C Wx x x') (hy : Sd X C Wx y y') (hz : Sd X C Wx z z') (hm : behindInMarks o'.ast z' = false) : Sd X C Wx (.chain o o' x y z) (.Compare x' [o.ast, o'.ast] [y', z'] pos) := by
  have hl : lastMarks [o.ast, o'.ast] [y', z'] = false := by
    show lastMarks [o'.ast] [z'] = false
    exact hm
  have hp := pe_chain (pos := pos) (op_cmp (X := X) o (by omega)) (op_cmp (X := X) o' (by omega)) hx.opd hy.opd hz.opd hl
  have hn : PE X (.Compare x' [o.ast, o'.ast] [y', z'] pos) (rdN X.K C Wx (.chain o o' x y z)) := pe_imp hp fun _ _ _ p => chain_rd p
  refine ⟨hn, pe_imp hn fun _ _ _ p => rdN_O (fun _ _ => rfl) p, pt_imp (pt_chain (op_cmp (X := X) o (by omega)) (op_cmp (X := X) o' (by omega)) hx.opd hy.opd hz.opd hl) fun σ H Q p => chain_rd (rdT_N (fun _ _ => rfl) (fun τ h w h' e => ?_) p)⟩
  obtain ⟨u, h1, _, e⟩ := R.bind_ok e
  obtain ⟨v, h2, _, e⟩ := R.bind_ok e
  cases e2 : cmpW o (view h2 u) (view h2 v) with
  | none => rw [e2] at e; cases e
  | some k =>
    rw [e2] at e
    cases k with
    | false => cases e; exact ⟨_, rfl⟩
    | true =>
      obtain ⟨w3, h3, _, e⟩ := R.bind_ok e
      obtain ⟨e, _⟩ := R.of_ok e
      obtain ⟨k, _, rfl⟩ := Option.map_eq_some_iff.mp e
      exact ⟨k, rfl⟩
end
end Bd
/-! The other constructs. -/
namespace Bd
open PySem PySem.Spec PyProof.Rows L2

section
variable {F : List Str} {X : Cx} {C : Ctx} {N : List Str} {sc : Scope} {Wx : WX}
/-! ### None, True, False -/
theorem isNone_ok {a : Expr} (h : isNone a = true) : ∃ j p, a = .Constant .none j p := by
  unfold isNone at h
  split at h
  · exact ⟨_, _, rfl⟩
  · cases h
theorem isBl_ok {a : Expr} {k : Bool} (h : isBl k a = true) : ∃ j p, a = .Constant (.bool k) j p := by
  unfold isBl at h
  split at h
  · rw [beq_iff_eq] at h; subst h; exact ⟨_, _, rfl⟩
  · cases h
theorem isn_rd {x : E} {σ : L2.St} {H : Hp} {Q : VK} (p : rdN X.K C Wx (.isn x) σ H Q) : tIsN (rdO X.K C Wx x) σ H Q := by
  obtain ⟨ι, Z, τ, h, hr, er, q⟩ := p
  simp only [ev, fin] at q
  refine rdO_next hr er q fun v1 H1 ι1 Z1 h1 u s1 hr1 er1 r1 q1 => ?_
  rw [VP.non_iff r1] at q1
  exact q1 ι1 Z1 H1 _ Stp.refl hr1 (.inl rfl)
theorem notn_rd {x : E} {σ : L2.St} {H : Hp} {Q : VK} (p : rdN X.K C Wx (.notn x) σ H Q) : tNotN (rdO X.K C Wx x) σ H Q := by
  obtain ⟨ι, Z, τ, h, hr, er, q⟩ := p
  simp only [ev, fin] at q
  refine rdO_next hr er q fun v1 H1 ι1 Z1 h1 u s1 hr1 er1 r1 q1 => ?_
  rw [VP.non_iff r1] at q1
  exact q1 ι1 Z1 H1 _ Stp.refl hr1 (.inl rfl)
theorem sd_isn {x : E} {x' : Expr} {j : Nat} {p1 pos : Pos} (hx : Sd X C Wx x x') : Sd X C Wx (.isn x) (.Compare x' [.Is] [.Constant .none j p1] pos) := by
  have hn : PE X (.Compare x' [.Is] [.Constant .none j p1] pos) (rdN X.K C Wx (.isn x)) := pe_imp (pe_cmp (pc_isN hx.opd)) fun _ _ _ p => isn_rd p
  refine ⟨hn, pe_imp hn fun _ _ _ p => rdN_O (fun _ _ => rfl) p, pt_imp (pt_cmp (pc_isN hx.opd)) fun σ H Q p => isn_rd (rdT_N (fun _ _ => rfl) (fun τ h w h' e => ?_) p)⟩
  obtain ⟨u, h1, _, e⟩ := R.bind_ok e
  cases e
  exact ⟨_, rfl⟩
theorem sd_notn {x : E} {x' : Expr} {j : Nat} {p1 pos : Pos} (hx : Sd X C Wx x x') : Sd X C Wx (.notn x) (.Compare x' [.IsNot] [.Constant .none j p1] pos) := by
  have hn : PE X (.Compare x' [.IsNot] [.Constant .none j p1] pos) (rdN X.K C Wx (.notn x)) := pe_imp (pe_cmp (pc_notN hx.opd)) fun _ _ _ p => notn_rd p
  refine ⟨hn, pe_imp hn fun _ _ _ p => rdN_O (fun _ _ => rfl) p, pt_imp (pt_cmp (pc_notN hx.opd)) fun σ H Q p => notn_rd (rdT_N (fun _ _ => rfl) (fun τ h w h' e => ?_) p)⟩
  obtain ⟨u, h1, _, e⟩ := R.bind_ok e
  cases e
  exact ⟨_, rfl⟩
/-- x is True, x is False: x a truth value, or a value of another kind -/
def rIsK (K : PySem.W.Frag) (neg : Bool) : R2 := fun x y H Q => ∃ k, y = .bl k ∧ Q (.bl ((decide (x = .bl k)) != neg)) H
theorem bool_ne (k : Bool) {v : V} {u : Value} (r : RelV v u) (h : v ≠ .bl k) : u ≠ Value.bool k := fun e => by
  subst e
  cases v with
  | bl c => exact h (by cases (show Value.bool k = Value.bool c from r); rfl)
  | non => cases (show Value.bool k = Value.none from r)
  | int i => obtain ⟨t, e⟩ := (show ∃ t, Value.bool k = Value.int i t from r); cases e
  | str x => obtain ⟨t, e⟩ := (show ∃ t, Value.bool k = Value.str x t from r); cases e
  | byt x => obtain ⟨t, e⟩ := (show ∃ t, Value.bool k = Value.bytes x t from r); cases e
  | flt x => obtain ⟨t, e⟩ := (show ∃ t, Value.bool k = Value.float x t from r); cases e
  | ref a => cases (show Value.bool k = Value.ref a from r)
  | ty n => cases (show Value.bool k = Value.type n from r)
theorem VP.isB {K : PySem.W.Frag} {H : Hp} {ι : List Addr} {Z : Ads} {w : W} {v : V} {k : Bool} (r : VP K H ι Z w v) : isB k w = decide (v = .bl k) := by
  rcases r with r | ⟨o, a, e1, e2, _, r⟩
  · cases w with
    | non => cases r; rfl
    | bl b => cases r; show (b == k) = _; cases b <;> cases k <;> rfl
    | int i => cases r; rfl
    | str x => obtain ⟨e, _⟩ := r; subst e; rfl
    | tup ws => obtain ⟨a, vs, e, _⟩ := r; subst e; rfl
    | lst ws => obtain ⟨a, vs, e, _⟩ := r; subst e; rfl
    | dct ks vs => exact r.elim
    | set ws => exact r.elim
    | ref n => obtain ⟨a, e, _⟩ := r; subst e; rfl
  · cases o with
    | lst us => subst e1 e2; rfl
    | _ => exact r.elim
/-! ### and, or, not, if -/
inductive SdL (X : Cx) (C : Ctx) (Wx : WX) : List E → List Expr → Prop
  | nil : SdL X C Wx [] []
  | cons {e : E} {a : Expr} {es : List E} {as : List Expr} : Sd X C Wx e a → notStar a = true → SdL X C Wx es as → SdL X C Wx (e :: es) (a :: as)
theorem and_val {pos : Pos} : ∀ {es : List E} {xs : List Expr}, SdL X C Wx es xs → es ≠ [] → PE X (.BoolOp .And xs pos) (rdG X.K Wx (VN X.K) fun τ h => evAnd C τ es .val h)
  | _, _, .nil, ne => absurd rfl ne
  | _, _, .cons hx _ .nil, _ => pe_one hx.val
  | e :: e2 :: es, _, .cons hx _ (.cons hy ns t), _ => by
    have ih := and_val (pos := pos) (.cons hy ns t) (by simp)
    refine pe_imp (pe_andT (pe_imp hx.val fun _ _ _ p => rdV_N p) ih) fun σ H Q ⟨ι, Z, τ, h, hr, er, q⟩ => ?_
    have q : Ps X.K (VN X.K H) Wx σ ι Z H ((ev C τ e .val h).bind fun u h => match truW (view h u) with
      | some true => evAnd C τ (e2 :: es) .val h
      | some false => .ok u h
      | none => .bad) Q := q
    refine rdV_next hr er q fun v H1 ι1 Z1 h1 u s1 hr1 er1 r1 q1 => ?_
    cases e3 : truW (view h1 u) with
    | none => rw [e3] at q1; exact q1.elim
    | some k =>
      rw [e3] at q1
      refine ⟨k, tru_V ((VP.of r1).view hr1) e3, ?_⟩
      cases k with
      | true => rw [if_pos rfl]; exact ⟨ι1, Z1, τ, h1, hr1, er1, q1.rel fun _ _ _ _ _ _ r => r.base s1⟩
      | false => rw [if_neg (by decide)]; exact q1 ι1 Z1 H1 v Stp.refl hr1 (.inl r1)
theorem or_val {pos : Pos} : ∀ {es : List E} {xs : List Expr}, SdL X C Wx es xs → es ≠ [] → PE X (.BoolOp .Or xs pos) (rdG X.K Wx (VN X.K) fun τ h => evOr C τ es .val h)
  | _, _, .nil, ne => absurd rfl ne
  | _, _, .cons hx _ .nil, _ => pe_one hx.val
  | e :: e2 :: es, _, .cons hx _ (.cons hy ns t), _ => by
    have ih := or_val (pos := pos) (.cons hy ns t) (by simp)
    refine pe_imp (pe_orT (pe_imp hx.val fun _ _ _ p => rdV_N p) ih) fun σ H Q ⟨ι, Z, τ, h, hr, er, q⟩ => ?_
    have q : Ps X.K (VN X.K H) Wx σ ι Z H ((ev C τ e .val h).bind fun u h => match truW (view h u) with
      | some true => .ok u h
      | some false => evOr C τ (e2 :: es) .val h
      | none => .bad) Q := q
    refine rdV_next hr er q fun v H1 ι1 Z1 h1 u s1 hr1 er1 r1 q1 => ?_
    cases e3 : truW (view h1 u) with
    | none => rw [e3] at q1; exact q1.elim
    | some k =>
      rw [e3] at q1
      refine ⟨k, tru_V ((VP.of r1).view hr1) e3, ?_⟩
      cases k with
      | true => rw [if_pos rfl]; exact q1 ι1 Z1 H1 v Stp.refl hr1 (.inl r1)
      | false => rw [if_neg (by decide)]; exact ⟨ι1, Z1, τ, h1, hr1, er1, q1.rel fun _ _ _ _ _ _ r => r.base s1⟩
abbrev RT : Hp → Rel W Bool := fun _ _ _ _ (w : W) (b : Bool) => w = .bl b
theorem and_tst {pos : Pos} : ∀ {es : List E} {xs : List Expr}, SdL X C Wx es xs → es ≠ [] → PW X (.BoolOp .And xs pos) (rdG X.K Wx RT fun τ h => evAnd C τ es .tst h)
  | _, _, .nil, ne => absurd rfl ne
  | _, _, .cons hx _ .nil, _ => pw_and1 hx.tst
  | e :: e2 :: es, _, .cons hx _ (.cons hy ns t), _ => by
    have ih := and_tst (pos := pos) (.cons hy ns t) (by simp)
    refine pw_imp (pw_and hx.tst ih) fun σ H Q ⟨ι, Z, τ, h, hr, er, q⟩ => ?_
    have q : Ps X.K (RT H) Wx σ ι Z H ((ev C τ e .tst h).bind fun u h => match truW (view h u) with
      | some true => evAnd C τ (e2 :: es) .tst h
      | some false => .ok u h
      | none => .bad) Q := q
    refine rdT_next hr er q fun k H1 ι1 Z1 h1 u s1 hr1 er1 r1 q1 => ?_
    have r1 : u = .bl k := r1
    subst r1
    cases k with
    | true => rw [if_pos rfl]; exact ⟨ι1, Z1, τ, h1, hr1, er1, q1⟩
    | false => rw [if_neg (by decide)]; exact q1 ι1 Z1 H1 _ Stp.refl hr1 rfl
theorem or_tst {pos : Pos} : ∀ {es : List E} {xs : List Expr}, SdL X C Wx es xs → es ≠ [] → PW X (.BoolOp .Or xs pos) (rdG X.K Wx RT fun τ h => evOr C τ es .tst h)
  | _, _, .nil, ne => absurd rfl ne
  | _, _, .cons hx _ .nil, _ => pw_or1 hx.tst
  | e :: e2 :: es, _, .cons hx _ (.cons hy ns t), _ => by
    have ih := or_tst (pos := pos) (.cons hy ns t) (by simp)
    refine pw_imp (pw_or hx.tst ih) fun σ H Q ⟨ι, Z, τ, h, hr, er, q⟩ => ?_
    have q : Ps X.K (RT H) Wx σ ι Z H ((ev C τ e .tst h).bind fun u h => match truW (view h u) with
      | some true => .ok u h
      | some false => evOr C τ (e2 :: es) .tst h
      | none => .bad) Q := q
    refine rdT_next hr er q fun k H1 ι1 Z1 h1 u s1 hr1 er1 r1 q1 => ?_
    have r1 : u = .bl k := r1
    subst r1
    cases k with
    | true => rw [if_pos rfl]; exact q1 ι1 Z1 H1 _ Stp.refl hr1 rfl
    | false => rw [if_neg (by decide)]; exact ⟨ι1, Z1, τ, h1, hr1, er1, q1⟩
theorem rdG_vp {r : Env → Hw → R W} {σ : L2.St} {H : Hp} {Q : VK} (p : rdG X.K Wx (fun _ => VP X.K) r σ H Q) : rdG X.K Wx (VN X.K) r σ H Q :=
  let ⟨ι, Z, τ, h, hr, er, q⟩ := p
  ⟨ι, Z, τ, h, hr, er, q.rel fun _ _ _ _ _ _ r => VN.vp r⟩
theorem sd_and {es : List E} {xs : List Expr} {pos : Pos} (h : SdL X C Wx es xs) (ne : es ≠ []) : Sd X C Wx (.and es) (.BoolOp .And xs pos) :=
  ⟨and_val h ne, pe_imp (and_val h ne) fun _ _ _ p => rdG_vp p, PW.pt (and_tst h ne)⟩
theorem sd_or {es : List E} {xs : List Expr} {pos : Pos} (h : SdL X C Wx es xs) (ne : es ≠ []) : Sd X C Wx (.or es) (.BoolOp .Or xs pos) :=
  ⟨or_val h ne, pe_imp (or_val h ne) fun _ _ _ p => rdG_vp p, PW.pt (or_tst h ne)⟩
theorem sd_not {x : E} {x' : Expr} {pos : Pos} (hx : Sd X C Wx x x') : Sd X C Wx (.not x) (.UnaryOp .Not x' pos) := by
  have hn : PE X (.UnaryOp .Not x' pos) (rdN X.K C Wx (.not x)) := pe_imp (pe_notT hx.opd) fun σ H Q ⟨ι, Z, τ, h, hr, er, q⟩ => by
    simp only [ev, Md.neg] at q
    refine rdO_next hr er q fun v H1 ι1 Z1 h1 u s1 hr1 er1 r1 q1 => ?_
    obtain ⟨w, e, q2⟩ := Ps.of_some q1
    obtain ⟨k, e2, rfl⟩ := Option.map_eq_some_iff.mp e
    exact ⟨k, tru_V (r1.view hr1) e2, q2 ι1 Z1 H1 _ Stp.refl hr1 (.inl rfl)⟩
  refine ⟨hn, pe_imp hn fun _ _ _ p => rdN_O (fun _ _ => rfl) p, pt_imp (pt_not hx.tst) fun σ H Q ⟨ι, Z, τ, h, hr, er, q⟩ => ?_⟩
  simp only [ev, Md.neg] at q
  refine rdT_next hr er q fun k H1 ι1 Z1 h1 u s1 hr1 er1 r1 q1 => ?_
  have r1 : u = .bl k := r1
  subst r1
  exact q1 ι1 Z1 H1 _ Stp.refl hr1 rfl
theorem pt_ifExp {c a b : Expr} {pos : Pos} {tc ta tb : TT} (hc : PT X c tc) (ha : PT X a ta) (hb : PT X b tb) : PT X (.IfExp c a b pos) (fun σ H Q => tc σ H fun k H1 => if k = true then ta σ H1 Q else tb σ H1 Q) := by
  refine ⟨fun pins s σ H Q I h => ?_⟩
  show wpAny (model X.prog X.w) X.A (isTrue c X.env (eval c X.env) >>= fun k => if k = true then isTrue a X.env (eval a X.env) else isTrue b X.env (eval b X.env)) _ _ s
  refine wpAny_bind (thn (hc.run pins s σ H _ I h) fun k s1 ⟨H1, I1, q1⟩ => ?_)
  cases k with
  | true => exact ha.run pins s1 σ H1 Q I1 q1
  | false => exact hb.run pins s1 σ H1 Q I1 q1
theorem sd_ite {c x y : E} {c' x' y' : Expr} {pos : Pos} (hc : Sd X C Wx c c') (hx : Sd X C Wx x x') (hy : Sd X C Wx y y') : Sd X C Wx (.ite c x y) (.IfExp c' x' y' pos) := by
  have hn : PE X (.IfExp c' x' y' pos) (rdN X.K C Wx (.ite c x y)) := pe_imp (pe_ifExp hc.tst hx.val hy.val) fun σ H Q ⟨ι, Z, τ, h, hr, er, q⟩ => by
    simp only [ev, Md.sub] at q
    refine rdT_next hr er q fun k H1 ι1 Z1 h1 u s1 hr1 er1 r1 q1 => ?_
    have r1 : u = .bl k := r1
    subst r1
    cases k with
    | true => rw [if_pos rfl]; exact ⟨ι1, Z1, τ, h1, hr1, er1, q1.rel fun _ _ _ _ _ _ r => r.base s1⟩
    | false => rw [if_neg (by decide)]; exact ⟨ι1, Z1, τ, h1, hr1, er1, q1.rel fun _ _ _ _ _ _ r => r.base s1⟩
  refine ⟨hn, pe_imp hn fun _ _ _ p => rdN_O (fun _ _ => rfl) p, pt_imp (pt_ifExp hc.tst hx.tst hy.tst) fun σ H Q ⟨ι, Z, τ, h, hr, er, q⟩ => ?_⟩
  simp only [ev, Md.sub] at q
  refine rdT_next hr er q fun k H1 ι1 Z1 h1 u s1 hr1 er1 r1 q1 => ?_
  have r1 : u = .bl k := r1
  subst r1
  cases k with
  | true => rw [if_pos rfl]; exact ⟨ι1, Z1, τ, h1, hr1, er1, q1⟩
  | false => rw [if_neg (by decide)]; exact ⟨ι1, Z1, τ, h1, hr1, er1, q1⟩
/-! ### argument lists, displays -/
theorem star_cons {a : Expr} {as : List Expr} {env : PySem.Env} (h : notStar a = true) : starEach (a :: as) env = (false, eval a env) :: starEach as env := by
  cases a <;> first | rfl | cases h
theorem star_none {as : List Expr} {env : PySem.Env} {pos : Pos} : ∀ {es : List E}, SdL X C Wx es as → (backTo pos (starEach as env)).any (·.1) = false := by
  intro es h
  induction h with
  | nil => rfl
  | cons _ ns _ ih => rw [star_cons ns]; simpa [backTo] using ih
theorem pa_vals : ∀ {es : List E} {xs : List Expr}, SdL X C Wx es xs → PA X xs (rdVs X.K C Wx es)
  | _, _, .nil => pa_imp pa_nil fun σ H Q ⟨ι, Z, τ, h, hr, er, q⟩ => q ι Z H [] Stp.refl hr rfl
  | e :: es, _, .cons hx ns t => pa_imp (pa_cons (pe_imp hx.val fun _ _ _ p => rdV_N p) (pa_vals t) (star_cons ns)) fun σ H Q ⟨ι, Z, τ, h, hr, er, q⟩ => by
    simp only [evs] at q
    refine rdV_next hr er q fun v H1 ι1 Z1 h1 u s1 hr1 er1 r1 q1 => ?_
    refine rdVs_next hr1 er1 q1 fun vs H2 ι2 Z2 h2 us s2 hr2 er2 r2 q2 => ?_
    exact q2 ι2 Z2 H2 _ Stp.refl hr2 ⟨v, vs, rfl, VR.go hr1.fits s2 u v r1, r2⟩
theorem pa_opds : ∀ {es : List E} {xs : List Expr}, SdL X C Wx es xs → PA X xs (rdPs X.K C Wx es)
  | _, _, .nil => pa_imp pa_nil fun σ H Q ⟨ι, Z, τ, h, hr, er, q⟩ => q ι Z H [] Stp.refl hr rfl
  | e :: es, _, .cons hx ns t => pa_imp (pa_cons hx.opd (pa_opds t) (star_cons ns)) fun σ H Q ⟨ι, Z, τ, h, hr, er, q⟩ => by
    simp only [evs] at q
    refine rdO_next hr er q fun v H1 ι1 Z1 h1 u s1 hr1 er1 r1 q1 => ?_
    refine rdPs_next hr1 er1 q1 fun vs H2 ι2 Z2 h2 us s2 hr2 er2 r2 q2 => ?_
    exact q2 ι2 Z2 H2 _ Stp.refl hr2 ⟨v, vs, rfl, r1.go hr1 s2, r2⟩
theorem sd_tup {es : List E} {xs : List Expr} {k : Nat} {pos : Pos} (h : SdL X C Wx es xs) : Sd X C Wx (.tup es) (.Tuple xs k pos) := by
  refine Sd.of (pe_imp (pe_tup (pa_vals h)) fun σ H Q ⟨ι, Z, τ, h, hr, er, q⟩ => ?_) (fun _ _ => rfl) (fun _ _ => rfl) rfl
  simp only [ev, fin] at q
  refine rdVs_next hr er q fun vs H1 ι1 Z1 h1 ws s1 hr1 er1 r1 q1 => ?_
  split at q1
  · rename_i hz
    have l := VRs.length r1
    exact ⟨by omega, fun p hp => new_tup hr1 hp (by omega) r1 fun H' z st hr' vn => q1 ι1 Z1 H' z st hr' (vn.base s1)⟩
  · exact q1.elim
theorem fr_lst {es : List E} {xs : List Expr} {pos : Pos} (h : SdL X C Wx es xs) : PE X (.List xs pos) (rdF X.K C Wx (.lst es)) := by
  refine pe_imp (pe_lst (pa_vals h)) fun σ H Q ⟨ι, Z, τ, h, hr, er, q⟩ => ?_
  simp only [ev, fin] at q
  refine rdVs_next hr er q fun vs H1 ι1 Z1 h1 ws s1 hr1 er1 r1 q1 => ?_
  split at q1
  · rename_i hz
    have l := VRs.length r1
    exact ⟨by omega, fun p hp => new_lstF hr1 hp (by omega) r1 fun H' z st hr' vn => q1 ι1 Z1 H' z st hr' (vn.base s1)⟩
  · exact q1.elim
theorem Sd.fr {e : E} {a : Expr} (h : PE X a (rdF X.K C Wx e)) (hv : ∀ τ h, ev C τ e .opd h = ev C τ e .val h) (ht : ∀ τ h, ev C τ e .tst h = (ev C τ e .opd h).bind fun u h => .of ((truW (view h u)).map .bl) h) (hp : plainT a = true) : Sd X C Wx e a :=
  Sd.of (pe_imp h fun _ _ _ p => rdF_N p) hv ht hp
theorem sd_lst {es : List E} {xs : List Expr} {pos : Pos} (h : SdL X C Wx es xs) : Sd X C Wx (.lst es) (.List xs pos) := Sd.fr (fr_lst h) (fun _ _ => rfl) (fun _ _ => rfl) rfl
theorem VRs.flat {K : PySem.W.Frag} {H : Hp} {ι : List Addr} {Z : Ads} {ws : List W} {vs : List V} (r : VRs K H ι Z ws vs) : ∀ n, VRs K H ι Z (List.replicate n ws).flatten (List.replicate n vs).flatten
  | 0 => rfl
  | n + 1 => by
    rw [List.replicate_succ, List.replicate_succ, List.flatten_cons, List.flatten_cons]
    exact r.app (VRs.flat r n)
theorem flat_len {α : Type} (xs : List α) : ∀ n, (List.replicate n xs).flatten.length = n * xs.length
  | 0 => by simp
  | n + 1 => by rw [List.replicate_succ, List.flatten_cons, List.length_append, flat_len xs n, Nat.succ_mul, Nat.add_comm]
theorem fr_rep {es : List E} {n : E} {xs : List Expr} {n' : Expr} {p1 pos : Pos} (h : SdL X C Wx es xs) (hn : Sd X C Wx n n') : PE X (.BinOp (.List xs p1) .Mult n' pos) (rdF X.K C Wx (.rep es n)) := by
  refine pe_imp (pe_op op_rep (pe_lst (pa_vals h)) hn.opd) fun σ H Q ⟨ι, Z, τ, h, hr, er, q⟩ => ?_
  simp only [ev, fin] at q
  refine rdVs_next hr er q fun vs H1 ι1 Z1 h1 ws s1 hr1 er1 r1 q1 => ?_
  have l := VRs.length r1
  split at q1
  · rename_i hz
    refine ⟨by omega, fun p hp => ?_⟩
    have st : Stp no ι1 Z1 H1 ι1 Z1 (upd H1 p (.lst vs)) := Stp.laid hp
    have q2 := q1.later st
    refine rdO_next (hr1.laid hp) (er1.go hr1 st) q2 fun v H2 ι2 Z2 h2 u s2 hr2 er2 r2 q3 => ?_
    obtain ⟨w, e, q4⟩ := Ps.of_some q3
    split at e
    · rename_i b
      split at e
      · rename_i z
        cases e
        cases VP.int r2 (show intW (.int b) = some b from rfl)
        have np : p ∉ ι1 := fun hi => by
          obtain ⟨_, o, _, _, ro⟩ := hr1.atA hi
          exact ro.kind.2.2 hp
        refine ⟨p, b, vs, rfl, rfl, s2.keep p _ upd_same (fun _ z => nomatch z) np (fun q => q), z.1, z.2.1, by rw [← l]; exact z.2.2, fun a ha => ?_⟩
        exact new_lstF hr2 ha (by rw [flat_len, Nat.mul_comm, ← l]; exact z.2.2) ((VRs.go hr1.fits (st.trans0 s2) ws vs r1).flat _) fun H' z st' hr' vn => q4 ι2 Z2 H' z st' hr' (((vn.base s2).base (s := st)).base s1)
      · cases e
    · cases e
  · exact q1.elim
theorem sd_rep {es : List E} {n : E} {xs : List Expr} {n' : Expr} {p1 pos : Pos} (h : SdL X C Wx es xs) (hn : Sd X C Wx n n') : Sd X C Wx (.rep es n) (.BinOp (.List xs p1) .Mult n' pos) := Sd.fr (fr_rep h hn) (fun _ _ => rfl) (fun _ _ => rfl) rfl
end
end Bd
/-! Items, calls, what a loop walks, comprehensions. -/
namespace Bd
open PySem PySem.Spec PyProof.Rows L2

section
variable {F : List Str} {X : Cx} {C : Ctx} {N : List Str} {sc : Scope} {Wx : WX}
theorem sd_ix {x i : E} {x' i' : Expr} {pos : Pos} (hx : Sd X C Wx x x') (hi : Sd X C Wx i i') (hs : notSlice i' = true) : Sd X C Wx (.ix x i) (.Subscript x' i' pos) := by
  have hp : PlainIx i' := by
    intro o v
    cases i' <;> first | rfl | cases hs
  refine Sd.of (pe_imp (pe_ix ix_W hx.opd hi.opd hp) fun σ H Q ⟨ι, Z, τ, h, hr, er, q⟩ => ?_) (fun _ _ => rfl) (fun _ _ => rfl) rfl
  simp only [ev, fin] at q
  refine rdO_next hr er q fun v1 H1 ι1 Z1 h1 u s1 hr1 er1 r1 q1 => ?_
  refine rdO_next hr1 er1 q1 fun v2 H2 ι2 Z2 h2 v s2 hr2 er2 r2 q2 => ?_
  obtain ⟨w, e, q3⟩ := Ps.of_some q2
  have r2 : VB X.K H2 ι2 Z2 v v2 := by
    rcases r2 with r | ⟨o, a, e1, e2, _, r⟩
    · exact .inl r
    · exact .inr ⟨o, a, e1, e2, r⟩
  exact ⟨ι2, Z2, h2, _, _, w, hr2, (r1.go hr1 s2).view hr2, r2, e, fun z r => q3 ι2 Z2 H2 z Stp.refl hr2 (.inl r)⟩
inductive SdO (X : Cx) (C : Ctx) (Wx : WX) : Option E → Option Expr → Prop
  | none : SdO X C Wx none none
  | some {e : E} {a : Expr} : Sd X C Wx e a → SdO X C Wx (some e) (some a)
theorem po_of {e : Option E} {a : Option Expr} (h : SdO X C Wx e a) : PO X a (rdI X.K C Wx e) := by
  cases h with
  | none => exact po_imp po_none fun σ H Q ⟨ι, Z, τ, h, hr, er, q⟩ => q ι Z H none Stp.refl hr rfl
  | some hx =>
    refine po_imp (po_some hx.opd) fun σ H Q ⟨ι, Z, τ, h, hr, er, q⟩ => ?_
    simp only [evo] at q
    refine rdO_next hr er q fun v1 H1 ι1 Z1 h1 u s1 hr1 er1 r1 q1 => ?_
    obtain ⟨w, e, q3⟩ := Ps.of_some q1
    obtain ⟨i, e2, rfl⟩ := Option.map_eq_some_iff.mp e
    exact ⟨i, r1.int e2, q3 ι1 Z1 H1 _ Stp.refl hr1 rfl⟩
theorem sd_sl {x : E} {x' : Expr} {lo hi : Option E} {lo' hi' : Option Expr} {p2 pos : Pos} (hx : Sd X C Wx x x') (hl : SdO X C Wx lo lo') (hh : SdO X C Wx hi hi') : Sd X C Wx (.sl x lo hi) (.Subscript x' (.Slice lo' hi' none p2) pos) := by
  refine Sd.of (pe_imp (pe_slice sl_W hx.opd (po_of hl) (po_of hh)) fun σ H Q ⟨ι, Z, τ, h, hr, er, q⟩ => ?_) (fun _ _ => rfl) (fun _ _ => rfl) rfl
  simp only [ev, fin] at q
  refine rdO_next hr er q fun v1 H1 ι1 Z1 h1 u s1 hr1 er1 r1 q1 => ?_
  refine rdI_next hr1 er1 q1 fun v2 H2 ι2 Z2 h2 l s2 hr2 er2 r2 q2 => ?_
  have r2 : l = v2 := r2
  subst r2
  refine rdI_next hr2 er2 q2 fun v3 H3 ι3 Z3 h3 r s3 hr3 er3 r3 q3 => ?_
  have r3 : r = v3 := r3
  subst r3
  obtain ⟨w, e, q4⟩ := Ps.of_some q3
  exact ⟨ι3, Z3, h3, _, w, hr3, ((r1.go hr1 s2).go hr2 s3).view hr3, e, fun H' z st hr' vn => q4 ι3 Z3 H' z st hr' (((vn.base s3).base s2).base s1)⟩
theorem sd_rev {x : E} {x' : Expr} {k : Nat} {p1 p2 p3 pos : Pos} (hx : Sd X C Wx x x') : Sd X C Wx (.rev x) (.Subscript x' (.Slice none none (some (.UnaryOp .USub (.Constant (.int 1) k p1) p2)) p3) pos) := by
  refine Sd.of (pe_imp (pe_revL hx.opd) fun σ H Q ⟨ι, Z, τ, h, hr, er, q⟩ => ?_) (fun _ _ => rfl) (fun _ _ => rfl) rfl
  simp only [ev, fin] at q
  refine rdO_next hr er q fun v1 H1 ι1 Z1 h1 u s1 hr1 er1 r1 q1 => ?_
  obtain ⟨w, e, q3⟩ := Ps.of_some q1
  split at e
  · rename_i ws e2
    cases e
    have r2 := r1.view hr1
    rw [e2] at r2
    obtain ⟨a, vs, e3, h1, l, t⟩ := r2.lst
    exact ⟨a, vs, e3, h1, fun p hp => new_lst hr1 hp (by rw [List.length_reverse]; exact l) t.rev fun H' z st hr' vn => q3 ι1 Z1 H' z st hr' (vn.base s1)⟩
  · cases e
/-! ### calls -/
theorem Ps.slots {K : PySem.W.Frag} {ι : List Addr} {Z : Ads} {H : Hp} {r : R W} {Q : VK} {σ : L2.St} (p : Ps K (VR K) Wx σ ι Z H r Q) : Ps K (VR K) (fun cls d _ H => Wx cls d σ H) [] ι Z H r Q := by
  cases r with
  | ok a h' => exact p
  | exc c ws h' => exact p
  | bad => exact p
theorem sd_call (G : Gd F X C N sc Wx) {es : List E} {xs : List Expr} {f : Str} {p pos : Pos} (h : SdL X C Wx es xs) (ne : xs ≠ []) (hF : F.contains f = true) (hN : f ≠ "<lambda>") (hg : glB sc f = true) (hd : dbg f = false) : Sd X C Wx (.call f es) (.Call (.Name f p) xs [] pos) := by
  obtain ⟨a, fd, ps, k, hm, hk, hb, hr, ok⟩ := G.fns f hF hN
  cases h with
  | nil => exact absurd rfl ne
  | @cons e x es xs hx ns t =>
    have hp := pe_callS (pos := pos) (p := p) ok hr (G.gl hg) hm hk hb (fun σ => passAt G.tk σ) (pa_vals (.cons hx ns t)) (dbg_ok hd).1 (star_cons ns) (star_none t)
    refine Sd.of (pe_imp hp fun σ H Q ⟨ι, Z, τ, h, hr, er, q⟩ => ?_) (fun _ _ => rfl) (fun _ _ => rfl) rfl
    simp only [ev, fin] at q
    refine rdVs_next hr er q fun vs H1 ι1 Z1 h1 ws s1 hr1 er1 r1 q1 => ?_
    exact ⟨ι1, Z1, h1, ws, hr1, r1, Ps.slots (q1.rel fun _ _ _ _ _ _ r => .inl r)⟩
theorem sd_bi (G : Gd F X C N sc Wx) {b : Bi} {es : List E} {xs : List Expr} {p pos : Pos} (h : SdL X C Wx es xs) (ne : xs ≠ []) (hg : glB sc b.nm = true) : Sd X C Wx (.bi b es) (.Call (.Name b.nm p) xs [] pos) := by
  have hm : X.mg b.nm = none := G.free _ (by cases b <;> decide +kernel)
  cases h with
  | nil => exact absurd rfl ne
  | @cons e x es xs hx ns t =>
    have hp : PE X (.Call (.Name b.nm p) (x :: xs) [] pos) (tCB (rBi X.K b) (rdPs X.K C Wx (e :: es))) := by
      have hc := cr_bi G.calm b
      have hv := b.boot
      rcases b.fn_cases with ⟨id, e1⟩ | ⟨id, e1⟩
      · rw [e1] at hc hv
        exact pe_callB hc (G.gl hg) hm hv (pa_opds (.cons hx ns t)) b.nm_ne.1 b.nm_ne.2 (star_cons ns) (star_none t)
      · rw [e1] at hc hv
        exact pe_callTy hc (G.gl hg) hm hv (pa_opds (.cons hx ns t)) b.nm_ne.1 b.nm_ne.2 (star_cons ns) (star_none t)
    refine Sd.of (pe_imp hp fun σ H Q ⟨ι, Z, τ, h, hr, er, q⟩ => ?_) (fun _ _ => rfl) (fun _ _ => rfl) rfl
    simp only [ev, fin] at q
    refine rdPs_next hr er q fun vs H1 ι1 Z1 h1 ws s1 hr1 er1 r1 q1 => ?_
    obtain ⟨w, e2, q3⟩ := Ps.of_some q1
    exact ⟨ι1, Z1, h1, _, w, hr1, VPs.view hr1 r1, e2, fun H' z st hr' vn => q3 ι1 Z1 H' z st hr' (vn.base s1)⟩
theorem pa_tys (G : Gd F X C N sc Wx) : ∀ {ts : List Ty} {xs : List Expr}, tysB sc ts xs = true → PA X xs (fun _ H Q => Q (ts.map fun (t : Ty) => V.ty t.nm) H)
  | [], [], _ => pa_imp pa_nil fun _ _ _ q => q
  | [], _ :: _, h => by cases h
  | _ :: _, [], h => by cases h
  | t :: ts, x :: xs, h => by
    cases x with
    | Name x p =>
      have h : (decide (x = t.sn) && glB sc x && tysB sc ts xs) = true := h
      rw [Bool.and_eq_true, Bool.and_eq_true, decide_eq_true_eq] at h
      obtain ⟨⟨rfl, h2⟩, h3⟩ := h
      have hm : X.mg t.sn = none := G.free _ (by cases t <;> decide +kernel)
      exact pa_imp (pa_cons (pe_bltn (v := .ty t.nm) (G.gl h2) hm t.boot rfl t.sn_ne.1 t.sn_ne.2) (pa_tys G h3) (by rfl)) fun _ _ _ q => q
    | _ => cases h
theorem sd_isi (G : Gd F X C N sc Wx) {x : E} {x' t' : Expr} {tys : List Ty} {p pos : Pos} (hx : Sd X C Wx x x') (ns : notStar x' = true) (hg : glB sc "isinstance" = true) (hl : tys.length ≤ 9)
    (ht : (match t' with
      | .Tuple ts _ _ => tysB sc tys ts
      | t => tysB sc tys [t]) = true) : Sd X C Wx (.isi x tys) (.Call (.Name "isinstance" p) [x', t'] [] pos) := by
  have hm : X.mg "isinstance" = none := G.free _ (by decide +kernel)
  have hv : bootBuiltins "isinstance" = some (.builtin "isinstance") := by decide +kernel
  have val : ∀ {H v H1 ι1 Z1 h1 u Q σ}, HR X.K H1 ι1 Z1 h1 → VP X.K H1 ι1 Z1 u v → Ps X.K (VN X.K H) Wx σ ι1 Z1 H1 (.of ((clsW (view h1 u)).map fun _ => W.bl (tys.any fun t => isTy t (view h1 u))) h1) Q →
      ∃ c, TyX X.K H1 v (.type c) ∧ (∀ t, PySem.W.kitOne X.K (.type c) (.type (t : Ty).nm) = some (isTy t (view h1 u))) ∧ PySem.W.kitAny X.K (.type c) (tys.map fun (t : Ty) => Value.type t.nm) = some (tys.any fun t => isTy t (view h1 u)) ∧
        ∀ H', Stp no ι1 Z1 H1 ι1 Z1 H' → HR X.K H' ι1 Z1 h1 → Q (.bl (tys.any fun t => isTy t (view h1 u))) H' := fun {H v H1 ι1 Z1 h1 u Q σ} hr1 r1 q1 => by
    obtain ⟨w, e, q2⟩ := Ps.of_some q1
    obtain ⟨c, e2, rfl⟩ := Option.map_eq_some_iff.mp e
    obtain ⟨c', e3, ty⟩ := (r1.view hr1).ty fun k e => by rw [e] at e2; cases e2
    rw [e2] at e3
    cases e3
    exact ⟨c, ty, fun t => kit_isTy t e2, kit_any e2 tys, fun H' st hr' => q2 ι1 Z1 H' _ st hr' (.inl rfl)⟩
  have single : tysB sc tys [t'] = true → (∀ ts k p2, t' ≠ .Tuple ts k p2) → Sd X C Wx (.isi x tys) (.Call (.Name "isinstance" p) [x', t'] [] pos) := fun ht _ => by
    have he : (backTo pos (starEach [t'] X.env)).any (·.1) = false := by
      cases tys with
      | nil => cases ht
      | cons t ts =>
        cases t' with
        | Name y p => rfl
        | _ => cases ht
    refine Sd.of (pe_imp (pe_callB call_isi (G.gl hg) hm hv (pa_cons hx.opd (pa_tys G ht) (star_cons ns)) (by decide +kernel) (by decide +kernel) (star_cons ns) he) fun σ H Q ⟨ι, Z, τ, h, hr, er, q⟩ => ?_) (fun _ _ => rfl) (fun _ _ => rfl) rfl
    simp only [ev, fin] at q
    refine rdO_next hr er q fun v1 H1 ι1 Z1 h1 u s1 hr1 er1 r1 q1 => ?_
    obtain ⟨c, ty, ko, _, q2⟩ := val hr1 r1 q1
    cases tys with
    | nil => cases ht
    | cons t ts =>
      cases ts with
      | nil =>
        have q3 := q2 H1 Stp.refl hr1
        rw [List.any_cons, List.any_nil, Bool.or_false] at q3
        exact ⟨v1, .ty t.nm, .type c, .type t.nm, _, rfl, .ty _, ty, ko t, q3⟩
      | cons t2 ts =>
        cases t' with
        | Name y p2 =>
          have h : (decide (y = t.sn) && glB sc y && tysB sc (t2 :: ts) []) = true := ht
          rw [Bool.and_eq_true] at h
          cases h.2
        | _ => cases ht
  cases t' with
  | Tuple ts k p2 =>
    have ht : tysB sc tys ts = true := ht
    have hp := pe_tup (pos := p2) (x1 := k) (pa_tys G ht)
    refine Sd.of (pe_imp (pe_callB call_isiT (G.gl hg) hm hv (pa_cons hx.opd (pa_cons hp pa_nil (by rfl)) (star_cons ns)) (by decide +kernel) (by decide +kernel) (star_cons ns) (by rfl)) fun σ H Q ⟨ι, Z, τ, h, hr, er, q⟩ => ?_) (fun _ _ => rfl) (fun _ _ => rfl) rfl
    simp only [ev, fin] at q
    refine rdO_next hr er q fun v1 H1 ι1 Z1 h1 u s1 hr1 er1 r1 q1 => ?_
    refine ⟨by rw [List.length_map, sizeLine_eq]; omega, fun a ha => ?_⟩
    have st : Stp no ι1 Z1 H1 ι1 Z1 (upd H1 a (.tup (tys.map fun (t : Ty) => V.ty t.nm))) := Stp.laid ha
    have hr2 := hr1.laid (o := .tup (tys.map fun (t : Ty) => V.ty t.nm)) ha
    obtain ⟨c, ty, _, ka, q2⟩ := val hr2 (r1.go hr1 st) (q1.later st)
    exact ⟨v1, a, _, .type c, _, _, rfl, upd_same, cls_all tys, ty, ka, q2 _ Stp.refl hr2⟩
  | _ => exact single ht (fun _ _ _ e => by cases e)
end
end Bd
/-! Targets, what a loop walks, comprehensions, all expressions. -/
namespace Bd
open PySem PySem.Spec PyProof.Rows L2

/-! ### targets -/
section
variable {K : PySem.W.Frag} {H : Hp} {ι : List Addr} {Z : Ads} {σ : L2.St} {τ : Env}
theorem ER.set {i : Nat} {w : W} {v : V} (e : ER K H ι Z σ τ) (r : VR K H ι Z w v) : ER K H ι Z (σ.set i (some v)) (τ.set i (.v w)) where
  len := by rw [List.length_set, List.length_set]; exact e.len
  val := fun j u q => by
    by_cases hj : i = j
    · subst hj
      rw [List.getElem?_set_self'] at q ⊢
      have hl := e.len
      cases h1 : τ[i]? with
      | none => rw [h1] at q; cases q
      | some x =>
        rw [h1] at q
        cases q
        have : i < σ.length := by rw [hl]; exact (List.getElem?_eq_some_iff.mp h1).1
        rw [List.getElem?_eq_getElem this]
        exact ⟨v, rfl, r⟩
    · rw [List.getElem?_set_ne hj] at q ⊢
      exact e.val j u q
  own := fun j o q => by
    by_cases hj : i = j
    · subst hj
      rw [List.getElem?_set_self'] at q
      cases h1 : τ[i]? with
      | none => rw [h1] at q; cases q
      | some x => rw [h1] at q; cases q
    · rw [List.getElem?_set_ne hj] at q ⊢
      exact e.own j o q
  apart := fun j k o o' a jk q1 q2 q3 => by
    have n1 : i ≠ j := fun z => by
      subst z
      rw [List.getElem?_set_self'] at q1
      cases h1 : τ[i]? with
      | none => rw [h1] at q1; cases q1
      | some x => rw [h1] at q1; cases q1
    have n2 : i ≠ k := fun z => by
      subst z
      rw [List.getElem?_set_self'] at q2
      cases h1 : τ[i]? with
      | none => rw [h1] at q2; cases q2
      | some x => rw [h1] at q2; cases q2
    rw [List.getElem?_set_ne n1] at q1 q3
    rw [List.getElem?_set_ne n2] at q2 ⊢
    exact e.apart j k o o' a jk q1 q2 q3
theorem ER.wipe1 {i : Nat} (e : ER K H ι Z σ τ) : ER K H ι Z (σ.set i none) (τ.set i .no) where
  len := by rw [List.length_set, List.length_set]; exact e.len
  val := fun j u q => by
    by_cases hj : i = j
    · subst hj
      rw [List.getElem?_set_self'] at q
      cases h1 : τ[i]? with
      | none => rw [h1] at q; cases q
      | some x => rw [h1] at q; cases q
    · rw [List.getElem?_set_ne hj] at q ⊢
      exact e.val j u q
  own := fun j o q => by
    by_cases hj : i = j
    · subst hj
      rw [List.getElem?_set_self'] at q
      cases h1 : τ[i]? with
      | none => rw [h1] at q; cases q
      | some x => rw [h1] at q; cases q
    · rw [List.getElem?_set_ne hj] at q ⊢
      exact e.own j o q
  apart := fun j k o o' a jk q1 q2 q3 => by
    have n1 : i ≠ j := fun z => by
      subst z
      rw [List.getElem?_set_self'] at q1
      cases h1 : τ[i]? with
      | none => rw [h1] at q1; cases q1
      | some x => rw [h1] at q1; cases q1
    have n2 : i ≠ k := fun z => by
      subst z
      rw [List.getElem?_set_self'] at q2
      cases h1 : τ[i]? with
      | none => rw [h1] at q2; cases q2
      | some x => rw [h1] at q2; cases q2
    rw [List.getElem?_set_ne n1] at q1 q3
    rw [List.getElem?_set_ne n2] at q2 ⊢
    exact e.apart j k o o' a jk q1 q2 q3
theorem ER.wipe (e : ER K H ι Z σ τ) : ∀ vs : List Nat, ER K H ι Z (L2.wipe σ vs) (wipeW τ vs)
  | [] => e
  | v :: vs => (ER.wipe e vs).wipe1
end
section
variable (K : PySem.W.Frag)
def rdTg (t : Tg) : TG := fun v σ H Q => ∃ ι Z h τ w τ', HR K H ι Z h ∧ ER K H ι Z σ τ ∧ VR K H ι Z w v ∧ bindT t w τ = some τ' ∧ ∀ σ', ER K H ι Z σ' τ' → σ'.length = σ.length → (∀ i : Nat, i ∉ t.vars → σ'[i]? = σ[i]?) → Q σ' H
def rdTgs (ts : List Tg) : TGs := fun vs σ H Q => ∃ ι Z h τ ws τ', HR K H ι Z h ∧ ER K H ι Z σ τ ∧ VRs K H ι Z ws vs ∧ bindTs ts ws τ = some τ' ∧ ∀ σ', ER K H ι Z σ' τ' → σ'.length = σ.length → (∀ i : Nat, i ∉ Tg.varss ts → σ'[i]? = σ[i]?) → Q σ' H
end
theorem pg_imp {X : Cx} {e : Expr} {t t' : TG} (p : PG X e t) (i : ∀ v σ H Q, t' v σ H Q → t v σ H Q) : PG X e t' := ⟨fun pins s σ H v u Q I r h => p.run pins s σ H v u Q I r (i v σ H Q h)⟩
theorem pgs_imp {X : Cx} {e : List Expr} {t t' : TGs} (p : PGs X e t) (i : ∀ v σ H Q, t' v σ H Q → t v σ H Q) : PGs X e t' := ⟨fun pins s σ H v u Q I r h => p.run pins s σ H v u Q I r (i v σ H Q h)⟩
theorem assign_cons {a : Expr} {as : List Expr} {env : PySem.Env} (h : notStar a = true) : assignEach (a :: as) env = (false, assign a env) :: assignEach as env := by
  cases a <;> first | rfl | cases h
theorem bindTs_len : ∀ {ts : List Tg} {ws : List W} {τ τ' : Env}, bindTs ts ws τ = some τ' → ts.length = ws.length
  | [], [], _, _, _ => rfl
  | [], _ :: _, _, _, h => by cases h
  | _ :: _, [], _, _, h => by cases h
  | t :: ts, w :: ws, τ, τ', h => by
    have h : (match bindT t w τ with
      | some τ1 => bindTs ts ws τ1
      | none => none) = some τ' := h
    split at h
    · simp [bindTs_len h]
    · cases h
section
variable {F : List Str} {X : Cx} {C : Ctx} {N : List Str} {sc : Scope} {Wx : WX}
theorem tgs_star {sc : Scope} : ∀ {ts : List Tg} {xs : List Expr} {env : PySem.Env}, tgsB N sc ts xs = true → (assignEach xs env).length = ts.length ∧ (assignEach xs env).findIdx? (·.1) = none
  | [], [], _, _ => ⟨rfl, rfl⟩
  | [], _ :: _, _, h => by cases h
  | _ :: _, [], _, h => by cases h
  | t :: ts, x :: xs, env, h => by
    have h : (notStar x && tgB N sc t x && tgsB N sc ts xs) = true := h
    rw [Bool.and_eq_true, Bool.and_eq_true] at h
    obtain ⟨h1, h2⟩ := tgs_star (env := env) h.2
    rw [assign_cons h.1.1]
    refine ⟨by simp [h1], ?_⟩
    rw [List.findIdx?_cons]
    simp [h2]
mutual
theorem pg_tg {ts : Scope} (G : Gd F X C N sc Wx) (L : Ts X ts) : ∀ (t : Tg) (a : Expr), tgB N ts t a = true → PG X a (rdTg X.K t)
  | .var i, a, h => by
    cases a with
    | Name x p =>
      have h : (decide (N[i]? = some x) && locB ts x) = true := h
      rw [Bool.and_eq_true, decide_eq_true_eq] at h
      have hl : L2.Loc X.env.scope x := L.loc x h.2
      have hf : X.fn x = true ∨ X.env.scope.names.lookup x = some .local := by
        rcases locB_ok h.2 with k | k
        · exact .inr (L.lc x k)
        · exact .inl (L.fn x k)
      refine pg_imp (pg_name (i := i) (by rw [G.eN]; exact G.nd) (by rw [G.eN]; exact h.1) hl hf) fun v σ H Q ⟨ι, Z, h, τ, w, τ', hr, er, r, e, q⟩ => ?_
      have e : (if i < τ.length then some (τ.set i (.v w)) else none) = some τ' := e
      split at e
      · cases e
        exact q _ (er.set r) (List.length_set) fun j hj => by rw [List.getElem?_set_ne (fun z => hj (by subst z; exact List.mem_singleton_self _))]
      · cases e
    | _ => cases h
  | .tup us, a, h => by
    cases a with
    | Tuple xs k p =>
      have h : tgsB N ts us xs = true := h
      obtain ⟨h1, h2⟩ := tgs_star (env := X.env) h
      refine pg_imp (pg_tup G.calm (pgs_tg G L us xs h) h1 h2) fun v σ H Q ⟨ι, Z, h, τ, w, τ', hr, er, r, e, q⟩ => ?_
      cases w with
      | tup ws =>
        have e : bindTs us ws τ = some τ' := e
        obtain ⟨b, vs, e1, hq, l, t⟩ := r
        exact ⟨b, vs, e1, hq, by rw [← t.length]; exact (bindTs_len e).symm, ι, Z, h, τ, ws, τ', hr, er, t, e, q⟩
      | _ => cases (show (none : Option Env) = some τ' from e)
    | _ => cases h
theorem pgs_tg {ts : Scope} (G : Gd F X C N sc Wx) (L : Ts X ts) : ∀ (us : List Tg) (xs : List Expr), tgsB N ts us xs = true → PGs X xs (rdTgs X.K us)
  | [], [], _ => pgs_imp pgs_nil fun vs σ H Q ⟨ι, Z, h, τ, ws, τ', hr, er, r, e, q⟩ => by
    cases ws with
    | nil => cases e; cases r; exact ⟨rfl, q σ er rfl fun _ _ => rfl⟩
    | cons w ws => cases e
  | [], _ :: _, h => by cases h
  | _ :: _, [], h => by cases h
  | t :: us, x :: xs, h => by
    have h : (notStar x && tgB N ts t x && tgsB N ts us xs) = true := h
    rw [Bool.and_eq_true, Bool.and_eq_true] at h
    refine pgs_imp (pgs_cons (pg_tg G L t x h.1.2) (pgs_tg G L us xs h.2) (by rw [assign_cons h.1.1]; rfl)) fun vs σ H Q ⟨ι, Z, h, τ, ws, τ', hr, er, r, e, q⟩ => ?_
    cases ws with
    | nil => cases e
    | cons w ws =>
      obtain ⟨v, vs', e1, r1, r2⟩ := r
      have e : (match bindT t w τ with
        | some τ1 => bindTs us ws τ1
        | none => none) = some τ' := e
      split at e
      · rename_i τ1 e2
        refine ⟨v, _, e1, ι, Z, h, τ, w, τ1, hr, er, r1, e2, fun σ1 er1 l1 a1 => ⟨ι, Z, h, τ1, ws, τ', hr, er1, r2, e, fun σ2 er2 l2 a2 => q σ2 er2 (l2.trans l1) fun i hi => ?_⟩⟩
        have hi : i ∉ t.vars ++ Tg.varss us := hi
        rw [List.mem_append, not_or] at hi
        exact (a2 i hi.2).trans (a1 i hi.1)
      · cases e
end
end

/-! ### what is walked -/
/-- J gives the items ws, however often the state goes on from (ι0, Z0, H0), M apart -/
structure Wk (K : PySem.W.Frag) (M : Ads) (J : It) (H0 : Hp) (ι0 : List Addr) (Z0 : Ads) (ws : List W) : Prop where
  go : ∀ (i : Nat) ι Z H, Stp M ι0 Z0 H0 ι Z H → i < ws.length → J.go i H
  stop : ∀ (i : Nat) ι Z H, Stp M ι0 Z0 H0 ι Z H → ws.length ≤ i → J.stop i H
  yld : ∀ (i : Nat) ι Z H h x H', Stp M ι0 Z0 H0 ι Z H → HR K H ι Z h → i < ws.length → J.yld i H x H' → ∃ w, ws[i]? = some w ∧ Stp no ι Z H ι Z H' ∧ HR K H' ι Z h ∧ VR K H' ι Z w x
section
variable {K : PySem.W.Frag} {M : Ads} {H : Hp} {ι : List Addr} {Z : Ads} {ws : List W} {vs : List V} {a : Addr}
theorem wk_lst (f : Fits M H ι Z) (t : VRs K H ι Z ws vs) (keep : ∀ ι' Z' H', Stp M ι Z H ι' Z' H' → SqL K H' a vs) : Wk K M (Itl K a) H ι Z ws where
  go := fun i ι' Z' H' s hi => by
    obtain ⟨v, e, _⟩ := t.get (i := i) (List.getElem?_eq_getElem hi)
    exact ⟨vs, v, keep _ _ _ s, e⟩
  stop := fun i ι' Z' H' s hi => ⟨vs, keep _ _ _ s, by rw [← t.length]; exact hi⟩
  yld := fun i ι' Z' H' h x H2 s hr hi ⟨e1, e2⟩ => by
    subst e1
    have e3 := e2 vs (keep _ _ _ s)
    obtain ⟨v, e4, r⟩ := t.get (i := i) (List.getElem?_eq_getElem hi)
    rw [e3] at e4
    cases e4
    exact ⟨_, List.getElem?_eq_getElem hi, Stp.refl, hr, VR.go f s _ _ r⟩
theorem wk_tup (f : Fits M H ι Z) (t : VRs K H ι Z ws vs) (hq : SqT K H a vs) : Wk K M (Itt K a) H ι Z ws where
  go := fun i ι' Z' H' s hi => by
    obtain ⟨v, e, _⟩ := t.get (i := i) (List.getElem?_eq_getElem hi)
    exact ⟨vs, v, SqT.go f s hq, e⟩
  stop := fun i ι' Z' H' s hi => ⟨vs, SqT.go f s hq, by rw [← t.length]; exact hi⟩
  yld := fun i ι' Z' H' h x H2 s hr hi ⟨e1, e2⟩ => by
    subst e1
    have e3 := e2 vs (SqT.go f s hq)
    obtain ⟨v, e4, r⟩ := t.get (i := i) (List.getElem?_eq_getElem hi)
    rw [e3] at e4
    cases e4
    exact ⟨_, List.getElem?_eq_getElem hi, Stp.refl, hr, VR.go f s _ _ r⟩
theorem wk_rng {lo : Int} {n : Nat} : Wk K M (Itr lo n) H ι Z ((List.range n).map fun (k : Nat) => W.int (lo + k)) where
  go := fun i ι' Z' H' s hi => by show i < n; simpa using hi
  stop := fun i ι' Z' H' s hi => by show n ≤ i; simpa using hi
  yld := fun i ι' Z' H' h x H2 s hr hi ⟨e1, e2⟩ => by
    subst e1 e2
    have hi : i < n := by simpa using hi
    refine ⟨.int (lo + i), ?_, Stp.refl, hr, rfl⟩
    rw [List.getElem?_map, List.getElem?_range hi]
    rfl
end
section
variable (K : PySem.W.Frag) (C : Ctx) (Wx : WX)
/-- as an operand (in a comprehension), as a value (in a for) -/
def rdS (s : Src) : TI := rdG K Wx (fun _ H ι Z (ws : List W) (J : It) => Wk K no J H ι Z ws) fun τ h => evSrc C τ s .opd h
def rdSv (s : Src) : TI := rdG K Wx (fun _ H ι Z (ws : List W) (J : It) => ∀ M, Fits M H ι Z → Wk K M J H ι Z ws) fun τ h => evSrc C τ s .val h
end
section
variable {F : List Str} {X : Cx} {C : Ctx} {N : List Str} {sc : Scope} {Wx : WX}
theorem pi_ofO {tg a : Expr} {x : E} (hx : Sd X C Wx x a) : PI X tg a (rdS X.K C Wx (.of x)) := by
  refine pi_imp (pi_or (pi_list hx.opd) (pi_tup hx.opd)) fun σ H R ⟨ι, Z, τ, h, hr, er, q⟩ => ?_
  simp only [evSrc] at q
  cases e : ev C τ x .opd h with
  | bad => rw [e] at q; exact q.elim
  | exc c ws h' =>
    rw [e] at q
    exact .inl ⟨ι, Z, τ, h, hr, er, by dsimp only; rw [e]; exact q⟩
  | ok w h' =>
    rw [e] at q
    obtain ⟨ws, e2, q2⟩ := Ps.of_some (α := List W) q
    cases w with
    | lst us =>
      cases e2
      refine .inl ⟨ι, Z, τ, h, hr, er, ?_⟩
      dsimp only
      rw [e]
      intro ι' Z' H' v st hr' r
      rcases r with ⟨a, vs, e3, h1, z, l, t⟩ | ⟨o, a, e3, e4, ni, r⟩
      · exact ⟨a, e3, ⟨vs, h1⟩, q2 ι' Z' H' _ st hr' (wk_lst hr'.fits t fun _ _ _ s => SqL.go hr'.fits s z h1)⟩
      · cases o with
        | lst us' =>
          cases e3
          obtain ⟨vs, e5, l, t⟩ := r
          exact ⟨a, e4, ⟨vs, SqL.of e5⟩, q2 ι' Z' H' _ st hr' (wk_lst hr'.fits t fun _ _ _ s => SqL.of (s.keep a _ e5 (fun _ z => nomatch z) ni fun q => q))⟩
        | _ => exact r.elim
    | tup us =>
      cases e2
      refine .inr ⟨ι, Z, τ, h, hr, er, ?_⟩
      dsimp only
      rw [e]
      intro ι' Z' H' v st hr' r
      rcases r with ⟨a, vs, e3, h1, l, t⟩ | ⟨o, a, e3, e4, ni, r⟩
      · exact ⟨a, e3, ⟨vs, h1⟩, q2 ι' Z' H' _ st hr' (wk_tup hr'.fits t h1)⟩
      · cases o with
        | lst us' => cases e3
        | _ => exact r.elim
    | _ => cases e2
theorem pi_ofV {tg a : Expr} {x : E} (hx : Sd X C Wx x a) : PI X tg a (rdSv X.K C Wx (.of x)) := by
  have hv : PE X a (rdV X.K C Wx x) := pe_imp hx.val fun _ _ _ p => rdV_N p
  refine pi_imp (pi_or (pi_list hv) (pi_tup hv)) fun σ H R ⟨ι, Z, τ, h, hr, er, q⟩ => ?_
  simp only [evSrc] at q
  cases e : ev C τ x .val h with
  | bad => rw [e] at q; exact q.elim
  | exc c ws h' =>
    rw [e] at q
    exact .inl ⟨ι, Z, τ, h, hr, er, by dsimp only; rw [e]; exact q⟩
  | ok w h' =>
    rw [e] at q
    obtain ⟨ws, e2, q2⟩ := Ps.of_some (α := List W) q
    cases w with
    | lst us =>
      cases e2
      refine .inl ⟨ι, Z, τ, h, hr, er, ?_⟩
      dsimp only
      rw [e]
      intro ι' Z' H' v st hr' ⟨a, vs, e3, h1, z, l, t⟩
      exact ⟨a, e3, ⟨vs, h1⟩, q2 ι' Z' H' _ st hr' fun M f => wk_lst f t fun _ _ _ s => SqL.go f s z h1⟩
    | tup us =>
      cases e2
      refine .inr ⟨ι, Z, τ, h, hr, er, ?_⟩
      dsimp only
      rw [e]
      intro ι' Z' H' v st hr' ⟨a, vs, e3, h1, l, t⟩
      exact ⟨a, e3, ⟨vs, h1⟩, q2 ι' Z' H' _ st hr' fun M f => wk_tup f t h1⟩
    | _ => cases e2
theorem rngW_one {w : W} {us : List W} (e : rngW [w] = some us) : ∃ b : Int, w = .int b ∧ -(2 ^ 62) ≤ b ∧ b < 2 ^ 62 ∧ us = (List.range b.toNat).map fun (k : Nat) => W.int (0 + k) := by
  unfold rngW at e
  split at e
  · rename_i b e2
    injection e2 with e2 _
    split at e
    · rename_i z
      cases e
      exact ⟨b, e2, z.1, z.2, by simp⟩
    · cases e
  · rename_i z; cases z
  · cases e
theorem rngW_two {w v : W} {us : List W} (e : rngW [w, v] = some us) : ∃ a b : Int, w = .int a ∧ v = .int b ∧ (-(2 ^ 62) ≤ a ∧ a < 2 ^ 62 ∧ -(2 ^ 62) ≤ b ∧ b < 2 ^ 62) ∧ us = (List.range (b - a).toNat).map fun (k : Nat) => W.int (a + k) := by
  unfold rngW at e
  split at e
  · rename_i z; cases z
  · rename_i a b e2
    injection e2 with e1 e2
    injection e2 with e2 _
    split at e
    · rename_i z
      cases e
      exact ⟨a, b, e1, e2, z, rfl⟩
    · cases e
  · cases e
/-- range(a), range(a, b): what is walked -/
theorem pi_rng (G : Gd F X C N sc Wx) {es : List E} {xs : List Expr} {tg : Expr} {p pos : Pos} {RA : Hp → Rel (List W) It} (hA : ∀ H0 H ι Z lo n, RA H0 H ι Z ((List.range n).map fun (k : Nat) => W.int (lo + k)) (Itr lo n)) (m : Md)
    (h : SdL X C Wx es xs) (hg : glB sc "range" = true) (hl : 1 ≤ xs.length ∧ xs.length ≤ 2) : PI X tg (.Call (.Name "range" p) xs [] pos) (rdG X.K Wx RA fun τ h => evSrc C τ (.rng es) m h) := by
  have hm : X.mg "range" = none := G.free _ (by decide +kernel)
  cases h with
  | nil => exact absurd hl.1 (by simp)
  | @cons e x es xs hx ns t =>
    cases t with
    | nil =>
      refine pi_imp (pi_range1 (G.gl hg) hm (pa_cons hx.opd pa_nil (star_cons ns)) (star_cons ns)) fun σ H R ⟨ι, Z, τ, h, hr, er, q⟩ => ?_
      simp only [evSrc, evs] at q
      have q : Ps X.K (RA H) Wx σ ι Z H ((ev C τ e .opd h).bind fun w h => .of (rngW [w]) h) R := by
        cases e1 : ev C τ e .opd h with
        | ok w h' => rw [e1] at q; exact q
        | exc c ws h' => rw [e1] at q; exact q
        | bad => rw [e1] at q; exact q
      refine rdO_next hr er q fun v H1 ι1 Z1 h1 u s1 hr1 er1 r1 q1 => ?_
      obtain ⟨us, e2, q2⟩ := Ps.of_some q1
      obtain ⟨b, rfl, b1, b2, rfl⟩ := rngW_one e2
      cases r1.int (show intW (.int b) = some b from rfl)
      exact ⟨b, rfl, b1, b2, q2 ι1 Z1 H1 _ Stp.refl hr1 (hA _ _ _ _ _ _)⟩
    | @cons e2 x2 es xs hy ns2 t =>
      cases t with
      | nil =>
        refine pi_imp (pi_range2 (G.gl hg) hm (pa_cons hx.opd (pa_cons hy.opd pa_nil (star_cons ns2)) (star_cons ns)) (by rw [star_cons ns, star_cons ns2]; rfl) (by rw [star_cons ns2]; rfl)) fun σ H R ⟨ι, Z, τ, h, hr, er, q⟩ => ?_
        simp only [evSrc, evs] at q
        have q : Ps X.K (RA H) Wx σ ι Z H ((ev C τ e .opd h).bind fun w h => (ev C τ e2 .opd h).bind fun v h => .of (rngW [w, v]) h) R := by
          cases e1 : ev C τ e .opd h with
          | ok w h' =>
            rw [e1] at q
            show Ps X.K (RA H) Wx σ ι Z H ((ev C τ e2 .opd h').bind fun v h => .of (rngW [w, v]) h) R
            have q : Ps X.K (RA H) Wx σ ι Z H (((ev C τ e2 .opd h').bind fun w h => .ok [w] h).bind (fun ws h => .ok (w :: ws) h) |>.bind fun ws h => .of (rngW ws) h) R := q
            cases e3 : ev C τ e2 .opd h' with
            | ok w h' => rw [e3] at q; exact q
            | exc c ws h' => rw [e3] at q; exact q
            | bad => rw [e3] at q; exact q
          | exc c ws h' => rw [e1] at q; exact q
          | bad => rw [e1] at q; exact q
        refine rdO_next hr er q fun v H1 ι1 Z1 h1 u s1 hr1 er1 r1 q1 => ?_
        refine rdO_next hr1 er1 q1 fun v' H2 ι2 Z2 h2 u' s2 hr2 er2 r2 q2 => ?_
        obtain ⟨us, e4, q3⟩ := Ps.of_some q2
        obtain ⟨a, b, rfl, rfl, z, rfl⟩ := rngW_two e4
        cases r1.int (show intW (.int a) = some a from rfl)
        cases r2.int (show intW (.int b) = some b from rfl)
        exact ⟨a, b, rfl, z, q3 ι2 Z2 H2 _ Stp.refl hr2 (hA _ _ _ _ _ _)⟩
      | cons _ _ t => exact absurd hl.2 (by simp)
theorem fr_lrng (G : Gd F X C N sc Wx) {es : List E} {xs : List Expr} {p p2 pos pos2 : Pos} (h : SdL X C Wx es xs) (hg : glB sc "range" = true) (hg2 : glB sc "list" = true) (hl : 1 ≤ xs.length ∧ xs.length ≤ 2) :
    PE X (.Call (.Name "list" p) [.Call (.Name "range" p2) xs [] pos2] [] pos) (rdF X.K C Wx (.lrng es)) := by
  have hm : X.mg "range" = none := G.free _ (by decide +kernel)
  have hm2 : X.mg "list" = none := G.free _ (by decide +kernel)
  cases h with
  | nil => exact absurd hl.1 (by simp)
  | @cons e x es xs hx ns t =>
    cases t with
    | nil =>
      refine pe_imp (pe_listRg G.calm (G.gl hg2) hm2 (prg_1 (G.gl hg) hm hx.opd (star_cons ns)) (by rfl)) fun σ H Q ⟨ι, Z, τ, h, hr, er, q⟩ => ?_
      simp only [ev, evs, fin] at q
      have q : Ps X.K (VF X.K H) Wx σ ι Z H ((ev C τ e .opd h).bind fun w h => .of ((rngW [w]).bind fun us => if us.length ≤ sizeLine then some (.lst us) else none) h) Q := by
        cases e1 : ev C τ e .opd h with
        | ok w h' => rw [e1] at q; exact q
        | exc c ws h' => rw [e1] at q; exact q
        | bad => rw [e1] at q; exact q
      refine rdO_next hr er q fun v H1 ι1 Z1 h1 u s1 hr1 er1 r1 q1 => ?_
      obtain ⟨w, e2, q2⟩ := Ps.of_some q1
      obtain ⟨us, e3, e4⟩ := Option.bind_eq_some_iff.mp e2
      obtain ⟨b, rfl, b1, b2, rfl⟩ := rngW_one e3
      split at e4
      · rename_i hz
        cases e4
        rw [List.length_map, List.length_range] at hz
        cases r1.int (show intW (.int b) = some b from rfl)
        refine ⟨b, rfl, ⟨by decide, by decide, b1, b2, by rw [Int.sub_zero]; exact hz⟩, fun a ha => ?_⟩
        refine new_lstF hr1 ha (by rw [rgV_length, Int.sub_zero]; exact hz) ?_ fun H' z st hr' vn => q2 ι1 Z1 H' z st hr' (vn.base s1)
        refine VRs.of_get (by simp [rgV]) fun i w v e1 e2 => ?_
        unfold rgV at e2
        rw [List.getElem?_map] at e1 e2
        rw [Int.sub_zero] at e2
        cases e5 : (List.range b.toNat)[i]? with
        | none => rw [e5] at e1; cases e1
        | some k =>
          rw [e5] at e1 e2
          cases e1
          cases e2
          rfl
      · cases e4
    | @cons e2 x2 es xs hy ns2 t =>
      cases t with
      | nil =>
        refine pe_imp (pe_listRg G.calm (G.gl hg2) hm2 (prg_2 (G.gl hg) hm hx.opd hy.opd (by rw [star_cons ns, star_cons ns2]) (by rw [star_cons ns2]) (by rw [star_cons ns2]; rfl)) (by rfl)) fun σ H Q ⟨ι, Z, τ, h, hr, er, q⟩ => ?_
        simp only [ev, evs, fin] at q
        have q : Ps X.K (VF X.K H) Wx σ ι Z H ((ev C τ e .opd h).bind fun w h => (ev C τ e2 .opd h).bind fun v h => .of ((rngW [w, v]).bind fun us => if us.length ≤ sizeLine then some (.lst us) else none) h) Q := by
          cases e1 : ev C τ e .opd h with
          | ok w h' =>
            rw [e1] at q
            show Ps X.K (VF X.K H) Wx σ ι Z H ((ev C τ e2 .opd h').bind fun v h => .of ((rngW [w, v]).bind fun us => if us.length ≤ sizeLine then some (.lst us) else none) h) Q
            have q : Ps X.K (VF X.K H) Wx σ ι Z H (((ev C τ e2 .opd h').bind fun w h => .ok [w] h).bind (fun ws h => .ok (w :: ws) h) |>.bind fun ws h => .of ((rngW ws).bind fun us => if us.length ≤ sizeLine then some (.lst us) else none) h) Q := q
            cases e3 : ev C τ e2 .opd h' with
            | ok w h' => rw [e3] at q; exact q
            | exc c ws h' => rw [e3] at q; exact q
            | bad => rw [e3] at q; exact q
          | exc c ws h' => rw [e1] at q; exact q
          | bad => rw [e1] at q; exact q
        refine rdO_next hr er q fun v H1 ι1 Z1 h1 u s1 hr1 er1 r1 q1 => ?_
        refine rdO_next hr1 er1 q1 fun v' H2 ι2 Z2 h2 u' s2 hr2 er2 r2 q2 => ?_
        obtain ⟨w, e5, q3⟩ := Ps.of_some q2
        obtain ⟨us, e6, e4⟩ := Option.bind_eq_some_iff.mp e5
        obtain ⟨a, b, rfl, rfl, z, rfl⟩ := rngW_two e6
        split at e4
        · rename_i hz
          cases e4
          rw [List.length_map, List.length_range] at hz
          cases r1.int (show intW (.int a) = some a from rfl)
          cases r2.int (show intW (.int b) = some b from rfl)
          refine ⟨a, b, rfl, rfl, ⟨z.1, z.2.1, z.2.2.1, z.2.2.2, hz⟩, fun p hp => ?_⟩
          refine new_lstF hr2 hp (by rw [rgV_length]; exact hz) ?_ fun H' z st hr' vn => q3 ι2 Z2 H' z st hr' ((vn.base s2).base s1)
          refine VRs.of_get (by simp [rgV]) fun i w v e1 e2 => ?_
          unfold rgV at e2
          rw [List.getElem?_map] at e1 e2
          cases e5 : (List.range (b - a).toNat)[i]? with
          | none => rw [e5] at e1; cases e1
          | some k =>
            rw [e5] at e1 e2
            cases e1
            cases e2
            rfl
        · cases e4
      | cons _ _ t => exact absurd hl.2 (by simp)
theorem sd_lrng (G : Gd F X C N sc Wx) {es : List E} {xs : List Expr} {p p2 pos pos2 : Pos} (h : SdL X C Wx es xs) (hg : glB sc "range" = true) (hg2 : glB sc "list" = true) (hl : 1 ≤ xs.length ∧ xs.length ≤ 2) :
    Sd X C Wx (.lrng es) (.Call (.Name "list" p) [.Call (.Name "range" p2) xs [] pos2] [] pos) := Sd.fr (fr_lrng G h hg hg2 hl) (fun _ _ => rfl) (fun _ _ => rfl) rfl
/-! ### an own object is written -/
theorem own_fits {K : PySem.W.Frag} {H : Hp} {ι : List Addr} {Z : Ads} {h : Hw} {D : Addr} {vs : List V} (hr : HR K H ι Z h) (nz : ¬ Z D) (hD : H D = some (.lst vs)) : Fits (fun a => a = D) H ι Z := fun a ha => by
  rcases ha with ha | ha
  · exact hr.fits a (.inl ha)
  · subst ha
    refine ⟨nz, fun xs e => ?_, fun o u e => ?_⟩ <;> (rw [hD] at e; cases e)
theorem own_step {ι : List Addr} {Z : Ads} {H : Hp} {D : Addr} {o : HO} : Stp (fun a => a = D) ι Z H ι Z (upd H D o) where
  pre := fun _ _ e => e
  new := fun _ e => .inl e
  zin := fun _ e => e
  znew := fun _ e => .inl e
  keep := fun a u e _ _ nm => by rw [upd_ne nm]; exact e
  stay := fun a e => by
    by_cases q : a = D
    · subst q; rw [upd_same]; simp
    · rw [upd_ne q]; exact e
theorem own_hr {K : PySem.W.Frag} {H : Hp} {ι : List Addr} {Z : Ads} {h : Hw} {D : Addr} {vs : List V} {o : HO} (hr : HR K H ι Z h) (nD : D ∉ ι) (nz : ¬ Z D) (hD : H D = some (.lst vs)) : HR K (upd H D o) ι Z h where
  len := hr.len
  nd := hr.nd
  ob := fun n ob a e1 e2 => by
    have hn : a ≠ D := fun z => nD (z ▸ List.mem_of_getElem? e2)
    have r := hr.ob n ob a e1 e2
    cases ob with
    | lst ws =>
      obtain ⟨us, e, l, q⟩ := r
      exact ⟨us, by rw [upd_ne hn]; exact e, l, VRs.go (own_fits hr nz hD) (own_step (o := o)) ws us q⟩
    | _ => exact r.elim
  dis := hr.dis
  zin := fun a z => (own_step (ι := ι) (Z := Z) (o := o)).stay a (hr.zin a z)
  tb := Tabs.upd hr.tb hD (fun _ z => nomatch z) fun _ _ z => by unfold LamX.CodeO at z; cases z
/-! ### comprehensions -/
abbrev WF : WX := fun _ _ _ _ => False
theorem Ps.still {α β : Type} {K : PySem.W.Frag} {RA : Rel α β} {σ σ' : L2.St} {ι : List Addr} {Z : Ads} {H : Hp} {r : R α} {Q : β → Hp → Prop} (p : Ps K RA Wx σ ι Z H r.still Q) : Ps K RA WF σ' ι Z H r Q := by
  cases r with
  | ok a h => exact p
  | exc c ws h => exact False.elim p
  | bad => exact p
inductive SdC (X : Cx) (C : Ctx) : Option E → List Expr → Prop
  | none : SdC X C none []
  | some {e : E} {a : Expr} : Sd X C WF e a → SdC X C (some e) [a]
theorem pts_of {c : Option E} {xs : List Expr} (h : SdC X C c xs) : PTs X xs (rdG X.K WF (fun _ _ _ _ (a b : Bool) => a = b) fun τ h => evc C τ c h) := by
  cases h with
  | none => exact ⟨fun pins s σ H Q I ⟨ι, Z, τ, h, hr, er, q⟩ => pts_nil.run pins s σ H Q I (q ι Z H true Stp.refl hr rfl)⟩
  | some hx =>
    refine ⟨fun pins s σ H Q I ⟨ι, Z, τ, h, hr, er, q⟩ => (pts_one hx.tst).run pins s σ H Q I ?_⟩
    simp only [evc] at q
    refine rdT_next hr er q fun k H1 ι1 Z1 h1 u s1 hr1 er1 r1 q1 => ?_
    have r1 : u = .bl k := r1
    subst r1
    exact q1 ι1 Z1 H1 k Stp.refl hr1 rfl
/-- the turn of a comprehension -/
def lcT (C : Ctx) (τ : Env) (e : E) (t : Tg) (c : Option E) (x : W) (h : Hw) : R (Option W) := match bindT t x (wipeW τ t.vars) with
  | none => .bad
  | some σ' => (evc C σ' c h).still.bind fun k h => if k then (ev C σ' e .val h).still.bind fun y h => .ok (some y) h else .ok none h
theorem wipe_eq {σ σ' : L2.St} {vs : List Nat} (l : σ'.length = σ.length) (a : ∀ i : Nat, i ∉ vs → σ'[i]? = σ[i]?) : L2.wipe σ' vs = L2.wipe σ vs := by
  have get : ∀ (ρ : L2.St) (vs : List Nat) (i : Nat), (L2.wipe ρ vs)[i]? = if i ∈ vs then (ρ[i]?).map (fun _ => none) else ρ[i]? := by
    intro ρ vs
    induction vs with
    | nil => intro i; simp [L2.wipe]
    | cons v vs ih =>
      intro i
      show ((L2.wipe ρ vs).set v none)[i]? = _
      by_cases hv : v = i
      · subst hv
        rw [List.getElem?_set_self', ih]
        by_cases hm : v ∈ vs <;> simp [hm] <;> rfl
      · rw [List.getElem?_set_ne hv, ih]
        have : (i ∈ v :: vs) ↔ i ∈ vs := by simp [Ne.symm hv]
        simp only [this]
  apply List.ext_getElem?
  intro i
  rw [get, get]
  by_cases hi : i ∈ vs
  · rw [if_pos hi, if_pos hi]
    by_cases hl : i < σ.length
    · rw [List.getElem?_eq_getElem hl, List.getElem?_eq_getElem (by rw [l]; exact hl)]
      rfl
    · rw [List.getElem?_eq_none (by omega), List.getElem?_eq_none (by omega)]
  · rw [if_neg hi, if_neg hi, a i hi]
theorem wipe_two {σ : L2.St} (vs : List Nat) : L2.wipe (L2.wipe σ vs) vs = L2.wipe σ vs := by
  refine wipe_eq (L2.wipe_length _ _) fun i hi => ?_
  exact L2.wipe_out hi
theorem lcRun_cons (f : W → Hw → R (Option W)) (x : W) (xs : List W) (h : Hw) : lcRun f (x :: xs) h = (f x h).bind fun y h => (lcRun f xs h).bind fun ys h => .ok (match y with
  | some y => y :: ys
  | none => ys) h := rfl
theorem lookup_rel {sc sc' : Scope} {x : Str} {k : NameKind} (hk : k ≠ .free) (h : sc'.names.lookup x = some k) : (relS sc' sc).names.lookup x = some k := lookup_relS_keep hk h
theorem gd_blk (G : Gd F X C N sc Wx) (sc' : Scope) (s : Shared) (H : Hp) (Ca : Addr) (cl : List (Str × Addr)) (fp : List Addr) :
    Gd F (X.blk s H sc' (compEnvC sc' cl Ca X.env) fp) C N (relS sc' sc) WF ∧ Ts (X.blk s H sc' (compEnvC sc' cl Ca X.env) fp) sc' := by
  have e : (X.blk s H sc' (compEnvC sc' cl Ca X.env) fp).env.scope = relS sc' sc := by rw [← G.sc]; rfl
  refine ⟨{ nd := G.nd, eN := G.eN, sc := e, calm := G.calm, hu := G.hu, tk := ?_, free := G.free, con := G.con, dp := G.dp, lam := G.lam, fns := G.fns }, ?_⟩
  · intro _ _ x
    obtain ⟨_, _, _, _, _, _, _, _, _, _, _, _, _, _, _, _, w⟩ := x
    exact w.elim
  · refine ⟨fun x hx => ?_, fun x hx => ?_, fun x hx => ?_⟩
    · rw [e]
      rcases locB_ok hx with k | k
      · exact .inl (lookup_rel (by decide) k)
      · exact .inr (lookup_rel (by decide) k)
    · show (sc'.names.lookup x == some .cell) = true
      rw [hx]
      rfl
    · rw [e]
      exact lookup_rel (by decide) hx
theorem lc_rd {e : E} {t : Tg} {s : Src} {c : Option E} {σ : L2.St} {H : Hp} {Q : VK} (p : rdF X.K C Wx (.lc e t s c) σ H Q) :
    tLc (rdS X.K C Wx s) (rdTg X.K t) (rdG X.K WF (fun _ _ _ _ (a b : Bool) => a = b) fun τ h => evc C τ c h) (rdV X.K C WF e) t.vars σ H Q := by
  obtain ⟨ι, Z, τ, h, hr, er, q⟩ := p
  simp only [ev, fin] at q
  refine rdG.next (RA := fun _ H ι Z (ws : List W) (J : It) => Wk X.K no J H ι Z ws) (r := fun τ h => evSrc C τ s .opd h) hr er q fun J H1 ι1 Z1 h1 ws s1 hr1 er1 wk q1 D hD => ?_
  split at q1
  · rename_i hz
    have q1 : Ps X.K (VF X.K H) Wx σ ι1 Z1 H1 ((lcRun (lcT C τ e t c) ws h1).bind fun ys h => .ok (.lst ys) h) Q := q1
    have nD1 : D ∉ ι1 := fun hi => by
      obtain ⟨_, o, _, _, ro⟩ := hr1.atA hi
      exact ro.kind.2.2 hD
    have over : ∀ {ι' Z' H' o}, Stp no ι1 Z1 H1 ι' Z' H' → Stp no ι1 Z1 H1 ι' Z' (upd H' D o) := fun st => st.trans own_step fun a e => by subst e; exact .inr hD
    refine ⟨fun i m H' => ∃ ι' Z' h' ys vs, m = ws.length - i ∧ i ≤ ws.length ∧ Stp no ι1 Z1 H1 ι' Z' H' ∧ HR X.K H' ι' Z' h' ∧ D ∉ ι' ∧ ¬ Z' D ∧ H' D = some (.lst vs) ∧ vs.length ≤ i ∧ VRs X.K H' ι' Z' ys vs ∧
      Ps X.K (VF X.K H) Wx σ ι1 Z1 H1 ((lcRun (lcT C τ e t c) (ws.drop i) h').bind fun zs h => .ok (.lst (ys ++ zs)) h) Q, ⟨ws.length, ?_⟩, ?_⟩
    · exact ⟨ι1, Z1, h1, [], [], rfl, Nat.zero_le _, Stp.laid hD, hr1.laid hD, nD1, fun z => hr1.zin D z hD, upd_same, Nat.le_refl _, rfl, q1⟩
    · rintro i m H' ⟨ι', Z', h', ys, vs, rfl, hi, st, hr', nD', nz', hDv, hl, rv, q2⟩
      by_cases hlt : i < ws.length
      · refine .inr ⟨wk.go i ι' Z' H' st hlt, _, fun H'' p => ⟨ws.length - (i + 1), by omega, p⟩, fun x H2 hy => ?_⟩
        obtain ⟨w, ew, st2, hr2, rx⟩ := wk.yld i ι' Z' H' h' x H2 st hr' hlt hy
        have er2 := (er1.go hr1 (st.trans0 st2)).wipe t.vars
        have hdrop : ws.drop i = w :: ws.drop (i + 1) := by
          rw [List.drop_eq_getElem_cons hlt]
          have : ws[i] = w := by rw [List.getElem?_eq_getElem hlt] at ew; exact Option.some.inj ew
          rw [this]
        rw [hdrop, lcRun_cons] at q2
        have hD2 : H2 D = some (.lst vs) := st2.keep D _ hDv (fun _ z => nomatch z) nD' fun q => q
        have stA := st.trans0 st2
        cases e1 : bindT t w (wipeW τ t.vars) with
        | none =>
          have e2 : lcT C τ e t c w h' = .bad := by unfold lcT; rw [e1]
          rw [e2] at q2
          exact q2.elim
        | some τ' =>
          have e2 : lcT C τ e t c w h' = (evc C τ' c h').still.bind fun k h => if k then (ev C τ' e .val h).still.bind fun y h => .ok (some y) h else .ok none h := by unfold lcT; rw [e1]
          rw [e2] at q2
          refine ⟨ι', Z', h', _, w, τ', hr2, er2, rx, e1, fun σ2 er3 l2 a2 => ⟨(wipe_eq l2 a2).trans (wipe_two _), ι', Z', τ', h', hr2, er3, ?_⟩⟩
          dsimp only
          cases e3 : evc C τ' c h' with
          | bad => rw [e3] at q2; exact q2.elim
          | exc cc us hh => rw [e3] at q2; exact q2.elim
          | ok k h3 =>
            rw [e3] at q2
            intro ι3 Z3 H3 b st3 hr3 eb
            have eb : k = b := eb
            subst eb
            have nD3 : D ∉ ι3 := fun hi => by
              rcases st3.new D hi with z | z | z
              · exact nD' z
              · rw [hD2] at z; cases z
              · exact z
            have nz3 : ¬ Z3 D := fun hi => by
              rcases st3.znew D hi with z | z | z
              · exact nz' z
              · rw [hD2] at z; cases z
              · exact z
            have hD3 : H3 D = some (.lst vs) := st3.keep D _ hD2 (fun _ z => nomatch z) nD' fun q => q
            have stB := stA.trans0 st3
            cases k with
            | false =>
              rw [if_neg (by decide)]
              refine ⟨ι3, Z3, h3, ys, vs, rfl, hlt, stB, hr3, nD3, nz3, hD3, by omega, VRs.go hr'.fits (st2.trans0 st3) ys vs rv, ?_⟩
              have q3 : Ps X.K (VF X.K H) Wx σ ι1 Z1 H1 (((lcRun (lcT C τ e t c) (ws.drop (i + 1)) h3).bind fun zs h => .ok zs h).bind fun zs h => .ok (.lst (ys ++ zs)) h) Q := q2
              cases e4 : lcRun (lcT C τ e t c) (ws.drop (i + 1)) h3 with
              | ok zs h4 => rw [e4] at q3; exact q3
              | exc cc us hh => rw [e4] at q3; exact q3
              | bad => rw [e4] at q3; exact q3
            | true =>
              rw [if_pos rfl]
              have q3 : Ps X.K (VF X.K H) Wx σ ι1 Z1 H1 ((((ev C τ' e .val h3).still.bind fun y h => .ok (some y) h).bind fun y h => (lcRun (lcT C τ e t c) (ws.drop (i + 1)) h).bind fun ys h => .ok (match y with
                | some y => y :: ys
                | none => ys) h).bind fun zs h => .ok (.lst (ys ++ zs)) h) Q := q2
              refine ⟨ι3, Z3, τ', h3, hr3, er3.go hr2 st3, ?_⟩
              dsimp only
              cases e4 : ev C τ' e .val h3 with
              | bad => rw [e4] at q3; exact q3.elim
              | exc cc us hh => rw [e4] at q3; exact q3.elim
              | ok w4 h4 =>
                rw [e4] at q3
                intro ι4 Z4 H4 v st4 hr4 r4
                have nD4 : D ∉ ι4 := fun hi => by
                  rcases st4.new D hi with z | z | z
                  · exact nD3 z
                  · rw [hD3] at z; cases z
                  · exact z
                have nz4 : ¬ Z4 D := fun hi => by
                  rcases st4.znew D hi with z | z | z
                  · exact nz3 z
                  · rw [hD3] at z; cases z
                  · exact z
                have hD4 : H4 D = some (.lst vs) := st4.keep D _ hD3 (fun _ z => nomatch z) nD3 fun q => q
                have rv4 := VRs.go hr'.fits ((st2.trans0 st3).trans0 st4) ys vs rv
                refine ⟨vs, hD4, by omega, ι4, Z4, h4, ys ++ [w4], vs ++ [v], rfl, hlt, over (stB.trans0 st4), own_hr hr4 nD4 nz4 hD4, nD4, nz4, upd_same, by rw [List.length_append]; simp; omega, ?_, ?_⟩
                · exact VRs.go (own_fits hr4 nz4 hD4) own_step _ _ (rv4.app ⟨v, [], rfl, r4, rfl⟩)
                · have q4 : Ps X.K (VF X.K H) Wx σ ι1 Z1 H1 (((lcRun (lcT C τ e t c) (ws.drop (i + 1)) h4).bind fun ys h => .ok (w4 :: ys) h).bind fun zs h => .ok (.lst (ys ++ zs)) h) Q := q3
                  cases e5 : lcRun (lcT C τ e t c) (ws.drop (i + 1)) h4 with
                  | ok zs h5 =>
                    rw [e5] at q4
                    have q5 : Ps X.K (VF X.K H) Wx σ ι1 Z1 H1 (.ok (.lst (ys ++ w4 :: zs)) h5) Q := q4
                    show Ps X.K (VF X.K H) Wx σ ι1 Z1 H1 (.ok (.lst (ys ++ [w4] ++ zs)) h5) Q
                    rw [List.append_assoc]
                    exact q5
                  | exc cc us hh => rw [e5] at q4; exact q4
                  | bad => rw [e5] at q4; exact q4
      · have e1 : i = ws.length := by omega
        subst e1
        rw [List.drop_length] at q2
        refine .inl ⟨wk.stop _ ι' Z' H' st (Nat.le_refl _), ?_⟩
        have q3 : Ps X.K (VF X.K H) Wx σ ι1 Z1 H1 (.ok (.lst (ys ++ [])) h') Q := q2
        rw [List.append_nil] at q3
        exact q3 ι' Z' H' (.ref D) st hr' ⟨.lst ys, D, rfl, rfl, s1.free hD, nD', nz', vs, hDv, by omega, rv⟩
  · exact q1.elim
theorem fr_lc {e : E} {t : Tg} {s : Src} {c : Option E} {elt tg iter : Expr} {ifs : List Expr} {sc' : Scope} {pos : Pos} (G : Gd F X C N sc Wx) (hb : blkC N sc sc' (ownOf N t.vars) = true) (hv : (ownOf N t.vars).map (·.2) = t.vars)
    (hs : PI X tg iter (rdS X.K C Wx s)) (ns : notSet iter = true)
    (hg : ∀ X', Gd F X' C N (relS sc' sc) WF → Ts X' sc' → PG X' tg (rdTg X'.K t)) (hc : ∀ X', Gd F X' C N (relS sc' sc) WF → SdC X' C c ifs) (he : ∀ X', Gd F X' C N (relS sc' sc) WF → Sd X' C WF e elt) : PE X (.ListComp elt [⟨tg, iter, ifs, 0⟩] sc' pos) (rdF X.K C Wx (.lc e t s c)) := by
  have hok : BlkOk X.N X.env.scope sc' (ownOf N t.vars) := by rw [G.eN, G.sc]; exact blkOk_by hb
  refine pe_imp (pe_lc (wi := rdS X.K C Wx s) (g := rdTg X.K t) (tt := rdG X.K WF (fun _ _ _ _ (a b : Bool) => a = b) fun τ h => evc C τ c h) (te := rdV X.K C WF e) G.calm (by rw [G.eN]; exact G.nd) hs hok (fun s H Ca cl fp => hg _ (gd_blk G sc' s H Ca cl fp).1 (gd_blk G sc' s H Ca cl fp).2) (fun s H Ca cl fp => pts_of (hc _ (gd_blk G sc' s H Ca cl fp).1))
    (fun s H Ca cl fp => pe_imp (he _ (gd_blk G sc' s H Ca cl fp).1).val fun _ _ _ p => rdV_N p) ?_) fun σ H Q p => ?_
  · intro x
    cases iter <;> first | rfl | cases ns
  · rw [hv]
    exact lc_rd p
end
end Bd
namespace Bd
open PySem PySem.Spec PyProof.Rows L2
section
variable {F : List Str} {X : Cx} {C : Ctx} {N : List Str} {sc : Scope} {Wx : WX}
theorem plain_is (k : Bool) {x : V} {v : Value} (r : RelV x v) : plainIs v (.bool k) = true := by
  cases x with
  | non => cases r; rfl
  | bl b => cases r; rfl
  | int i => obtain ⟨t, rfl⟩ := r; rfl
  | str i => obtain ⟨t, rfl⟩ := r; rfl
  | byt i => obtain ⟨t, rfl⟩ := r; rfl
  | flt i => obtain ⟨t, rfl⟩ := r; rfl
  | ref a => cases r; rfl
  | ty n => cases r; rfl
/-- x is True, x is False -/
theorem op_isK (neg : Bool) : OpR X (compareOp (if neg then .IsNot else .Is)) (rIsK X.K neg) := by
  intro pins s σ H x y v u Q I rx ry ⟨k, e, q⟩
  subst e
  cases (show u = Value.bool k from ry)
  by_cases h : x = .bl k
  · subst h
    cases (show v = Value.bool k from rx)
    rw [decide_eq_true rfl] at q
    cases neg with
    | false => exact wpAny_is_self rfl ⟨.bl true, H, I, rfl, q⟩
    | true => exact wpAny_isNot_self rfl ⟨.bl false, H, I, rfl, q⟩
  · rw [decide_eq_false h] at q
    cases neg with
    | false => exact wpAny_is_other (plain_is k rx) (bool_ne k rx h) ⟨.bl false, H, I, rfl, q⟩
    | true => exact wpAny_isNot_other (plain_is k rx) (bool_ne k rx h) ⟨.bl true, H, I, rfl, q⟩
theorem isb_rd {x : E} {k : Bool} {σ : L2.St} {H : Hp} {Q : VK} (p : rdN X.K C Wx (.isb x k) σ H Q) : tOp (rIsK X.K false) (rdO X.K C Wx x) (tC (.bl k)) σ H Q := by
  obtain ⟨ι, Z, τ, h, hr, er, q⟩ := p
  simp only [ev, fin] at q
  refine rdO_next hr er q fun v1 H1 ι1 Z1 h1 u s1 hr1 er1 r1 q1 => ?_
  rw [VP.isB r1] at q1
  refine ⟨k, rfl, ?_⟩
  have q2 := q1 ι1 Z1 H1 _ Stp.refl hr1 (.inl rfl)
  cases hd : decide (v1 = .bl k) <;> (rw [hd] at q2; exact q2)
theorem notb_rd {x : E} {k : Bool} {σ : L2.St} {H : Hp} {Q : VK} (p : rdN X.K C Wx (.notb x k) σ H Q) : tOp (rIsK X.K true) (rdO X.K C Wx x) (tC (.bl k)) σ H Q := by
  obtain ⟨ι, Z, τ, h, hr, er, q⟩ := p
  simp only [ev, fin] at q
  refine rdO_next hr er q fun v1 H1 ι1 Z1 h1 u s1 hr1 er1 r1 q1 => ?_
  rw [VP.isB r1] at q1
  refine ⟨k, rfl, ?_⟩
  have q2 := q1 ι1 Z1 H1 _ Stp.refl hr1 (.inl rfl)
  cases hd : decide (v1 = .bl k) <;> (rw [hd] at q2; exact q2)
theorem sd_isb {x : E} {x' : Expr} {k : Bool} {j : Nat} {p1 pos : Pos} (hx : Sd X C Wx x x') : Sd X C Wx (.isb x k) (.Compare x' [.Is] [.Constant (.bool k) j p1] pos) := by
  have hn : PE X (.Compare x' [.Is] [.Constant (.bool k) j p1] pos) (rdN X.K C Wx (.isb x k)) := pe_imp (pe_cmpR (op_isK false) hx.opd pe_bl (by rfl)) fun _ _ _ p => isb_rd p
  refine ⟨hn, pe_imp hn fun _ _ _ p => rdN_O (fun _ _ => rfl) p, pt_imp (pt_cmpR (op_isK false) hx.opd pe_bl (by rfl)) fun σ H Q p => isb_rd (rdT_N (fun _ _ => rfl) (fun τ h w h' e => ?_) p)⟩
  obtain ⟨u, h1, _, e⟩ := R.bind_ok e
  cases e
  exact ⟨_, rfl⟩
theorem sd_notb {x : E} {x' : Expr} {k : Bool} {j : Nat} {p1 pos : Pos} (hx : Sd X C Wx x x') : Sd X C Wx (.notb x k) (.Compare x' [.IsNot] [.Constant (.bool k) j p1] pos) := by
  have hn : PE X (.Compare x' [.IsNot] [.Constant (.bool k) j p1] pos) (rdN X.K C Wx (.notb x k)) := pe_imp (pe_cmpR (op_isK true) hx.opd pe_bl (by rfl)) fun _ _ _ p => notb_rd p
  refine ⟨hn, pe_imp hn fun _ _ _ p => rdN_O (fun _ _ => rfl) p, pt_imp (pt_cmpR (op_isK true) hx.opd pe_bl (by rfl)) fun σ H Q p => notb_rd (rdT_N (fun _ _ => rfl) (fun τ h w h' e => ?_) p)⟩
  obtain ⟨u, h1, _, e⟩ := R.bind_ok e
  cases e
  exact ⟨_, rfl⟩
/-- a new object that is shared from now on -/
theorem share_hr {K : PySem.W.Frag} {H : Hp} {ι : List Addr} {Z : Ads} {h : Hw} {o : Ob} {a : Addr} (hr : HR K H ι Z h) (r : ObR K H ι Z o a) (ni : a ∉ ι) (nz : ¬ Z a) : HR K H (ι ++ [a]) Z (h ++ [o]) := by
  have st : Stp (fun b => b = a) ι Z H (ι ++ [a]) Z H :=
    ⟨fun n b e => by rw [List.getElem?_append_left (List.getElem?_eq_some_iff.mp e).1]; exact e, fun b hb => by
      rcases List.mem_append.mp hb with z | z
      · exact .inl z
      · exact .inr (.inr (by simpa using z)), fun _ e => e, fun _ e => .inl e, fun _ _ e _ _ _ => e, fun _ e => e⟩
  have f : Fits (fun b => b = a) H ι Z := fun b hb => by
    rcases hb with hb | hb
    · exact hr.fits b (.inl hb)
    · subst hb; exact ⟨nz, r.kind.1, r.kind.2.1⟩
  have up : ∀ {ob : Ob} {b : Addr}, ObR K H ι Z ob b → ObR K H (ι ++ [a]) Z ob b := fun {ob b} q => by
    cases ob with
    | lst ws =>
      obtain ⟨vs, e, l, t⟩ := q
      exact ⟨vs, e, l, VRs.go f st ws vs t⟩
    | _ => exact q.elim
  refine ⟨by rw [List.length_append, List.length_append, hr.len]; rfl, ?_, fun n ob b e1 e2 => ?_, fun b hb => ?_, hr.zin, hr.tb⟩
  · rw [List.nodup_append]
    exact ⟨hr.nd, by simp, fun b hb c hc => by rw [List.mem_singleton] at hc; subst hc; exact fun z => ni (z ▸ hb)⟩
  · by_cases hn : n < h.length
    · rw [List.getElem?_append_left hn] at e1
      rw [List.getElem?_append_left (by rw [hr.len]; exact hn)] at e2
      exact up (hr.ob n ob b e1 e2)
    · have hl := hr.len
      rw [List.getElem?_append_right (by omega)] at e1 e2
      rw [hl] at e2
      cases hk : n - h.length with
      | zero =>
        rw [hk] at e1 e2
        cases e1
        cases e2
        exact up r
      | succ k => rw [hk] at e1; cases e1
  · rcases List.mem_append.mp hb with z | z
    · exact hr.dis b z
    · rw [List.mem_singleton] at z; subst z; exact nz
theorem fr_list (G : Gd F X C N sc Wx) {x : E} {x' : Expr} {p pos : Pos} (hx : Sd X C Wx x x') (ns : notStar x' = true) (hg : glB sc "list" = true) : PE X (.Call (.Name "list" p) [x'] [] pos) (rdF X.K C Wx (.bi .list [x])) := by
  have hm : X.mg "list" = none := G.free _ (by decide +kernel)
  refine pe_imp (pe_callTy call_list_of (G.gl hg) hm boot_list (pa_cons hx.opd pa_nil (star_cons ns)) (by decide +kernel) (by decide +kernel) (star_cons ns) (by rfl)) fun σ H Q ⟨ι, Z, τ, h, hr, er, q⟩ => ?_
  simp only [ev, evs, fin] at q
  have q : Ps X.K (VF X.K H) Wx σ ι Z H ((ev C τ x .opd h).bind fun u h => .of (biW .list [view h u]) h) Q := by
    cases e1 : ev C τ x .opd h with
    | ok w h' => rw [e1] at q; exact q
    | exc c ws h' => rw [e1] at q; exact q
    | bad => rw [e1] at q; exact q
  refine rdO_next hr er q fun v H1 ι1 Z1 h1 u s1 hr1 er1 r1 q1 => ?_
  obtain ⟨w, e2, q2⟩ := Ps.of_some q1
  have rv := r1.view hr1
  generalize view h1 u = y at e2 rv
  cases y with
  | tup ws =>
    cases e2
    obtain ⟨p, vs, e1, h1, l, t⟩ := rv.tup
    subst e1
    exact ⟨p, vs, rfl, .inr h1, fun a ha => new_lstF hr1 ha l t fun H' z st hr' vf => q2 ι1 Z1 H' z st hr' (vf.base s1)⟩
  | lst ws =>
    cases e2
    obtain ⟨p, vs, e1, h1, l, t⟩ := rv.lst
    subst e1
    exact ⟨p, vs, rfl, .inl h1, fun a ha => new_lstF hr1 ha l t fun H' z st hr' vf => q2 ι1 Z1 H' z st hr' (vf.base s1)⟩
  | _ => cases e2
theorem sd_shr {x : E} {a : Expr} (hf : PE X a (rdF X.K C Wx x)) (hp : plainT a = true) : Sd X C Wx (.shr x) a := by
  refine Sd.of (pe_imp hf fun σ H Q ⟨ι, Z, τ, h, hr, er, q⟩ => ⟨ι, Z, τ, h, hr, er, ?_⟩) (fun _ _ => rfl) (fun _ _ => rfl) hp
  simp only [ev, fin] at q
  dsimp only
  cases e : ev C τ x .val h with
  | bad => rw [e] at q; exact q
  | exc c ws h' => rw [e] at q; exact q
  | ok w h' =>
    rw [e] at q
    intro ι' Z' H' v st hr' ⟨o, a', e1, e2, hn, ni, nz, ro⟩
    subst e1 e2
    cases o with
    | lst ws =>
      have q : Ps X.K (VN X.K H) Wx σ ι Z H (.ok (.ref h'.length) (h' ++ [.lst ws])) Q := q
      refine q (ι' ++ [a']) Z' H' _ ⟨fun n b e => ?_, fun b hb => ?_, st.zin, st.znew, st.keep, st.stay⟩ (share_hr hr' ro ni nz) (.inl ⟨a', rfl, ?_⟩)
      · have := st.pre n b e
        rw [List.getElem?_append_left (List.getElem?_eq_some_iff.mp this).1]
        exact this
      · rcases List.mem_append.mp hb with z | z
        · exact st.new b z
        · rw [List.mem_singleton] at z; subst z; exact .inr (.inl hn)
      · rw [← hr'.len, List.getElem?_append_right (Nat.le_refl _), Nat.sub_self]
        rfl
    | _ => exact ro.elim
end
end Bd
/-! sorted by a lambda. -/
namespace Bd
open PySem PySem.Spec PyProof.Rows L2
theorem clo_none {cells : List (Str × Addr)} : ∀ {l : List (Str × NameKind)} {acc : List (Str × Addr)}, (∀ y ∈ l, y.2 ≠ .free) → cloFrom cells l acc = acc
  | [], _, _ => rfl
  | (n, k) :: l, acc, h => by
    unfold cloFrom
    have hk : (k == NameKind.free) = false := by
      have := h (n, k) (List.mem_cons_self ..)
      cases k <;> first | rfl | exact absurd rfl this
    rw [hk]
    exact clo_none fun y hy => h y (List.mem_cons_of_mem _ hy)
section
variable {X : Cx} {pins : List (Addr × Obj)} {σ : L2.St} {H : Hp} {s : Shared}
/-- a lambda is made; all but the table stays, nothing goes -/
theorem lam_mk {T : List (Addr × Str)} {c P : Addr} {params : Arguments} {body : Expr} {scope : Scope} {pos : Pos} {E : Value → Shared → Prop} {Q : Value → Shared → Prop} (I : Inv X pins σ H s) (TB : LamX.TabB X.base X.mg c P)
    (hcode : X.env.code = .ref c) (hm : (P, X.env.qual ++ "<lambda>") ∈ T) (hu : ∀ p ∈ T, p.1 = P → p.2 = X.env.qual ++ "<lambda>") (hT : LamX.Tabs T H) (hdef : defaultsOf params X.env = ([], [])) (hfree : ∀ y ∈ scope.names, y.2 ≠ .free)
    (h : ∀ (f c' : Addr) (pm ctv : Value) (H1 : Hp) (s' : Shared), Inv X pins σ H1 s' → (∀ a o, H a = some o → nT o → H1 a = some o) → (∀ a, H a ≠ none → H1 a ≠ none) → LamX.Tabs T H1 →
      s'.heap.get? f = some (PySem.W.kla_obj "<lambda>" (X.env.qual ++ "<lambda>") params body scope [] pm c' ctv) → H1 c' = some (LamX.CodeO c' (X.env.qual ++ "<lambda>")) → Q (.ref f) s') :
    wpAny (model X.prog X.w) X.A (eval (.Lambda params body scope pos) X.env) Q E s := by
  obtain ⟨ps, tP, trip, among⟩ := hT _ hm
  have atP := I.hok P _ tP
  have cl := closure_ok (env := X.env) (scope := scope) fun y hy e => absurd e (hfree y hy)
  rw [clo_none hfree] at cl
  refine PySem.W.kla_eval hdef ?_
  cases look : codeAmong pos ps.toList with
  | some cv =>
    obtain ⟨n, rfl, hn⟩ := among pos cv look
    refine PySem.W.kla_makeFunctionHit (ps := ps) cl I.ok.glob (I.mod.glob.keeps I.bk) hcode (TB.code.keeps I.bk) atP trip look (TB.bm.keeps I.bk) fun tv g tk old _ => ?_
    exact h g.objs.size n _ tv H _ (I.kept fun b o e => Heap.get?_push_of_some _ (old b o e)) (fun _ _ e _ => e) (fun _ e => e) hT (Heap.get?_push_size _ rfl) hn
  | none =>
    refine PySem.W.kla_makeFunction (ps := ps) cl I.ok.glob (I.mod.glob.keeps I.bk) hcode (TB.code.keeps I.bk) atP trip look TB.gP (TB.bm.keeps I.bk) fun n tv g tk ext ge lt cr tab => ?_
    obtain ⟨n', co, cvs, ct, e0, e1, e2, e3⟩ := cr
    cases e0
    have hn : H n = none := I.hok.fresh ge
    have J := LamX.inv_table (q := X.env.qual ++ "<lambda>") (more := #[rawInt pos.line, rawInt pos.col, .ref n]) (t' := tk) (h' := g.push (PySem.W.kla_obj "<lambda>" (X.env.qual ++ "<lambda>") params body scope [] ((X.mg "__name__").getD .none) n tv)) I tP
      (fun b o hb e => Heap.get?_push_of_some _ (ext b o hb e)) (Heap.get?_push_of_some _ tab) ge ⟨co, cvs, ct, Heap.get?_push_of_some _ e1, e2, e3⟩
    have keepN : ∀ a o, H a = some o → nT o → upd (upd H P (.tbl (ps ++ #[rawInt pos.line, rawInt pos.col, .ref n]))) n (LamX.CodeO n (X.env.qual ++ "<lambda>")) a = some o := fun a o e nt => by
      have h1 : a ≠ n := ne_of_none e hn
      have h2 : a ≠ P := fun z => nt ps (by rw [z, tP] at e; exact (Option.some.inj e).symm)
      rw [upd_ne h1, upd_ne h2]
      exact e
    refine h g.objs.size n _ tv _ _ J keepN (fun a e => ?_) (fun p hp => ?_) (Heap.get?_push_size _ rfl) upd_same
    · by_cases h1 : a = n
      · rw [h1, upd_same]; exact fun z => by cases z
      · by_cases h2 : a = P
        · rw [upd_ne h1, h2, upd_same]; exact fun z => by cases z
        · rw [upd_ne h1, upd_ne h2]; exact e
    · obtain ⟨ps2, t2, tr2, am2⟩ := hT p hp
      have cod : ∀ c0 q, H c0 = some (LamX.CodeO c0 q) → upd (upd H P (.tbl (ps ++ #[rawInt pos.line, rawInt pos.col, .ref n]))) n (LamX.CodeO n (X.env.qual ++ "<lambda>")) c0 = some (LamX.CodeO c0 q) := fun c0 q e => keepN c0 _ e fun ps z => LamX.codeO_ne ps z
      by_cases hp1 : p.1 = P
      · have hp2 := hu p hp hp1
        rw [hp1] at t2 ⊢
        rw [tP] at t2
        cases t2
        refine ⟨_, by rw [upd_ne (ne_of_none tP hn), upd_same], ?_, fun pos' cv hc => ?_⟩
        · rw [Array.toList_append]
          exact PySem.TriplesOk_snoc _ _ _ _ tr2
        · rw [Array.toList_append] at hc
          rcases LamX.among_app _ tr2 hc with z | z
          · obtain ⟨c0, a1, a2⟩ := am2 pos' cv z
            exact ⟨c0, a1, cod _ _ a2⟩
          · refine ⟨n, z, ?_⟩
            rw [hp2]
            exact upd_same
      · refine ⟨ps2, by rw [upd_ne (ne_of_none t2 hn), upd_ne hp1]; exact t2, tr2, fun pos' cv hc => ?_⟩
        obtain ⟨c0, a1, a2⟩ := am2 pos' cv hc
        exact ⟨c0, a1, cod _ _ a2⟩
end
/-- one parameter, no default -/
def oneP (x : Str) (p : Arguments) : Prop := ∃ an ap, p = ⟨[], [⟨x, an, ap⟩], none, [], [], none, []⟩
theorem oneP_bind {x q : Str} {params : Arguments} {body : Expr} {scope : Scope} {cl : List (Str × Addr)} {pm cdv ct u : Value} (hp : oneP x params) : bindArgs (PySem.W.kla_fn "<lambda>" q params body scope cl pm cdv ct) ⟨[u], []⟩ = pure [(x, u)] := by
  obtain ⟨an, ap, rfl⟩ := hp
  unfold bindArgs
  simp [List.lookup, seqItems?, notAStandIn]
/-! ### what a key's text does -/
theorem keyIxB_ok {x : Str} {e : E} {a : Expr} (h : keyIxB x e a = true) : ∃ k p1 j p2 p3, e = .ix (.var 0) (.int k) ∧ a = .Subscript (.Name x p1) (.Constant (.int k) j p2) p3 := by
  unfold keyIxB at h
  split at h
  · obtain ⟨h1, h2⟩ := Bool.and_eq_true_iff.mp h
    have h1 := of_decide_eq_true h1
    have h2 := of_decide_eq_true h2
    subst h1 h2
    exact ⟨_, _, _, _, _, rfl, rfl⟩
  · cases h
theorem flat_reads {K : PySem.W.Frag} {H : Hp} {ι : List Addr} {Z : Ads} {w : W} {v : V} {u : Value} {d : PyData} {h : Heap} (f : flatW w = true) (r : VR K H ι Z w v) (ru : RelV v u) (e : toPy w = some d) : Reads h u d [] := by
  cases w with
  | non => cases r; cases e; cases ru; exact .none
  | bl b => cases r; cases e; cases ru; exact .bool _
  | int i => cases r; cases e; obtain ⟨t, rfl⟩ := ru; exact .int _ _
  | str x => obtain ⟨r, _⟩ := r; cases r; cases e; obtain ⟨t, rfl⟩ := ru; exact .str _ _
  | _ => cases f
theorem keyIx_ok {e : E} {w u : W} (h : keyIx e w = some u) : ∃ k ws, e = .ix (.var 0) (.int k) ∧ w = .tup ws ∧ L2.atI ws k = some u ∧ flatW u = true := by
  unfold keyIx at h
  split at h
  · rename_i k ws
    obtain ⟨y, h1, h2⟩ := Option.bind_eq_some_iff.mp h
    split at h2
    · rename_i hf
      cases h2
      exact ⟨k, ws, rfl, rfl, h1, hf⟩
    · cases h2
  · cases h
section
variable {prog : Program} {w : World} {A : Around} {Ex : Value → Shared → Prop} {s : Shared} {K : PySem.W.Frag} {H : Hp} {ι : List Addr} {Z : Ads}
/-- where a key's text is run: x is u -/
structure KEnv (env : PySem.Env) (x : Str) (u : Value) (h : Heap) : Prop where
  kind : env.scope.kind = .function
  loc : env.kindOf x = some .local
  ns : ∃ m, h.Ns env.locals m ∧ m x = some u
  dbg : (x == ("__debug__" : Str)) = false
theorem KEnv.keep {env : PySem.Env} {x : Str} {u : Value} {h h' : Heap} (e : KEnv env x u h) (k : ∀ b o, h.get? b = some o → h'.get? b = some o) : KEnv env x u h' :=
  let ⟨m, hm, hx⟩ := e.ns
  ⟨e.kind, e.loc, ⟨m, hm.keeps k, hx⟩, e.dbg⟩
theorem key_ix {env : PySem.Env} {x : Str} {e : E} {a : Expr} {ww kw : W} {v : V} {u : Value} {d : PyData} {Q : Value → Shared → Prop} (ke : KEnv env x u s.heap) (hb : keyIxB x e a = true) (hk : keyIx e ww = some kw) (r : VR K H ι Z ww v) (ru : RelV v u) (hd : toPy kw = some d)
    (ht : ∀ t vs, v = .ref t → SqT K H t vs → ∃ its : List Value, Vals vs its ∧ IsTup s.heap t its.toArray) (h : ∀ r tk, Reads s.heap r d [] → Q r { s with toks := tk }) : wpAny (model prog w) A (eval a env) Q Ex s := by
  obtain ⟨k, p1, j, p2, p3, rfl, rfl⟩ := keyIxB_ok hb
  obtain ⟨k', ws, e1, rfl, hat, hf⟩ := keyIx_ok hk
  cases e1
  obtain ⟨t, vs, rfl, hq, hl, rv⟩ := r
  obtain ⟨its, rvs, hT⟩ := ht t vs rfl hq
  cases ru
  obtain ⟨i, h1, h2, h3, h4, h5⟩ := atI_get hat
  obtain ⟨v1, hv1, rv1⟩ := rv.get h2
  obtain ⟨u1, hu1, ru1⟩ := rvs.get hv1
  have l1 := rv.length
  have l2 := rvs.length
  have hn := line63
  obtain ⟨m, hm, hx⟩ := ke.ns
  refine Subscript_ (wpAny_Name (wpAny_loadName_local ke.kind ke.loc hm hx (wpAny_Constant_int ?_)) ke.dbg)
  refine subscriptTail_builtinR (x := u1) (IsTup.typeIs hT) slot_tuple_getitem.lookup (getItem_tuple (j := i) hT (by omega) (by omega) (by rw [List.size_toArray, ← l2, ← l1]; exact h1) (by simpa using hu1) ⟨rfl, ?_⟩) rfl
  exact h u1 _ (flat_reads hf rv1 ru1 hd)
theorem key_ixs {env : PySem.Env} {x : Str} {ww : W} {v : V} {u : Value} {pos : Pos} : ∀ {es : List E} {as : List Expr} {ks : List W} {ds : List PyData} {s : Shared} {Q : List Value → Shared → Prop}, KEnv env x u s.heap → keyIxsB x es as = true → keyIxs es ww = some ks → VR K H ι Z ww v → RelV v u → toPys ks = some ds →
    (∀ t vs, v = .ref t → SqT K H t vs → ∃ its : List Value, Vals vs its ∧ IsTup s.heap t its.toArray) → (∀ us tk, ReadsAll s.heap us ds [] → us.length = es.length → Q us { s with toks := tk }) → wpAny (model prog w) A (spliced (backTo pos (starEach as env))) Q Ex s
  | [], as, ks, ds, s, Q, ke, hb, hk, r, ru, hd, ht, h => by
    cases as with
    | nil => cases hk; cases hd; exact Calls.spliced_nil (h [] s.toks .nil rfl)
    | cons _ _ => cases hb
  | e :: es, as, ks, ds, s, Q, ke, hb, hk, r, ru, hd, ht, h => by
    cases as with
    | nil => cases hb
    | cons a as =>
      obtain ⟨h1, h2⟩ := Bool.and_eq_true_iff.mp (show (keyIxB x e a && keyIxsB x es as) = true from hb)
      have hk : (match keyIx e ww, keyIxs es ww with
        | some u, some us => some (u :: us)
        | _, _ => none) = some ks := hk
      cases k1 : keyIx e ww with
      | none => rw [k1] at hk; cases hk
      | some kw =>
        cases k2 : keyIxs es ww with
        | none => rw [k1, k2] at hk; cases hk
        | some kws =>
          rw [k1, k2] at hk
          cases hk
          have hd : (match toPy kw, toPys kws with
            | some d, some ds => some (d :: ds)
            | _, _ => none) = some ds := hd
          cases d1 : toPy kw with
          | none => rw [d1] at hd; cases hd
          | some d =>
            cases d2 : toPys kws with
            | none => rw [d1, d2] at hd; cases hd
            | some ds' =>
              rw [d1, d2] at hd
              cases hd
              obtain ⟨k, p1, j, p2, p3, e1, e2⟩ := keyIxB_ok h1
              have hs : starEach (a :: as) env = (false, eval a env) :: starEach as env := by rw [e2]; rfl
              rw [hs]
              show wpAny _ _ (spliced ((false, eval a env) :: backTo pos (starEach as env))) _ _ s
              refine Calls.spliced_cons (key_ix ke h1 k1 r ru d1 ht fun u1 tk rd => ?_)
              exact key_ixs (s := { s with toks := tk }) ke h2 k2 r ru d2 ht fun us tk' rds hl => h (u1 :: us) tk' (.cons rd rds) (by rw [List.length_cons, hl]; rfl)
theorem key_run {env : PySem.Env} {x : Str} {e : E} {a : Expr} {ww kw : W} {v : V} {u : Value} {d : PyData} (ke : KEnv env x u s.heap) (hb : keyB x e a = true) (hk : keyW e ww = some kw) (r : VR K H ι Z ww v) (ru : RelV v u) (hd : toPy kw = some d)
    (ht : ∀ t vs, v = .ref t → SqT K H t vs → ∃ its : List Value, Vals vs its ∧ IsTup s.heap t its.toArray) : wpAny (model prog w) A (eval a env) (PySem.W.KeyPure d s) Ex s := by
  have one : keyIxB x e a = true → keyIx e ww = some kw → wpAny (model prog w) A (eval a env) (PySem.W.KeyPure d s) Ex s := fun h1 h2 => key_ix ke h1 h2 r ru hd ht fun u1 tk rd => ⟨s.heap, tk, rfl, fun _ _ q => q, rd⟩
  cases e with
  | tup es =>
    cases a with
    | Tuple as k pos =>
      obtain ⟨h1, h2⟩ := Bool.and_eq_true_iff.mp (show (keyIxsB x es as && decide (es.length ≤ 29)) = true from hb)
      have h2 := of_decide_eq_true h2
      obtain ⟨ks, h3, rfl⟩ := Option.map_eq_some_iff.mp (show (keyIxs es ww).map W.tup = some kw from hk)
      have hd : (toPys ks).map PyData.tuple = some d := hd
      obtain ⟨ds, h4, rfl⟩ := Option.map_eq_some_iff.mp hd
      refine wpAny_Tuple_spliced (key_ixs (pos := pos) ke h1 h3 r ru h4 ht fun us tk rds hl => ⟨by rw [hl]; exact Nat.le_trans h2 (by decide), ?_⟩)
      exact ⟨_, tk, rfl, fun b o q => Heap.get?_push_of_some _ q, .tuple (Heap.get?_push_size _ rfl) rfl rfl (ReadsAll.keeps (fun b o q => Heap.get?_push_of_some _ q) rds)⟩
    | _ => cases hb
  | _ => exact one hb hk
end
end Bd
/-! sorted by a lambda: the call. -/
namespace Bd
open PySem PySem.Spec PyProof.Rows L2
structure LamSc (x : Str) (sc : Scope) : Prop where
  kind : sc.kind = .function
  co : sc.isCoroutine = false
  gen : sc.isGenerator = false
  cell : ∀ y ∈ sc.names, y.2 ≠ .cell
  free : ∀ y ∈ sc.names, y.2 ≠ .free
  loc : sc.names.lookup x = some .local
  dbg : (x == ("__debug__" : Str)) = false
theorem lamSc_ok {x : Str} {sc : Scope} (h : lamSc x sc = true) : LamSc x sc := by
  obtain ⟨h, h6⟩ := Bool.and_eq_true_iff.mp h
  obtain ⟨h, h5⟩ := Bool.and_eq_true_iff.mp h
  obtain ⟨h, h4⟩ := Bool.and_eq_true_iff.mp h
  obtain ⟨h, h3⟩ := Bool.and_eq_true_iff.mp h
  obtain ⟨h1, h2⟩ := Bool.and_eq_true_iff.mp h
  refine ⟨?_, by simpa using h2, by simpa using h3, fun y hy z => ?_, fun y hy z => ?_, ?_, (dbg_ok (by simpa using h6)).1⟩
  · split at h1
    · assumption
    · cases h1
  · have := List.all_eq_true.mp h4 y hy
    rw [z] at this
    cases this
  · have := List.all_eq_true.mp h4 y hy
    rw [z] at this
    cases this
  · split at h5
    · assumption
    · cases h5
section
variable {prog : Program} {w : World} {A : Around} {s : Shared} {K : PySem.W.Frag} {H : Hp} {ι : List Addr} {Z : Ads}
theorem lam_call {f c' : Addr} {x q : Str} {e : E} {params : Arguments} {body : Expr} {scope : Scope} {pm ctv : Value} {ww kw : W} {v : V} {u : Value} {d : PyData} (nl : s.heap.NoLimit) (room : A.depth < recursionLimit)
    (of : s.heap.get? f = some (PySem.W.kla_obj "<lambda>" q params body scope [] pm c' ctv)) (oc : ∃ (oc : Obj) (vs : Array Value) (t : Tok), s.heap.get? c' = some oc ∧ oc.data = .fields vs ∧ vs[1]? = some (.str q t)) (L : LamSc x scope) (hp : oneP x params)
    (hb : keyB x e body = true) (hk : keyW e ww = some kw) (r : VR K H ι Z ww v) (ru : RelV v u) (hd : toPy kw = some d) (ht : ∀ t vs, v = .ref t → SqT K H t vs → ∃ its : List Value, Vals vs its ∧ IsTup s.heap t its.toArray) :
    wpAny (model prog w) A (call (.ref f) [u]) (PySem.W.KeyPure d s) (fun _ _ => False) s := by
  obtain ⟨oc, cvs, t, c1, c2, c3⟩ := oc
  refine wpAny_call (PySem.W.kla_callFunE room of rfl L.co L.gen rfl ⟨c', oc, cvs, t, rfl, c1, c2, c3⟩ ?_)
  rw [oneP_bind hp]
  refine wpAny_pure (wpAny_newFunctionEnv L.cell (fun y hy => ?_) (fun h1 hns hsb => ⟨nl.fresh _ hsb, ?_⟩) L.kind)
  · rw [List.mem_singleton.mp hy]
    exact L.loc
  · show codeAny _ _ (.expr body (PySem.W.envX q scope s.heap.objs.size f (.ref c') [])) _ _
    have old : ∀ b o, s.heap.get? b = some o → h1.get? b = some o := fun b o e => hsb.extBut b o (Nat.ne_of_lt (Heap.lt_size e)) (Heap.get?_push_of_some _ e)
    refine PySem.W.kla_codeExpr (wpAny_mono (key_run (x := x) (u := u) ⟨L.kind, L.loc, ⟨_, hns, by simp [List.lookup]⟩, L.dbg⟩ hb hk r ru hd fun t vs e1 hq => ?_) (fun u1 s1 kp => ?_) fun _ _ z => z)
    · obtain ⟨its, a, b⟩ := ht t vs e1 hq
      exact ⟨its, a, b.keeps old⟩
    · obtain ⟨h2, tk, rfl, k2, rd⟩ := kp
      exact ⟨h2, tk, rfl, fun b o e => k2 b o (old b o e), rd⟩
end
/-- an item of what is sorted -/
def RS (K : PySem.W.Frag) (H : Hp) (ι : List Addr) (Z : Ads) (e : E) (u : Value) (b : PyData × W) : Prop := ∃ v, RelV v u ∧ VR K H ι Z b.2 v ∧ (keyW e b.2).bind toPy = some b.1
theorem rs_of {K : PySem.W.Frag} {H : Hp} {ι : List Addr} {Z : Ads} {e : E} : ∀ {ws ks : List W} {vs : List V} {us : List Value} {ds : List PyData}, keyWs e ws = some ks → toPys ks = some ds → VRs K H ι Z ws vs → Vals vs us → PySem.W.EachIs (RS K H ι Z e) us (ds.zip ws)
  | [], ks, vs, us, ds, h1, h2, h3, h4 => by
    cases h1
    cases h2
    cases h3
    cases h4
    exact .nil
  | w :: ws, ks, vs, us, ds, h1, h2, h3, h4 => by
    have h1 : (match keyW e w, keyWs e ws with
      | some u, some us => some (u :: us)
      | _, _ => none) = some ks := h1
    cases k1 : keyW e w with
    | none => rw [k1] at h1; cases h1
    | some kw =>
      cases k2 : keyWs e ws with
      | none => rw [k1, k2] at h1; cases h1
      | some kws =>
        rw [k1, k2] at h1
        cases h1
        have h2 : (match toPy kw, toPys kws with
          | some d, some ds => some (d :: ds)
          | _, _ => none) = some ds := h2
        cases d1 : toPy kw with
        | none => rw [d1] at h2; cases h2
        | some d =>
          cases d2 : toPys kws with
          | none => rw [d1, d2] at h2; cases h2
          | some ds' =>
            rw [d1, d2] at h2
            cases h2
            obtain ⟨v, vs', rfl, r1, r2⟩ := h3
            cases h4 with
            | cons a b => exact .cons ⟨v, a, r1, by rw [k1]; exact d1⟩ (rs_of k2 d2 r2 b)
theorem rs_back {K : PySem.W.Frag} {H : Hp} {ι : List Addr} {Z : Ads} {e : E} : ∀ {us : List Value} {bs : List (PyData × W)}, PySem.W.EachIs (RS K H ι Z e) us bs → ∃ vs, Vals vs us ∧ VRs K H ι Z (bs.map Prod.snd) vs
  | _, _, .nil => ⟨[], .nil, rfl⟩
  | _, _, .cons a t => by
    obtain ⟨v, r1, r2, _⟩ := a
    obtain ⟨vs, r3, r4⟩ := rs_back t
    exact ⟨v :: vs, .cons r1 r3, v, vs, rfl, r2, r4⟩
theorem sortable_ok {ds : List PyData} (h : sortable ds = true) : PySem.W.Sortable ds := by
  unfold sortable at h
  rcases Bool.or_eq_true_iff.mp h with h | h
  · refine .inl fun d hd => ?_
    have := List.all_eq_true.mp h d hd
    split at this
    · exact ⟨_, _, rfl⟩
    · cases this
  · refine .inr fun d hd => ?_
    have := List.all_eq_true.mp h d hd
    split at this
    · cases this
    · cases this
    · rename_i h1 h2; exact ⟨fun z => h2 z, fun xs z => h1 xs z⟩
theorem srtW_ok {r : Bool} {ks ws us : List W} (h : srtW r ks ws = some us) : ∃ ds, toPys ks = some ds ∧ ks.length = ws.length ∧ PySem.W.AllAlike ds ∧ PySem.W.Sortable ds ∧ (∀ d ∈ ds, d.depth ≤ 64) ∧ ws.length ≤ sizeLine ∧ us = ((ds.zip ws).mergeSort (PySem.W.dataLe r Prod.fst)).map Prod.snd := by
  unfold srtW at h
  split at h
  · cases h
  · rename_i ds e
    split at h
    · rename_i c
      cases h
      refine ⟨ds, e, c.1, fun d hd d' hd' => ?_, sortable_ok c.2.2.1, fun d hd => ?_, c.2.2.2.2, rfl⟩
      · exact List.all_eq_true.mp (List.all_eq_true.mp c.2.1 d hd) d' hd'
      · exact of_decide_eq_true (List.all_eq_true.mp c.2.2.2.1 d hd)
    · cases h
theorem toPys_len : ∀ {ks : List W} {ds : List PyData}, toPys ks = some ds → ds.length = ks.length
  | [], _, h => by cases h; rfl
  | k :: ks, ds, h => by
    have h : (match toPy k, toPys ks with
      | some d, some ds => some (d :: ds)
      | _, _ => none) = some ds := h
    cases d1 : toPy k with
    | none => rw [d1] at h; cases h
    | some d =>
      cases d2 : toPys ks with
      | none => rw [d1, d2] at h; cases h
      | some ds' =>
        rw [d1, d2] at h
        cases h
        simp [toPys_len d2]
section
variable {F : List Str} {X : Cx} {C : Ctx} {N : List Str} {sc : Scope} {Wx : WX}
theorem fr_srtL (G : Gd F X C N sc Wx) {x : E} {x' : Expr} {y : Str} {e : E} {params : Arguments} {body : Expr} {scope : Scope} {p lpos kpos pos : Pos} (hx : Sd X C Wx x x') (ns : notStar x' = true) (hg : glB sc "sorted" = true) (hF : F.contains "<lambda>" = true)
    (L : LamSc y scope) (hp : oneP y params) (hb : keyB y e body = true) :
    PE X (.Call (.Name "sorted" p) [x'] [⟨some "key", .Lambda params body scope lpos, kpos⟩] pos) (rdF X.K C Wx (.srt x (some (.lam 1 e)) false)) := by
  have hm : X.mg "sorted" = none := G.free _ (by decide +kernel)
  obtain ⟨c, P, hcode, TB, hT, hu⟩ := G.lam hF
  refine ⟨fun pins s σ H Q I ⟨ι, Z, τ, h, hr, er, q⟩ => ?_⟩
  simp only [ev, fin] at q
  refine wpAny_Call_Name_kw (ld_blt I (G.gl hg) hm boot_sorted ?_)
  refine callWith_kw (thn ((pa_cons (te := fun σ H Q' => rdO X.K C Wx x σ H fun v H1 => Q' v H1) hx.opd pa_nil (star_cons ns)).run pos pins s σ H (fun vs H1 => ∃ v ι1 Z1 h1 u, vs = [v] ∧ Stp no ι Z H ι1 Z1 H1 ∧ HR X.K H1 ι1 Z1 h1 ∧ VP X.K H1 ι1 Z1 u v ∧ Ps X.K (VF X.K H) Wx σ ι1 Z1 H1 (match view h1 u with
      | .lst ws => (evKey C (some (.lam 1 e)) ws h1).bind fun ks h => .of ((srtW false ks ws).map .lst) h
      | _ => .bad) Q) I (rdO_next hr er q fun v H1 ι1 Z1 h1 u s1 hr1 er1 r1 q1 => ⟨v, ι1, Z1, h1, u, rfl, s1, hr1, r1, q1⟩)) fun us s1 ⟨vs, H1, I1, rv, q1⟩ => ?_) (by rw [star_cons ns]; rfl) (star_none (.cons hx ns .nil)) rfl rfl
  obtain ⟨v, ι1, Z1, h1, u, rfl, st1, hr1, r1, q1⟩ := q1
  obtain ⟨us1, rfl, ru⟩ := vals1 rv
  show wpAny _ _ (evalAll [(do let v ← eval (.Lambda params body scope lpos) X.env; standAt pos; pure v)]) _ _ _
  refine wpAny_evalAll_cons (wpAny_bind (lam_mk I1 TB hcode hT hu hr1.tb ?_ L.free fun f c' pm ctv H2 s2 I2 kp st tb of oc => wpAny_bind (wpAny_standAt (wpAny_pure (wpAny_evalAll_nil ?_)))))
  · obtain ⟨an, ap, rfl⟩ := hp; rfl
  have st2 : Stp no ι1 Z1 H1 ι1 Z1 H2 := ⟨fun _ _ e => e, fun _ e => .inl e, fun _ e => e, fun _ e => .inl e, fun a o e nt _ _ => kp a o e nt, st⟩
  have hr2 : HR X.K H2 ι1 Z1 h1 := hr1.go st2 (fun a ha => by
    obtain ⟨n, ob, _, _, ro⟩ := hr1.atA ha
    cases ob with
    | lst ws =>
      obtain ⟨vs, e, _⟩ := ro
      rw [e]
      exact kp a _ e fun _ z => nomatch z
    | _ => exact ro.elim) tb
  have r2 := (r1.go hr1 st2).view hr2
  generalize view h1 u = y at q1 r2
  cases y with
  | lst ws =>
    obtain ⟨l, vs, rfl, hS, hl, rvs⟩ := r2.lst
    cases (show us1 = Value.ref l from ru)
    obtain ⟨its, rI, pl, hz⟩ := Inv.list I2 hS
    have q1 : Ps X.K (VF X.K H) Wx σ ι1 Z1 H1 ((R.of (keyWs e ws) h1).bind fun ks h => .of ((srtW false ks ws).map .lst) h) Q := q1
    cases hks : keyWs e ws with
    | none => rw [hks] at q1; exact q1.elim
    | some ks =>
      rw [hks] at q1
      obtain ⟨w, e2, q2⟩ := Ps.of_some (α := W) q1
      obtain ⟨us2, e3, rfl⟩ := Option.map_eq_some_iff.mp e2
      obtain ⟨ds, d1, d2, d3, d4, d5, d6, rfl⟩ := srtW_ok e3
      have dl := toPys_len d1
      have each := rs_of hks d1 rvs rI
      have fst_eq : (ds.zip ws).map Prod.fst = ds := List.map_fst_zip (by omega)
      have zl : (ds.zip ws).length = ws.length := by rw [List.length_zip]; omega
      obtain ⟨oc1, oc2, oc3⟩ := (I2.hok c' _ oc)
      have key := PySem.W.sorted_key_data (prog := X.prog) (w := X.w) (A := X.A) (E := X.xe) (s := s2) (f := .ref f) (kw := [(Str.ofString "key", .ref f)]) (b := false) (Q := EP X pins σ Q) (k := Prod.fst) pl.isList each (by rw [fst_eq]; exact d3) (by rw [fst_eq]; exact d4) (by rw [zl]; exact d6)
        (fun z hz' => by
          have := d5 z.1 (by rw [← fst_eq]; exact List.mem_map_of_mem hz')
          have := G.hu
          omega) (PyProof.Rows.ksk_s1 _ _) (fun _ => PyProof.Rows.ksk_l1 _ _) (fun a => PyProof.Rows.ksk_t1 f a)
        (fun u1 z rz hz' g tk old => ?_) (fun out n g tk old fr ob len ea => ?_)
      · exact key
      · obtain ⟨v1, a1, a2, a3⟩ := rz
        obtain ⟨kw, a4, a5⟩ := Option.bind_eq_some_iff.mp a3
        obtain ⟨oc, cvs, t, c1, c2, c3⟩ := oc1
        refine lam_call (s := { s2 with heap := g, toks := tk }) (I2.nolimit.at fun o e => old _ o e) (by have := G.dp; exact (show X.A.depth < recursionLimit by omega)) (old _ _ of) ⟨oc, cvs, t, old _ _ c1, c2, c3⟩ L hp hb a4 a2 a1 a5 fun t vs e1 hq => ?_
        obtain ⟨its, b1, b2, _⟩ := Inv.tuple I2 hq
        exact ⟨its, b1, b2.keeps old⟩
      · obtain ⟨vs2, b1, b2⟩ := rs_back ea
        have hf : H2 (s2.heap.objs.size + 1) = none := I2.hok.fresh (Nat.le_succ _)
        have hlen : vs2.length ≤ sizeLine := by
          have := b1.length
          omega
        refine ⟨.ref _, upd H2 (s2.heap.objs.size + 1) (.lst vs2), I2.laid (t' := tk) old (Nat.le_succ _) ⟨hlen, out, n, b1, ob⟩, rfl, ?_⟩
        exact new_lstF hr2 hf hlen b2 fun H' z st3 hr3 vf => q2 ι1 Z1 H' z (st2.trans0 st3) hr3 (vf.base (st1.trans0 st2))
  | _ => exact q1.elim
end
end Bd
/-! All expressions that pass the check. -/
namespace Bd
open PySem PySem.Spec PyProof.Rows L2
theorem own_map {N : List Str} : ∀ {is : List Nat}, allIn N is = true → (ownOf N is).map (·.2) = is
  | [], _ => rfl
  | i :: is, h => by
    have h : (decide (i < N.length) && allIn N is) = true := h
    rw [Bool.and_eq_true, decide_eq_true_eq] at h
    unfold ownOf
    rw [List.getElem?_eq_getElem h.1]
    simp [own_map h.2]
theorem notSet_marks {op : CmpOp} {b : Expr} (h : notSet b = true) : behindInMarks op b = false := by
  cases b <;> first | rfl | cases h
theorem and2 {a b : Bool} (h : (a && b) = true) : a = true ∧ b = true := by rwa [Bool.and_eq_true] at h
theorem rngName_ok {sc : Scope} {x : Str} (h : rngName sc x = true) : x = ("range" : Str) ∧ glB sc "range" = true := by
  obtain ⟨h1, h2⟩ := and2 h
  have := of_decide_eq_true h1
  subst this
  exact ⟨rfl, h2⟩
section
variable {F : List Str} {C : Ctx} {N : List Str}
theorem lamB_ok {e : E} {ps : Arguments} {body : Expr} {sc : Scope} (h : lamB e ps body sc = true) : ∃ y, oneP y ps ∧ LamSc y sc ∧ keyB y e body = true := by
  unfold lamB at h
  split at h
  · obtain ⟨h1, h2⟩ := and2 h
    exact ⟨_, ⟨_, _, rfl⟩, lamSc_ok h1, h2⟩
  · cases h
theorem srt_ok (x : E) (k : Option Key) (r : Bool) (X : Cx) (sc : Scope) (Wx : WX) (a : Expr) (G : Gd F X C N sc Wx) (ih : ∀ (X : Cx) (sc : Scope) (Wx : WX) (a : Expr), Gd F X C N sc Wx → chk F N sc x a = true → Sd X C Wx x a) (h : chk F N sc (.srt x k r) a = true) : PE X a (rdF X.K C Wx (.srt x k r)) ∧ plainT a = true := by
  unfold chk at h
  split at h
  · rename_i e f p x' kn ps body lsc lpos kpos pos
    obtain ⟨h, h7⟩ := and2 h
    obtain ⟨h, h6⟩ := and2 h
    obtain ⟨h, h5⟩ := and2 h
    obtain ⟨h, h4⟩ := and2 h
    obtain ⟨h, h3⟩ := and2 h
    obtain ⟨h1, h2⟩ := and2 h
    have h1 := of_decide_eq_true h1
    have h2 := of_decide_eq_true h2
    subst h1 h2
    obtain ⟨y, hp, L, hb⟩ := lamB_ok h7
    exact ⟨fr_srtL G (ih X sc Wx x' G h6) h5 h3 h4 L hp hb, rfl⟩
  · cases h
mutual
theorem snd_e : ∀ (e : E) (X : Cx) (sc : Scope) (Wx : WX) (a : Expr), Gd F X C N sc Wx → chk F N sc e a = true → Sd X C Wx e a
  | .var i, X, sc, Wx, a, G, h => by
    cases a with
    | Name x p =>
      obtain ⟨h1, h3⟩ := and2 (show (decide (N[i]? = some x) && visB sc x && !dbg x) = true from h)
      obtain ⟨h1, h2⟩ := and2 h1
      exact sd_var G (of_decide_eq_true h1) (visB_ok h2) (by simpa using h3)
    | _ => cases h
  | .non, X, sc, Wx, a, G, h => by
    obtain ⟨j, p, rfl⟩ := isNone_ok (show isNone a = true from h)
    exact sd_lit pe_non (fun _ _ => rfl) (fun _ _ _ => rfl) (fun _ _ => rfl) (fun _ _ => rfl) rfl
  | .bl b, X, sc, Wx, a, G, h => by
    obtain ⟨j, p, rfl⟩ := isBl_ok (show isBl b a = true from h)
    exact sd_lit pe_bl (fun _ _ => rfl) (fun _ _ _ => rfl) (fun _ _ => rfl) (fun _ _ => rfl) rfl
  | .int i, X, sc, Wx, a, G, h => by
    cases a with
    | Constant c j p =>
      cases c with
      | int k =>
        have := of_decide_eq_true (show decide (i = k) = true from h)
        subst this
        exact sd_lit pe_int (fun _ _ => rfl) (fun _ _ _ => rfl) (fun _ _ => rfl) (fun _ _ => rfl) rfl
      | _ => cases h
    | _ => cases h
  | .str x, X, sc, Wx, a, G, h => by
    cases a with
    | Constant c j p =>
      cases c with
      | str y =>
        obtain ⟨h1, h3⟩ := and2 (show (decide (x = y) && PyData.strOk x && decide (x.length ≤ sizeLine)) = true from h)
        obtain ⟨h1, h2⟩ := and2 h1
        have := of_decide_eq_true h1
        subst this
        exact sd_lit pe_str (fun _ _ => rfl) (fun _ _ _ => ⟨rfl, h2, of_decide_eq_true h3⟩) (fun _ _ => rfl) (fun _ _ => rfl) rfl
      | _ => cases h
    | _ => cases h
  | .con x, X, sc, Wx, a, G, h => by
    cases a with
    | Name y p =>
      obtain ⟨h1, h3⟩ := and2 (show (decide (x = y) && glB sc y && !dbg y) = true from h)
      obtain ⟨h1, h2⟩ := and2 h1
      have := of_decide_eq_true h1
      subst this
      exact sd_con G h2 (by simpa using h3)
    | _ => cases h
  | .bin o x y, X, sc, Wx, a, G, h => by
    cases a with
    | BinOp x' p y' pos =>
      obtain ⟨h1, h3⟩ := and2 (show (opB o p && chk F N sc x x' && chk F N sc y y') = true from h)
      obtain ⟨h1, h2⟩ := and2 h1
      have := opB_ok h1
      subst this
      exact sd_bin (snd_e x X sc Wx x' G h2) (snd_e y X sc Wx y' G h3)
    | _ => cases h
  | .neg x, X, sc, Wx, a, G, h => by
    cases a with
    | UnaryOp o x' pos =>
      cases o with
      | USub => exact sd_neg (snd_e x X sc Wx x' G h)
      | _ => cases h
    | _ => cases h
  | .cmp o x y, X, sc, Wx, a, G, h => by
    cases a with
    | Compare x' ps ys pos =>
      match ps, ys, h with
      | [p], [y'], h =>
        obtain ⟨h1, h4⟩ := and2 (show (cmpB o p && notSet y' && chk F N sc x x' && chk F N sc y y') = true from h)
        obtain ⟨h1, h3⟩ := and2 h1
        obtain ⟨h1, h2⟩ := and2 h1
        have := cmpB_ok h1
        subst this
        exact sd_cmp G.hu (snd_e x X sc Wx x' G h3) (snd_e y X sc Wx y' G h4) (notSet_marks h2)
    | _ => cases h
  | .chain o o' x y z, X, sc, Wx, a, G, h => by
    cases a with
    | Compare x' ps ys pos =>
      match ps, ys, h with
      | [p, p'], [y', z'], h =>
        obtain ⟨h1, h6⟩ := and2 (show (cmpB o p && cmpB o' p' && notSet z' && chk F N sc x x' && chk F N sc y y' && chk F N sc z z') = true from h)
        obtain ⟨h1, h5⟩ := and2 h1
        obtain ⟨h1, h4⟩ := and2 h1
        obtain ⟨h1, h3⟩ := and2 h1
        obtain ⟨h1, h2⟩ := and2 h1
        have := cmpB_ok h1
        have := cmpB_ok h2
        subst p p'
        exact sd_chain G.hu (snd_e x X sc Wx x' G h4) (snd_e y X sc Wx y' G h5) (snd_e z X sc Wx z' G h6) (notSet_marks h3)
    | _ => cases h
  | .isn x, X, sc, Wx, a, G, h => by
    cases a with
    | Compare x' ps ys pos =>
      match ps, ys, h with
      | [.Is], [y'], h =>
        obtain ⟨h1, h2⟩ := and2 (show (isNone y' && chk F N sc x x') = true from h)
        obtain ⟨j, p, rfl⟩ := isNone_ok h1
        exact sd_isn (snd_e x X sc Wx x' G h2)
    | _ => cases h
  | .notn x, X, sc, Wx, a, G, h => by
    cases a with
    | Compare x' ps ys pos =>
      match ps, ys, h with
      | [.IsNot], [y'], h =>
        obtain ⟨h1, h2⟩ := and2 (show (isNone y' && chk F N sc x x') = true from h)
        obtain ⟨j, p, rfl⟩ := isNone_ok h1
        exact sd_notn (snd_e x X sc Wx x' G h2)
    | _ => cases h
  | .isb x k, X, sc, Wx, a, G, h => by
    cases a with
    | Compare x' ps ys pos =>
      match ps, ys, h with
      | [.Is], [y'], h =>
        obtain ⟨h1, h2⟩ := and2 (show (isBl k y' && chk F N sc x x') = true from h)
        obtain ⟨j, p, rfl⟩ := isBl_ok h1
        exact sd_isb (snd_e x X sc Wx x' G h2)
    | _ => cases h
  | .notb x k, X, sc, Wx, a, G, h => by
    cases a with
    | Compare x' ps ys pos =>
      match ps, ys, h with
      | [.IsNot], [y'], h =>
        obtain ⟨h1, h2⟩ := and2 (show (isBl k y' && chk F N sc x x') = true from h)
        obtain ⟨j, p, rfl⟩ := isBl_ok h1
        exact sd_notb (snd_e x X sc Wx x' G h2)
    | _ => cases h
  | .and es, X, sc, Wx, a, G, h => by
    cases a with
    | BoolOp o xs pos =>
      cases o with
      | And =>
        obtain ⟨h1, h2⟩ := and2 (show (chks F N sc es xs && decide (2 ≤ xs.length)) = true from h)
        have l := snd_es es X sc Wx xs G h1
        refine sd_and l fun e => ?_
        subst e
        cases l
        exact absurd (of_decide_eq_true h2) (by decide)
      | Or => cases h
    | _ => cases h
  | .or es, X, sc, Wx, a, G, h => by
    cases a with
    | BoolOp o xs pos =>
      cases o with
      | Or =>
        obtain ⟨h1, h2⟩ := and2 (show (chks F N sc es xs && decide (2 ≤ xs.length)) = true from h)
        have l := snd_es es X sc Wx xs G h1
        refine sd_or l fun e => ?_
        subst e
        cases l
        exact absurd (of_decide_eq_true h2) (by decide)
      | And => cases h
    | _ => cases h
  | .not x, X, sc, Wx, a, G, h => by
    cases a with
    | UnaryOp o x' pos =>
      cases o with
      | Not => exact sd_not (snd_e x X sc Wx x' G h)
      | _ => cases h
    | _ => cases h
  | .ite c x y, X, sc, Wx, a, G, h => by
    cases a with
    | IfExp c' x' y' pos =>
      obtain ⟨h1, h3⟩ := and2 (show (chk F N sc c c' && chk F N sc x x' && chk F N sc y y') = true from h)
      obtain ⟨h1, h2⟩ := and2 h1
      exact sd_ite (snd_e c X sc Wx c' G h1) (snd_e x X sc Wx x' G h2) (snd_e y X sc Wx y' G h3)
    | _ => cases h
  | .tup es, X, sc, Wx, a, G, h => by
    cases a with
    | Tuple xs k pos => exact sd_tup (snd_es es X sc Wx xs G h)
    | _ => cases h
  | .lst es, X, sc, Wx, a, G, h => by
    cases a with
    | List xs pos => exact sd_lst (snd_es es X sc Wx xs G h)
    | _ => cases h
  | .rep es n, X, sc, Wx, a, G, h => by
    cases a with
    | BinOp l p n' pos =>
      cases l with
      | List xs p1 =>
        cases p with
        | Mult =>
          obtain ⟨h1, h2⟩ := and2 (show (chks F N sc es xs && chk F N sc n n') = true from h)
          exact sd_rep (snd_es es X sc Wx xs G h1) (snd_e n X sc Wx n' G h2)
        | _ => cases h
      | _ => cases h
    | _ => cases h
  | .ix x i, X, sc, Wx, a, G, h => by
    cases a with
    | Subscript x' i' pos =>
      obtain ⟨h1, h3⟩ := and2 (show (notSlice i' && chk F N sc x x' && chk F N sc i i') = true from h)
      obtain ⟨h1, h2⟩ := and2 h1
      exact sd_ix (snd_e x X sc Wx x' G h2) (snd_e i X sc Wx i' G h3) h1
    | _ => cases h
  | .sl x lo hi, X, sc, Wx, a, G, h => by
    cases a with
    | Subscript x' i' pos =>
      cases i' with
      | Slice lo' hi' st p2 =>
        cases st with
        | none =>
          obtain ⟨h1, h3⟩ := and2 (show (chk F N sc x x' && chko F N sc lo lo' && chko F N sc hi hi') = true from h)
          obtain ⟨h1, h2⟩ := and2 h1
          exact sd_sl (snd_e x X sc Wx x' G h1) (snd_o lo X sc Wx lo' G h2) (snd_o hi X sc Wx hi' G h3)
        | some _ => cases h
      | _ => cases h
    | _ => cases h
  | .rev x, X, sc, Wx, a, G, h => by
    unfold chk at h
    split at h
    · exact sd_rev (snd_e x X sc Wx _ G h)
    · cases h
  | .call f es, X, sc, Wx, a, G, h => by
    unfold chk at h
    split at h
    · rename_i x p xs pos
      obtain ⟨h1, h5⟩ := and2 h
      obtain ⟨h1, h4⟩ := and2 h1
      obtain ⟨h1, h3⟩ := and2 h1
      obtain ⟨h1, h2⟩ := and2 h1
      obtain ⟨h1, h00⟩ := and2 h1
      obtain ⟨h1, h0⟩ := and2 h1
      have := of_decide_eq_true h1
      subst this
      exact sd_call G (snd_es es X sc Wx xs G h4) (of_decide_eq_true h5) h0 (of_decide_eq_true h00) h2 (by simpa using h3)
    · cases h
  | .bi k es, X, sc, Wx, a, G, h => by
    unfold chk at h
    split at h
    · rename_i x p xs pos
      obtain ⟨h1, h4⟩ := and2 h
      obtain ⟨h1, h3⟩ := and2 h1
      obtain ⟨h1, h2⟩ := and2 h1
      have := of_decide_eq_true h1
      subst this
      exact sd_bi G (snd_es es X sc Wx xs G h3) (of_decide_eq_true h4) h2
    · cases h
  | .isi x tys, X, sc, Wx, a, G, h => by
    unfold chk at h
    split at h
    · rename_i f p x' t' pos
      obtain ⟨h1, h6⟩ := and2 h
      obtain ⟨h1, h5⟩ := and2 h1
      obtain ⟨h1, h4⟩ := and2 h1
      obtain ⟨h1, h3⟩ := and2 h1
      obtain ⟨h1, h2⟩ := and2 h1
      have := of_decide_eq_true h1
      subst this
      exact sd_isi G (snd_e x X sc Wx x' G h4) h3 h2 (of_decide_eq_true h5) h6
    · cases h
  | .lc e t s c, X, sc, Wx, a, G, h => by
    unfold chk at h
    split at h
    · rename_i elt tg iter ifs sc' pos
      obtain ⟨h1, h7⟩ := and2 h
      obtain ⟨h1, h6⟩ := and2 h1
      obtain ⟨h1, h5⟩ := and2 h1
      obtain ⟨h1, h4⟩ := and2 h1
      obtain ⟨h1, h3⟩ := and2 h1
      obtain ⟨h1, h2⟩ := and2 h1
      exact Sd.fr (fr_lc G h1 (own_map h2) (snd_s s X sc Wx tg iter G h4) h5 (fun X' G' L => pg_tg G' L t tg h3) (fun X' G' => snd_c c X' _ ifs G' h6) (fun X' G' => snd_e e X' _ WF elt G' h7)) (fun _ _ => rfl) (fun _ _ => rfl) rfl
    · cases h
  | .srt x k r, X, sc, Wx, a, G, h => Sd.fr (srt_ok x k r X sc Wx a G (snd_e x) h).1 (fun _ _ => rfl) (fun _ _ => rfl) (srt_ok x k r X sc Wx a G (snd_e x) h).2
  | .shr x, X, sc, Wx, a, G, h => by
    obtain ⟨h1, h3⟩ := and2 (show (freshE x && plainT a && chk F N sc x a) = true from h)
    obtain ⟨h1, h2⟩ := and2 h1
    exact sd_shr (snd_f x X sc Wx a G h1 h3) h2
  | .lrng es, X, sc, Wx, a, G, h => by
    unfold chk at h
    split at h
    · rename_i x p y p2 xs pos2 pos
      obtain ⟨h1, h5⟩ := and2 h
      obtain ⟨h1, h4⟩ := and2 h1
      obtain ⟨h1, h3⟩ := and2 h1
      obtain ⟨h1, h2⟩ := and2 h1
      have := of_decide_eq_true h1
      subst this
      obtain ⟨rfl, h3⟩ := rngName_ok h3
      exact sd_lrng G (snd_es es X sc Wx xs G h4) h3 h2 (of_decide_eq_true h5)
    · cases h
theorem snd_f : ∀ (e : E) (X : Cx) (sc : Scope) (Wx : WX) (a : Expr), Gd F X C N sc Wx → freshE e = true → chk F N sc e a = true → PE X a (rdF X.K C Wx e)
  | .lst es, X, sc, Wx, a, G, _, h => by
    cases a with
    | List xs pos => exact fr_lst (snd_es es X sc Wx xs G h)
    | _ => cases h
  | .rep es n, X, sc, Wx, a, G, _, h => by
    cases a with
    | BinOp l p n' pos =>
      cases l with
      | List xs p1 =>
        cases p with
        | Mult =>
          obtain ⟨h1, h2⟩ := and2 (show (chks F N sc es xs && chk F N sc n n') = true from h)
          exact fr_rep (snd_es es X sc Wx xs G h1) (snd_e n X sc Wx n' G h2)
        | _ => cases h
      | _ => cases h
    | _ => cases h
  | .lc e t s c, X, sc, Wx, a, G, _, h => by
    unfold chk at h
    split at h
    · rename_i elt tg iter ifs sc' pos
      obtain ⟨h1, h7⟩ := and2 h
      obtain ⟨h1, h6⟩ := and2 h1
      obtain ⟨h1, h5⟩ := and2 h1
      obtain ⟨h1, h4⟩ := and2 h1
      obtain ⟨h1, h3⟩ := and2 h1
      obtain ⟨h1, h2⟩ := and2 h1
      exact fr_lc G h1 (own_map h2) (snd_s s X sc Wx tg iter G h4) h5 (fun X' G' L => pg_tg G' L t tg h3) (fun X' G' => snd_c c X' _ ifs G' h6) (fun X' G' => snd_e e X' _ WF elt G' h7)
    · cases h
  | .lrng es, X, sc, Wx, a, G, _, h => by
    unfold chk at h
    split at h
    · rename_i x p y p2 xs pos2 pos
      obtain ⟨h1, h5⟩ := and2 h
      obtain ⟨h1, h4⟩ := and2 h1
      obtain ⟨h1, h3⟩ := and2 h1
      obtain ⟨h1, h2⟩ := and2 h1
      have := of_decide_eq_true h1
      subst this
      obtain ⟨rfl, h3⟩ := rngName_ok h3
      exact fr_lrng G (snd_es es X sc Wx xs G h4) h3 h2 (of_decide_eq_true h5)
    · cases h
  | .bi k es, X, sc, Wx, a, G, hf, h => by
    match k, es, hf, h with
    | .list, [x], _, h =>
      cases a with
      | Call fn xs kws pos =>
        cases fn with
        | Name y p =>
          cases kws with
          | nil =>
            obtain ⟨h1, h4⟩ := and2 (show (decide (y = Bi.list.nm) && glB sc y && chks F N sc [x] xs && decide (xs ≠ [])) = true from h)
            obtain ⟨h1, h3⟩ := and2 h1
            obtain ⟨h1, h2⟩ := and2 h1
            have := of_decide_eq_true h1
            subst this
            match xs, snd_es [x] X sc Wx xs G h3 with
            | [x'], .cons hx ns .nil => exact fr_list G hx ns h2
          | cons _ _ => cases h
        | _ => cases h
      | _ => cases h
  | .var _, _, _, _, _, _, hf, _ => nomatch hf
  | .non, _, _, _, _, _, hf, _ => nomatch hf
  | .bl _, _, _, _, _, _, hf, _ => nomatch hf
  | .int _, _, _, _, _, _, hf, _ => nomatch hf
  | .str _, _, _, _, _, _, hf, _ => nomatch hf
  | .con _, _, _, _, _, _, hf, _ => nomatch hf
  | .bin _ _ _, _, _, _, _, _, hf, _ => nomatch hf
  | .neg _, _, _, _, _, _, hf, _ => nomatch hf
  | .cmp _ _ _, _, _, _, _, _, hf, _ => nomatch hf
  | .chain _ _ _ _ _, _, _, _, _, _, hf, _ => nomatch hf
  | .isn _, _, _, _, _, _, hf, _ => nomatch hf
  | .notn _, _, _, _, _, _, hf, _ => nomatch hf
  | .isb _ _, _, _, _, _, _, hf, _ => nomatch hf
  | .notb _ _, _, _, _, _, _, hf, _ => nomatch hf
  | .and _, _, _, _, _, _, hf, _ => nomatch hf
  | .or _, _, _, _, _, _, hf, _ => nomatch hf
  | .not _, _, _, _, _, _, hf, _ => nomatch hf
  | .ite _ _ _, _, _, _, _, _, hf, _ => nomatch hf
  | .tup _, _, _, _, _, _, hf, _ => nomatch hf
  | .ix _ _, _, _, _, _, _, hf, _ => nomatch hf
  | .sl _ _ _, _, _, _, _, _, hf, _ => nomatch hf
  | .rev _, _, _, _, _, _, hf, _ => nomatch hf
  | .call _ _, _, _, _, _, _, hf, _ => nomatch hf
  | .isi _ _, _, _, _, _, _, hf, _ => nomatch hf
  | .srt x k r, X, sc, Wx, a, G, _, h => (srt_ok x k r X sc Wx a G (snd_e x) h).1
  | .shr _, _, _, _, _, _, hf, _ => nomatch hf
theorem snd_es : ∀ (es : List E) (X : Cx) (sc : Scope) (Wx : WX) (xs : List Expr), Gd F X C N sc Wx → chks F N sc es xs = true → SdL X C Wx es xs
  | [], X, sc, Wx, xs, G, h => by
    cases xs with
    | nil => exact .nil
    | cons _ _ => cases h
  | e :: es, X, sc, Wx, xs, G, h => by
    cases xs with
    | nil => cases h
    | cons x xs =>
      obtain ⟨h1, h3⟩ := and2 (show (notStar x && chk F N sc e x && chks F N sc es xs) = true from h)
      obtain ⟨h1, h2⟩ := and2 h1
      exact .cons (snd_e e X sc Wx x G h2) h1 (snd_es es X sc Wx xs G h3)
theorem snd_o : ∀ (e : Option E) (X : Cx) (sc : Scope) (Wx : WX) (a : Option Expr), Gd F X C N sc Wx → chko F N sc e a = true → SdO X C Wx e a
  | none, X, sc, Wx, a, G, h => by
    cases a with
    | none => exact .none
    | some _ => cases h
  | some e, X, sc, Wx, a, G, h => by
    cases a with
    | none => cases h
    | some a => exact .some (snd_e e X sc Wx a G h)
theorem snd_c : ∀ (e : Option E) (X : Cx) (sc : Scope) (a : List Expr), Gd F X C N sc WF → chkc F N sc e a = true → SdC X C e a
  | none, X, sc, a, G, h => by
    cases a with
    | nil => exact .none
    | cons _ _ => cases h
  | some e, X, sc, a, G, h => by
    match a, h with
    | [a], h => exact .some (snd_e e X sc WF a G h)
theorem snd_s : ∀ (s : Src) (X : Cx) (sc : Scope) (Wx : WX) (tg a : Expr), Gd F X C N sc Wx → srcB F N sc s a = true → PI X tg a (rdS X.K C Wx s)
  | .of x, X, sc, Wx, tg, a, G, h => pi_ofO (snd_e x X sc Wx a G h)
  | .rng es, X, sc, Wx, tg, a, G, h => by
    unfold srcB at h
    split at h
    · rename_i y p xs pos
      obtain ⟨h1, h3⟩ := and2 h
      obtain ⟨h1, h2⟩ := and2 h1
      obtain ⟨rfl, h1⟩ := rngName_ok h1
      exact pi_rng G (fun _ _ _ _ _ _ => wk_rng) .opd (snd_es es X sc Wx xs G h2) h1 (of_decide_eq_true h3)
    · cases h
  | .zip _ _, _, _, _, _, _, _, h => by cases h
  | .enum _, _, _, _, _, _, _, h => by cases h
  | .revd _, _, _, _, _, _, _, h => by cases h
end
end
end Bd
/-! Statements. -/
namespace Bd
open PySem PySem.Spec PyProof.Rows L2

/-- a state of a frame, come from (ι0, Z0, H0) -/
structure SX (K : PySem.W.Frag) (M : Ads) (ι0 : List Addr) (Z0 : Ads) (H0 : Hp) (ι : List Addr) (Z : Ads) (σ : L2.St) (H : Hp) (τ : Env) (h : Hw) : Prop where
  st : Stp M ι0 Z0 H0 ι Z H
  hr : HR K H ι Z h
  er : ER K H ι Z σ τ
  ow : ∀ (i : Nat) (o : Ob) (a : Addr), τ[i]? = some (.own o) → σ[i]? = some (some (.ref a)) → M a ∨ H0 a = none
section
variable {K : PySem.W.Frag} {M : Ads} {ι0 ι ι' : List Addr} {Z0 Z Z' : Ads} {H0 H H' : Hp} {σ : L2.St} {τ : Env} {h h' : Hw}
theorem SX.go (s : SX K M ι0 Z0 H0 ι Z σ H τ h) (t : Stp no ι Z H ι' Z' H') (hr : HR K H' ι' Z' h') : SX K M ι0 Z0 H0 ι' Z' σ H' τ h' := ⟨s.st.trans0 t, hr, s.er.go s.hr t, s.ow⟩
end
/-- a statement's outcome, as what is wanted -/
def PsS (K : PySem.W.Frag) (Wx : WX) (M : Ads) (ι0 : List Addr) (Z0 : Ads) (H0 : Hp) (D : Ends) : Out → Prop
  | .next τ h => ∀ ι Z σ H, SX K M ι0 Z0 H0 ι Z σ H τ h → D.nx σ H
  | .ret w h => ∀ ι Z H v, Stp M ι0 Z0 H0 ι Z H → HR K H ι Z h → VR K H ι Z w v → D.rt v H
  | .brk τ h => ∀ ι Z σ H, SX K M ι0 Z0 H0 ι Z σ H τ h → D.bk σ H
  | .cont τ h => ∀ ι Z σ H, SX K M ι0 Z0 H0 ι Z σ H τ h → D.ct σ H
  | .exc c ws τ h => ∀ ι Z σ H cls d, SX K M ι0 Z0 H0 ι Z σ H τ h → XR c ws cls d H ι Z → Wx cls d σ H
  | .bad => False
def rdS1 (K : PySem.W.Frag) (Wx : WX) (f : Env → Hw → Out) : TS := fun D σ H => ∃ M ι0 Z0 H0 ι Z τ h, SX K M ι0 Z0 H0 ι Z σ H τ h ∧ PsS K Wx M ι0 Z0 H0 D (f τ h)
theorem ps_imp {X : Cx} {st : Stmt} {t t' : TS} (p : PS X st t) (i : ∀ D σ H, t' D σ H → t D σ H) : PS X st t' := ⟨fun pins s σ H D I h => p.run pins s σ H D I (i D σ H h)⟩
theorem pss_imp {X : Cx} {st : List Stmt} {t t' : TS} (p : PSs X st t) (i : ∀ D σ H, t' D σ H → t D σ H) : PSs X st t' := ⟨fun pins s σ H D I h => p.run pins s σ H D I (i D σ H h)⟩
section
variable {K : PySem.W.Frag} {Wx : WX} {D : Ends} {σ : L2.St} {H : Hp}
/-- a reading whose relation may look at the slots -/
def rdGt {α β : Type} (K : PySem.W.Frag) (Wx : WX) (RA : L2.St → Env → Hp → Rel α β) (r : Env → Hw → R α) : L2.St → Hp → (β → Hp → Prop) → Prop := fun σ H Q => ∃ ι Z τ h, HR K H ι Z h ∧ ER K H ι Z σ τ ∧ Ps K (RA σ τ H) Wx σ ι Z H (r τ h) Q
theorem then_sx {α β : Type} {RA : L2.St → Env → Hp → Rel α β} {r : Env → Hw → R α} {f : Env → α → Hw → Out} {Q : β → Hp → Prop} {M : Ads} {ι0 ι : List Addr} {Z0 Z : Ads} {H0 : Hp} {τ : Env} {h : Hw} (s : SX K M ι0 Z0 H0 ι Z σ H τ h) (q : PsS K Wx M ι0 Z0 H0 D ((r τ h).then' τ (f τ)))
    (n : ∀ ι' Z' h' b H1 a, SX K M ι0 Z0 H0 ι' Z' σ H1 τ h' → (∀ (i : Nat) (o : Ob) (a : Addr), τ[i]? = some (Sl.own o) → σ[i]? = some (some (V.ref a)) → H a ≠ none) → Stp no ι Z H ι' Z' H1 → (∀ a, H a = none → H0 a = none) → RA σ τ H H1 ι' Z' a b → PsS K Wx M ι0 Z0 H0 D (f τ a h') → Q b H1) : rdGt K Wx RA r σ H Q := by
  refine ⟨ι, Z, τ, h, s.hr, s.er, ?_⟩
  cases e : r τ h with
  | ok a h' =>
    rw [e] at q
    intro ι' Z' H' b t hr' ra
    have s' := s.go t hr'
    refine n ι' Z' h' b H' a s' (fun i o a e1 e2 => ?_) t (fun a ha => s.st.free ha) ra q
    obtain ⟨a', e3, _, _, ro⟩ := s.er.own i o e1
    rw [e2] at e3
    cases e3
    exact ro.kind.2.2
  | exc c ws h' =>
    rw [e] at q
    exact fun ι' Z' H' cls d t hr' xr => q ι' Z' σ H' cls d (s.go t hr') xr
  | bad => rw [e] at q; exact q
theorem then_rd {α β : Type} {RA : Hp → Rel α β} {r : Env → Hw → R α} {f : Env → α → Hw → Out} {Q : β → Hp → Prop} (p : rdS1 K Wx (fun τ h => (r τ h).then' τ (f τ)) D σ H)
    (n : ∀ M ι0 Z0 H0 ι Z τ h b H1 a, SX K M ι0 Z0 H0 ι Z σ H1 τ h → (∀ (i : Nat) (o : Ob) (a : Addr), τ[i]? = some (Sl.own o) → σ[i]? = some (some (V.ref a)) → H a ≠ none) → (∀ a, H a = none → H0 a = none) → RA H H1 ι Z a b → PsS K Wx M ι0 Z0 H0 D (f τ a h) → Q b H1) : rdG K Wx RA r σ H Q := by
  obtain ⟨M, ι0, Z0, H0, ι, Z, τ, h, s, q⟩ := p
  exact then_sx (RA := fun _ _ => RA) s q fun ι' Z' h' b H1 a s1 k _ k2 => n M ι0 Z0 H0 ι' Z' τ h' b H1 a s1 k k2
end
/-- where a body's statements stand -/
structure Gb (F : List Str) (X : Cx) (C : Ctx) (N : List Str) (sc : Scope) (Wx : WX) : Prop where
  g : Gd F X C N sc Wx
  ts : Ts X sc
  pass : PassesOwn (model X.prog X.w) X.A X.env X.xe
  bk : X.env.blockKind = .function
section
variable {F : List Str} {X : Cx} {C : Ctx} {N : List Str} {sc : Scope} {Wx : WX}
def notComp : Expr → Bool
  | .ListComp .. => false
  | .SetComp .. => false
  | .DictComp .. => false
  | _ => true
theorem sw_none {a : Expr} {t : Option Expr} {l : Nat} {env : PySem.Env} (h : notComp a = true) : swapsWith a t l env = pure false := by
  cases a <;> first | rfl | cases h
theorem st_expr {e : E} {a : Expr} {pos : Pos} (h : Sd X C Wx e a) (nc : notComp a = true) : PS X (.Expr a pos) (rdS1 X.K Wx fun τ h => exS C (.expr e) τ h) :=
  ps_imp (ps_expr h.val (sw_none nc)) fun D σ H p => by
    simp only [exS] at p
    exact then_rd (RA := VN X.K) (r := fun τ h => ev C τ e .val h) (f := fun τ _ h => .next τ h) p fun M ι0 Z0 H0 ι Z τ h b H1 a s _ _ _ q => q ι Z σ H1 s
theorem st_pass {pos : Pos} : PS X (.Pass pos) (rdS1 X.K Wx fun τ h => exS C .pass τ h) :=
  ps_imp ps_pass fun D σ H ⟨M, ι0, Z0, H0, ι, Z, τ, h, s, q⟩ => q ι Z σ H s
theorem st_brk {pos : Pos} : PS X (.Break pos) (rdS1 X.K Wx fun τ h => exS C .brk τ h) :=
  ps_imp ps_break fun D σ H ⟨M, ι0, Z0, H0, ι, Z, τ, h, s, q⟩ => q ι Z σ H s
theorem st_cont {pos : Pos} : PS X (.Continue pos) (rdS1 X.K Wx fun τ h => exS C .cont τ h) :=
  ps_imp ps_continue fun D σ H ⟨M, ι0, Z0, H0, ι, Z, τ, h, s, q⟩ => q ι Z σ H s
/-- an own object that becomes a value -/
theorem own_frz {K : PySem.W.Frag} {M : Ads} {ι0 ι : List Addr} {Z0 Z : Ads} {H0 H : Hp} {h : Hw} {o : Ob} {a : Addr} (st : Stp M ι0 Z0 H0 ι Z H) (hr : HR K H ι Z h) (ro : ObR K H ι Z o a) (ni : a ∉ ι) (hm : M a ∨ H0 a = none) :
    Stp M ι0 Z0 H0 ι (fun b => Z b ∨ b = a) H ∧ HR K H ι (fun b => Z b ∨ b = a) h ∧ VR K H ι (fun b => Z b ∨ b = a) o.w (.ref a) := by
  refine ⟨⟨st.pre, st.new, fun b z => .inl (st.zin b z), fun b z => ?_, st.keep, st.stay⟩, hr.frozen ro.kind.2.2 ni, ?_⟩
  · rcases z with z | z
    · exact st.znew b z
    · subst z; exact .inr hm.symm
  · have r2 := ro.z (Z' := fun b => Z b ∨ b = a) fun _ q => .inl q
    cases o with
    | lst ws =>
      obtain ⟨vs, e, l, q⟩ := r2
      exact ⟨a, vs, rfl, SqL.of e, .inl (.inr rfl), l, q⟩
    | _ => exact r2.elim
theorem lookO_own {τ : Env} {i : Nat} {w : W} (e : lookO τ i = some w) : τ[i]? = some (.v w) ∨ ∃ o, τ[i]? = some (.own o) ∧ w = o.w := by
  unfold lookO at e
  split at e
  · rename_i e2; cases e; exact .inl e2
  · rename_i e2; cases e; exact .inr ⟨_, e2, rfl⟩
  · rename_i e2; cases e; exact .inr ⟨_, e2, rfl⟩
  · rename_i e2; cases e; exact .inr ⟨_, e2, rfl⟩
  · cases e
theorem st_ret (G : Gd F X C N sc Wx) {e : E} {a : Expr} {pos : Pos} (h : Sd X C Wx e a) (hc : chk F N sc e a = true) : PS X (.Return (some a) pos) (rdS1 X.K Wx fun τ h => exS C (.ret e) τ h) := by
  have gen : (∀ τ h, ev C τ e .opd h = ev C τ e .val h) → PS X (.Return (some a) pos) (rdS1 X.K Wx fun τ h => exS C (.ret e) τ h) := fun hv =>
    ps_imp (ps_ret (pe_imp h.val fun _ _ _ p => rdV_N p)) fun D σ H p => by
      simp only [exS, hv] at p
      exact then_rd (RA := fun _ => VR X.K) (r := fun τ h => ev C τ e .val h) (f := fun τ w h => .ret w h) p fun M ι0 Z0 H0 ι Z τ h b H1 a s _ _ ra q => q ι Z H1 b s.st s.hr ra
  cases e with
  | var i =>
    cases a with
    | Name x p =>
      obtain ⟨h1, h3⟩ := and2 (show (decide (N[i]? = some x) && visB sc x && !dbg x) = true from hc)
      obtain ⟨h1, h2⟩ := and2 h1
      have hN : X.N[i]? = some x := by rw [G.eN]; exact of_decide_eq_true h1
      have hV : Vis X.env.scope x := by rw [G.sc]; exact visB_ok h2
      have h3 : dbg x = false := by simpa using h3
      refine ps_imp (ps_ret (pe_var hN hV (dbg_ok h3).1 (dbg_ok h3).2)) fun D σ H ⟨M, ι0, Z0, H0, ι, Z, τ, h, s, q⟩ => ?_
      have q : PsS X.K Wx M ι0 Z0 H0 D ((R.of (lookO τ i) h).then' τ fun w h => .ret w h) := q
      cases e : lookO τ i with
      | none => rw [e] at q; exact q.elim
      | some w =>
        rw [e] at q
        rcases lookO_own e with e1 | ⟨o, e1, rfl⟩
        · obtain ⟨v, e2, r⟩ := s.er.val i w e1
          exact ⟨v, e2, q ι Z H v s.st s.hr r⟩
        · obtain ⟨b, e2, nz, ni, ro⟩ := s.er.own i o e1
          obtain ⟨g1, g2, g3⟩ := own_frz s.st s.hr ro ni (s.ow i o b e1 e2)
          exact ⟨_, e2, q ι _ H _ g1 g2 g3⟩
    | _ => cases hc
  | _ => exact gen fun _ _ => rfl
end
end Bd
/-! Statements that store. -/
namespace Bd
open PySem PySem.Spec PyProof.Rows L2
section
variable {F : List Str} {X : Cx} {C : Ctx} {N : List Str} {sc : Scope} {Wx : WX}
mutual
theorem bindT_own {j : Nat} {o : Ob} : ∀ {t : Tg} {w : W} {τ τ' : Env}, bindT t w τ = some τ' → τ'[j]? = some (.own o) → τ[j]? = some (.own o) ∧ j ∉ t.vars
  | .var i, w, τ, τ', e, k => by
    have e : (if i < τ.length then some (τ.set i (.v w)) else none) = some τ' := e
    split at e
    · rename_i hl
      cases e
      by_cases q : i = j
      · subst q
        rw [List.getElem?_set_self hl] at k
        cases k
      · rw [List.getElem?_set_ne q] at k
        exact ⟨k, fun z => q (List.mem_singleton.mp z).symm⟩
    · cases e
  | .tup ts, w, τ, τ', e, k => by
    cases w with
    | tup ws => exact bindTs_own (ts := ts) e k
    | _ => cases (show (none : Option Env) = some τ' from e)
theorem bindTs_own {j : Nat} {o : Ob} : ∀ {ts : List Tg} {ws : List W} {τ τ' : Env}, bindTs ts ws τ = some τ' → τ'[j]? = some (.own o) → τ[j]? = some (.own o) ∧ j ∉ Tg.varss ts
  | [], [], τ, τ', e, k => by
    cases e
    exact ⟨k, List.not_mem_nil⟩
  | [], _ :: _, _, _, e, _ => by cases e
  | _ :: _, [], _, _, e, _ => by cases e
  | t :: ts, w :: ws, τ, τ', e, k => by
    have e : (match bindT t w τ with
      | some τ1 => bindTs ts ws τ1
      | none => none) = some τ' := e
    split at e
    · rename_i τ1 e2
      obtain ⟨k1, n1⟩ := bindTs_own e k
      obtain ⟨k2, n2⟩ := bindT_own e2 k1
      exact ⟨k2, fun z => by
        rcases List.mem_append.mp (show j ∈ t.vars ++ Tg.varss ts from z) with z | z
        · exact n2 z
        · exact n1 z⟩
    · cases e
end
theorem SX.bind {K : PySem.W.Frag} {M : Ads} {ι0 ι : List Addr} {Z0 Z : Ads} {H0 H : Hp} {σ σ' : L2.St} {τ τ' : Env} {h : Hw} {t : Tg} {w : W} (s : SX K M ι0 Z0 H0 ι Z σ H τ h) (e : bindT t w τ = some τ') (er : ER K H ι Z σ' τ') (a : ∀ i : Nat, i ∉ t.vars → σ'[i]? = σ[i]?) : SX K M ι0 Z0 H0 ι Z σ' H τ' h :=
  ⟨s.st, s.hr, er, fun i o b e1 e2 => by
    obtain ⟨k1, k2⟩ := bindT_own e e1
    rw [a i k2] at e2
    exact s.ow i o b k1 e2⟩
theorem gName_of {K : PySem.W.Frag} {i : Nat} {v : V} {σ : L2.St} {H : Hp} {Q : L2.St → Hp → Prop} (p : rdTg K (.var i) v σ H Q) : gName i v σ H Q := by
  obtain ⟨ι, Z, h, τ, w, τ', hr, er, r, e, q⟩ := p
  have e : (if i < τ.length then some (τ.set i (.v w)) else none) = some τ' := e
  split at e
  · cases e
    exact q _ (er.set r) (List.length_set) fun j hj => by rw [List.getElem?_set_ne (fun z => hj (by subst z; exact List.mem_singleton_self _))]
  · cases e
theorem asg_rd {t : Tg} {e : E} {D : Ends} {σ : L2.St} {H : Hp} (p : rdS1 X.K Wx (fun τ h => exS C (.asg t e) τ h) D σ H) : tAsg (rdV X.K C Wx e) (rdTg X.K t) D σ H := by
  simp only [exS] at p
  refine then_rd (RA := fun _ => VR X.K) (r := fun τ h => ev C τ e .val h) (f := fun τ w h => match bindT t w τ with
      | some σ => .next σ h
      | none => .bad) p fun M ι0 Z0 H0 ι Z τ h b H1 w s _ _ ra q => ?_
  split at q
  · rename_i τ' e1
    exact ⟨ι, Z, h, τ, w, τ', s.hr, s.er, ra, e1, fun σ' er' l a => q ι Z σ' H1 (s.bind e1 er' a)⟩
  · exact q.elim
/-- an own object in a slot -/
theorem ER.setOwn {K : PySem.W.Frag} {H : Hp} {ι : List Addr} {Z : Ads} {σ : L2.St} {τ : Env} {i : Nat} {o : Ob} {a : Addr} (e : ER K H ι Z σ τ) (nz : ¬ Z a) (ni : a ∉ ι) (r : ObR K H ι Z o a)
    (ap : ∀ (j : Nat) (o' : Ob), j ≠ i → τ[j]? = some (.own o') → σ[j]? ≠ some (some (.ref a))) : ER K H ι Z (σ.set i (some (.ref a))) (τ.set i (.own o)) where
  len := by rw [List.length_set, List.length_set]; exact e.len
  val := fun j u q => by
    by_cases z : i = j
    · subst z
      rw [List.getElem?_set] at q
      rw [if_pos rfl] at q
      split at q <;> cases q
    · rw [List.getElem?_set_ne z] at q ⊢
      exact e.val j u q
  own := fun j o' q => by
    by_cases z : i = j
    · subst z
      rw [List.getElem?_set, if_pos rfl] at q
      split at q
      · rename_i hl
        cases q
        exact ⟨a, by rw [List.getElem?_set, if_pos rfl, if_pos (by rw [e.len]; exact hl)], nz, ni, r⟩
      · cases q
    · rw [List.getElem?_set_ne z] at q ⊢
      exact e.own j o' q
  apart := fun j k o1 o2 b hjk q1 q2 q3 => by
    by_cases z : i = j
    · subst z
      rw [List.getElem?_set_ne hjk] at q2 ⊢
      rw [List.getElem?_set, if_pos rfl] at q3
      split at q3
      · cases q3
        exact ap k o2 (fun z => hjk z.symm) q2
      · cases q3
    · rw [List.getElem?_set_ne z] at q1 q3
      by_cases y : i = k
      · subst y
        rw [List.getElem?_set, if_pos rfl]
        split
        · intro q4
          cases q4
          exact ap j o1 hjk q1 q3
        · intro q4; cases q4
      · rw [List.getElem?_set_ne y] at q2 ⊢
        exact e.apart j k o1 o2 b hjk q1 q2 q3
theorem setOwn_next {i : Nat} {o : Ob} {τ : Env} {h : Hw} {K : PySem.W.Frag} {M : Ads} {ι0 : List Addr} {Z0 : Ads} {H0 : Hp} {D : Ends} {H : Hp} {ι : List Addr} {Z : Ads} {a : Addr} (r : ObR K H ι Z o a) (q : PsS K Wx M ι0 Z0 H0 D (setOwn i o.w τ h)) : PsS K Wx M ι0 Z0 H0 D (.next (τ.set i (.own o)) h) := by
  unfold setOwn at q
  split at q
  · cases o with
    | lst ws => exact q
    | _ => exact r.elim
  · exact q.elim
theorem own_rd {i : Nat} {e : E} {D : Ends} {σ : L2.St} {H : Hp} (p : rdS1 X.K Wx (fun τ h => exS C (.own i e) τ h) D σ H) : tAsg (rdF X.K C Wx e) (gName i) D σ H := by
  simp only [exS] at p
  refine then_rd (RA := VF X.K) (r := fun τ h => ev C τ e .val h) (f := fun τ w h => setOwn i w τ h) p fun M ι0 Z0 H0 ι Z τ h b H1 w s k1 k2 ra q => ?_
  obtain ⟨o, a, rfl, rfl, hn, ni, nz, ro⟩ := ra
  have ap : ∀ (j : Nat) (o' : Ob), j ≠ i → τ[j]? = some (.own o') → σ[j]? ≠ some (some (.ref a)) := fun j o' _ e1 e2 => k1 j o' a e1 e2 hn
  refine setOwn_next ro q ι Z _ H1 ⟨s.st, s.hr, s.er.setOwn nz ni ro ap, fun j o' b e1 e2 => ?_⟩
  by_cases z : i = j
  · subst z
    rw [List.getElem?_set, if_pos rfl] at e2
    split at e2
    · cases e2; exact .inr (k2 a hn)
    · cases e2
  · rw [List.getElem?_set_ne z] at e1 e2
    exact s.ow j o' b e1 e2
theorem loc_fn (B : Gb F X C N sc Wx) {y : Str} (hl : locB sc y = true) : L2.Loc X.env.scope y ∧ (X.fn y = true ∨ X.env.scope.names.lookup y = some .local) := by
  refine ⟨B.ts.loc y hl, ?_⟩
  rcases locB_ok hl with k | k
  · exact .inr (B.ts.lc y k)
  · exact .inl (B.ts.fn y k)
theorem st_name (B : Gb F X C N sc Wx) {i : Nat} {y : Str} {py pos : Pos} {a : Expr} {T : TE} (hi : N[i]? = some y) (hl : locB sc y = true) (p : PE X a T) (nc : notComp a = true) : PS X (.Assign [.Name y py] a pos) (tAsg T (gName i)) :=
  ps_set (by rw [B.g.eN]; exact B.g.nd) (by rw [B.g.eN]; exact hi) (loc_fn B hl).1 p (sw_none nc) (loc_fn B hl).2
theorem st_lcN (B : Gb F X C N sc Wx) {i : Nat} {y : Str} {py pos spos : Pos} {e : E} {t : Tg} {s : Src} {c : Option E} {elt tg iter : Expr} {ifs : List Expr} {sc' : Scope} (hi : N[i]? = some y) (hl : locB sc y = true)
    (h : chk F N sc (.lc e t s c) (.ListComp elt [⟨tg, iter, ifs, 0⟩] sc' pos) = true) : PS X (.Assign [.Name y py] (.ListComp elt [⟨tg, iter, ifs, 0⟩] sc' pos) spos) (tAsg (rdF X.K C Wx (.lc e t s c)) (gName i)) := by
  have G := B.g
  have hf : PE X (.ListComp elt [⟨tg, iter, ifs, 0⟩] sc' pos) (rdF X.K C Wx (.lc e t s c)) := snd_f _ X sc Wx _ G rfl h
  have hb : ∃ b, swapsWith (.ListComp elt [⟨tg, iter, ifs, 0⟩] sc' pos) (some (.Name y py)) spos.line X.env = pure b ∧ (b = true → X.env.kindOf y = some .local) := by
    refine ⟨_, rfl, fun hb => ?_⟩
    rw [Bool.and_eq_true, Bool.and_eq_true, Bool.and_eq_true] at hb
    exact eq_of_beq hb.1.1.2
  obtain ⟨b, hb, hk⟩ := hb
  cases b with
  | false => exact ps_set (by rw [G.eN]; exact G.nd) (by rw [G.eN]; exact hi) (loc_fn B hl).1 hf hb (loc_fn B hl).2
  | true =>
    have h : (blkC N sc sc' (ownOf N t.vars) && allIn N t.vars && tgB N sc' t tg && srcB F N sc s iter && notSet iter && chkc F N (relS sc' sc) c ifs && chk F N (relS sc' sc) e elt) = true := h
    obtain ⟨h, h7⟩ := and2 h
    obtain ⟨h, h6⟩ := and2 h
    obtain ⟨h, h5⟩ := and2 h
    obtain ⟨h, h4⟩ := and2 h
    obtain ⟨h, h3⟩ := and2 h
    obtain ⟨h1, h2⟩ := and2 h
    have hok : BlkOk X.N X.env.scope sc' (ownOf N t.vars) := by rw [G.eN, G.sc]; exact blkOk_by h1
    refine ps_imp (ps_setLc (i := i) (wi := rdS X.K C Wx s) (g := rdTg X.K t) (tt := rdG X.K WF (fun _ _ _ _ (a b : Bool) => a = b) fun τ h => evc C τ c h) (te := rdV X.K C WF e) G.calm (by rw [G.eN]; exact G.nd) (by rw [G.eN]; exact hi) (hk rfl) hb
      (snd_s s X sc Wx tg iter G h4) hok (fun s H Ca cl fp => pg_tg (gd_blk G sc' s H Ca cl fp).1 (gd_blk G sc' s H Ca cl fp).2 t tg h3) (fun s H Ca cl fp => pts_of (snd_c c _ _ ifs (gd_blk G sc' s H Ca cl fp).1 h6))
      (fun s H Ca cl fp => pe_imp (snd_e e _ _ _ elt (gd_blk G sc' s H Ca cl fp).1 h7).val fun _ _ _ p => rdV_N p) ?_) fun D σ H p => ?_
    · intro x
      cases iter <;> first | rfl | cases h5
    · rw [own_map h2]
      exact lc_rd p
theorem st_tup (B : Gb F X C N sc Wx) {t : Tg} {e : E} {tg a : Expr} {pos : Pos} (ht : tgB N sc t tg = true) (nn : ∀ e : PySem.Env, swappedStores [tg] a e = pure none) (ns : notStar tg = true) (h : Sd X C Wx e a) (nc : notComp a = true) : PS X (.Assign [tg] a pos) (rdS1 X.K Wx fun τ h => exS C (.asg t e) τ h) := by
  refine ps_imp (ps_asg (pe_imp h.val fun _ _ _ p => rdV_N p) (pg_tg B.g B.ts t tg ht) (sw_none nc) (nn _) ?_) fun D σ H p => asg_rd p
  cases tg <;> first | rfl | cases ns
/-! ### two or three names at once -/
theorem par_rd {is : List Nat} {es : List E} {D : Ends} {σ : L2.St} {H : Hp} (p : rdS1 X.K Wx (fun τ h => exS C (.par is es) τ h) D σ H) {Q : List V → Hp → Prop}
    (n : ∀ ι Z h τ ws τ' vs H1, HR X.K H1 ι Z h → ER X.K H1 ι Z σ τ → VRs X.K H1 ι Z ws vs → bindTs (is.map Tg.var) ws τ = some τ' → (∀ σ', ER X.K H1 ι Z σ' τ' → (∀ i : Nat, i ∉ is → σ'[i]? = σ[i]?) → D.nx σ' H1) → Q vs H1) : rdVs X.K C Wx es σ H Q := by
  simp only [exS] at p
  refine then_rd (RA := fun _ => VRs X.K) (r := fun τ h => evs C τ es .val h) (f := fun τ ws h => match bindTs (is.map Tg.var) ws τ with
      | some σ => .next σ h
      | none => .bad) p fun M ι0 Z0 H0 ι Z τ h b H1 ws s _ _ ra q => ?_
  split at q
  · rename_i τ' e1
    refine n ι Z h τ ws τ' b H1 s.hr s.er ra e1 fun σ' er' a => q ι Z σ' H1 (s.bind (t := .tup (is.map Tg.var)) (w := .tup ws) e1 er' fun i hi => a i fun z => hi ?_)
    have hv : ∀ js : List Nat, Tg.varss (js.map Tg.var) = js := fun js => by
      induction js with
      | nil => rfl
      | cons j js ih => exact congrArg (j :: ·) ih
    show i ∈ Tg.varss (is.map Tg.var)
    rw [hv]
    exact z
  · exact q.elim
end
end Bd
/-! Branches, loops, stores into lists. -/
namespace Bd
open PySem PySem.Spec PyProof.Rows L2
section
variable {F : List Str} {X : Cx} {C : Ctx} {N : List Str} {sc : Scope} {Wx : WX}
theorem par2 {i j : Nat} {ws : List W} {τ τ' : Env} (e : bindTs [.var i, .var j] ws τ = some τ') : ∃ w u, ws = [w, u] ∧ τ' = (τ.set i (.v w)).set j (.v u) := by
  match ws with
  | [] => cases e
  | [w] =>
    have e : (if i < τ.length then some (τ.set i (.v w)) else none).bind (fun τ1 => bindTs [.var j] [] τ1) = some τ' := by
      unfold bindTs at e
      split at e
      · rename_i e1; exact (congrArg (fun o => o.bind fun τ1 => bindTs [.var j] [] τ1) e1).trans e
      · cases e
    split at e <;> cases e
  | [w, u] =>
    refine ⟨w, u, rfl, ?_⟩
    unfold bindTs at e
    split at e
    · rename_i τ1 e1
      have e1 : (if i < τ.length then some (τ.set i (.v w)) else none) = some τ1 := e1
      split at e1
      · cases e1
        unfold bindTs at e
        split at e
        · rename_i τ2 e2
          have e2 : (if j < (τ.set i (.v w)).length then some ((τ.set i (.v w)).set j (.v u)) else none) = some τ2 := e2
          split at e2
          · cases e2; cases e; rfl
          · cases e2
        · cases e
      · cases e1
    · cases e
  | w :: u :: x :: ws => exact absurd (bindTs_len e) (by simp)
theorem par3 {i j l : Nat} {ws : List W} {τ τ' : Env} (e : bindTs [.var i, .var j, .var l] ws τ = some τ') : ∃ w u x, ws = [w, u, x] ∧ τ' = ((τ.set i (.v w)).set j (.v u)).set l (.v x) := by
  have hl := bindTs_len e
  match ws, hl with
  | [w, u, x], _ =>
    refine ⟨w, u, x, rfl, ?_⟩
    unfold bindTs at e
    split at e
    · rename_i τ1 e1
      have e1 : (if i < τ.length then some (τ.set i (.v w)) else none) = some τ1 := e1
      split at e1
      · cases e1
        obtain ⟨a, b, e3, e4⟩ := par2 e
        cases e3
        exact e4
      · cases e1
    · cases e
theorem ne_set {σ : L2.St} {i j : Nat} {v : Option V} (h : j ≠ i) : (σ.set i v)[j]? = σ[j]? := by rw [List.getElem?_set_ne fun z => h z.symm]
def nmB (N : List Str) (sc : Scope) (i : Nat) (x : Str) : Bool := decide (N[i]? = some x) && (match sc.names.lookup x with
  | some .local => true
  | _ => false)
theorem nmB_ok {i : Nat} {x : Str} (h : nmB N sc i x = true) : N[i]? = some x ∧ sc.names.lookup x = some .local := by
  obtain ⟨h1, h2⟩ := and2 h
  refine ⟨of_decide_eq_true h1, ?_⟩
  split at h2
  · assumption
  · cases h2
/-- is the value a display that is not folded: the stores go name by name -/
def parB (ts : List Expr) (xs : List Str) (vs : List Expr) : Bool := (!(vs.any fun
    | .Starred .. => true
    | _ => false)) && !(vs.all (foldedForSure 8)) && !(vs.all (constantsAlone 8)) && decide (xs.eraseDups.length = xs.length) && (match ts with
  | a :: as => (a :: as).all fun b => b.pos.line == a.pos.line
  | [] => false)
theorem swp2 (B : Gb F X C N sc Wx) {x y : Str} {px py pt pt2 : Pos} {k k2 : Nat} {a b : Expr} (hx : sc.names.lookup x = some .local) (hy : sc.names.lookup y = some .local) (h : parB [.Name x px, .Name y py] [x, y] [a, b] = true) :
    swappedStores [.Tuple [.Name x px, .Name y py] k pt] (.Tuple [a, b] k2 pt2) X.env = pure (some [x, y]) := by
  obtain ⟨h, h5⟩ := and2 h
  obtain ⟨h, h4⟩ := and2 h
  obtain ⟨h, h3⟩ := and2 h
  obtain ⟨h1, h2⟩ := and2 h
  have h4 := of_decide_eq_true h4
  have h1 : ([a, b].any fun
    | .Starred .. => true
    | _ => false) = false := (Bool.not_eq_true' _).mp h1
  have h2 : [a, b].all (foldedForSure 8) = false := (Bool.not_eq_true' _).mp h2
  have h3 : [a, b].all (constantsAlone 8) = false := (Bool.not_eq_true' _).mp h3
  have h5 : py.line = px.line := by
    have : (px.line == px.line && (py.line == px.line && true)) = true := h5
    obtain ⟨_, q⟩ := and2 this
    exact eq_of_beq (and2 q).1
  have kx : X.env.kindOf x = some .local := by show X.env.scope.names.lookup x = _; rw [B.g.sc]; exact hx
  have ky : X.env.kindOf y = some .local := by show X.env.scope.names.lookup y = _; rw [B.g.sc]; exact hy
  unfold swappedStores
  dsimp only
  rw [B.bk]
  split
  · rename_i z; exact Bool.noConfusion (show false = true from z)
  split
  · rename_i z; exact Bool.noConfusion (h1.symm.trans z)
  rw [h2, h3]
  simp only [h5, kx, ky, List.filterMap, List.head?, Option.map, Option.getD, Expr.pos, beq_self_eq_true, Bool.and_self, if_true, Bool.false_eq_true, if_false]
  simp [h4]
theorem swp3 (B : Gb F X C N sc Wx) {x y z : Str} {px py pz pt pt2 : Pos} {k k2 : Nat} {a b c : Expr} (hx : sc.names.lookup x = some .local) (hy : sc.names.lookup y = some .local) (hz : sc.names.lookup z = some .local) (h : parB [.Name x px, .Name y py, .Name z pz] [x, y, z] [a, b, c] = true) :
    swappedStores [.Tuple [.Name x px, .Name y py, .Name z pz] k pt] (.Tuple [a, b, c] k2 pt2) X.env = pure (some [x, y, z]) := by
  obtain ⟨h, h5⟩ := and2 h
  obtain ⟨h, h4⟩ := and2 h
  obtain ⟨h, h3⟩ := and2 h
  obtain ⟨h1, h2⟩ := and2 h
  have h4 := of_decide_eq_true h4
  have h1 : ([a, b, c].any fun
    | .Starred .. => true
    | _ => false) = false := (Bool.not_eq_true' _).mp h1
  have h2 : [a, b, c].all (foldedForSure 8) = false := (Bool.not_eq_true' _).mp h2
  have h3 : [a, b, c].all (constantsAlone 8) = false := (Bool.not_eq_true' _).mp h3
  have h5 : py.line = px.line ∧ pz.line = px.line := by
    have : (px.line == px.line && (py.line == px.line && (pz.line == px.line && true))) = true := h5
    obtain ⟨_, q⟩ := and2 this
    exact ⟨eq_of_beq (and2 q).1, eq_of_beq (and2 (and2 q).2).1⟩
  have kx : X.env.kindOf x = some .local := by show X.env.scope.names.lookup x = _; rw [B.g.sc]; exact hx
  have ky : X.env.kindOf y = some .local := by show X.env.scope.names.lookup y = _; rw [B.g.sc]; exact hy
  have kz : X.env.kindOf z = some .local := by show X.env.scope.names.lookup z = _; rw [B.g.sc]; exact hz
  unfold swappedStores
  dsimp only
  rw [B.bk]
  split
  · rename_i z; exact Bool.noConfusion (show false = true from z)
  split
  · rename_i z; exact Bool.noConfusion (h1.symm.trans z)
  rw [h2, h3]
  simp only [h5.1, h5.2, kx, ky, kz, List.filterMap, List.head?, Option.map, Option.getD, Expr.pos, beq_self_eq_true, Bool.and_self, if_true, Bool.false_eq_true, if_false]
  simp [h4]
theorem lkl (B : Gb F X C N sc Wx) {x : Str} (h : sc.names.lookup x = some .local) : X.env.scope.names.lookup x = some .local := by rw [B.g.sc]; exact h
theorem st_par2 (B : Gb F X C N sc Wx) {i j : Nat} {x y : Str} {px py pt pt2 pos : Pos} {k k2 : Nat} {a b : Expr} {es : List E} (hi : nmB N sc i x = true) (hj : nmB N sc j y = true) (hij : i ≠ j) (h : parB [.Name x px, .Name y py] [x, y] [a, b] = true)
    (he : SdL X C Wx es [a, b]) : PS X (.Assign [.Tuple [.Name x px, .Name y py] k pt] (.Tuple [a, b] k2 pt2) pos) (rdS1 X.K Wx fun τ h => exS C (.par [i, j] es) τ h) := by
  obtain ⟨hi, kx⟩ := nmB_ok hi
  obtain ⟨hj, ky⟩ := nmB_ok hj
  refine ps_imp (ps_par B.g.calm (by rw [B.g.eN]; exact B.g.nd) (by rw [B.g.eN]; exact hi) (by rw [B.g.eN]; exact hj) hij (lkl B kx) (lkl B ky) (pa_vals he) (swp2 B kx ky h)) fun D σ H p => ?_
  refine par_rd p fun ι Z h τ ws τ' vs H1 hr er rv e n => ?_
  obtain ⟨w, u, rfl, rfl⟩ := par2 (show bindTs [.var i, .var j] ws τ = some τ' from e)
  obtain ⟨v1, _, rfl, r1, v2, _, rfl, r2, rfl⟩ := rv
  refine ⟨v1, v2, rfl, n _ ((er.set r1).set r2) fun l hl => ?_⟩
  rw [ne_set fun z => hl (by simp [z]), ne_set fun z => hl (by simp [z])]
theorem st_par3 (B : Gb F X C N sc Wx) {i j l : Nat} {x y z : Str} {px py pz pt pt2 pos : Pos} {k k2 : Nat} {a b c : Expr} {es : List E} (hi : nmB N sc i x = true) (hj : nmB N sc j y = true) (hl : nmB N sc l z = true) (hij : i ≠ j) (hil : i ≠ l) (hjl : j ≠ l) (h : parB [.Name x px, .Name y py, .Name z pz] [x, y, z] [a, b, c] = true)
    (he : SdL X C Wx es [a, b, c]) : PS X (.Assign [.Tuple [.Name x px, .Name y py, .Name z pz] k pt] (.Tuple [a, b, c] k2 pt2) pos) (rdS1 X.K Wx fun τ h => exS C (.par [i, j, l] es) τ h) := by
  obtain ⟨hi, kx⟩ := nmB_ok hi
  obtain ⟨hj, ky⟩ := nmB_ok hj
  obtain ⟨hl, kz⟩ := nmB_ok hl
  refine ps_imp (ps_par3 B.g.calm (by rw [B.g.eN]; exact B.g.nd) (by rw [B.g.eN]; exact hi) (by rw [B.g.eN]; exact hj) (by rw [B.g.eN]; exact hl) hij hil hjl (lkl B kx) (lkl B ky) (lkl B kz) (pa_vals he) (swp3 B kx ky kz h)) fun D σ H p => ?_
  refine par_rd p fun ι Z h τ ws τ' vs H1 hr er rv e n => ?_
  obtain ⟨w, u, t, rfl, rfl⟩ := par3 (show bindTs [.var i, .var j, .var l] ws τ = some τ' from e)
  obtain ⟨v1, _, rfl, r1, v2, _, rfl, r2, v3, _, rfl, r3, rfl⟩ := rv
  refine ⟨v1, v2, v3, rfl, n _ (((er.set r1).set r2).set r3) fun q hq => ?_⟩
  rw [ne_set fun z => hq (by simp [z]), ne_set fun z => hq (by simp [z]), ne_set fun z => hq (by simp [z])]
/-! ### branches and loops -/
theorem st_ite {c : E} {a b : List S} {c' : Expr} {a' b' : List Stmt} {pos : Pos} (hc : Sd X C Wx c c') (ha : PSs X a' (rdS1 X.K Wx fun τ h => exSs C a τ h)) (hb : PSs X b' (rdS1 X.K Wx fun τ h => exSs C b τ h)) :
    PS X (.If c' a' b' pos) (rdS1 X.K Wx fun τ h => exS C (.ite c a b) τ h) :=
  ps_imp (ps_if hc.tst ha hb) fun D σ H p => by
    simp only [exS] at p
    refine then_rd (RA := fun _ _ _ _ (w : W) (b : Bool) => w = .bl b) (r := fun τ h => ev C τ c .tst h) (f := fun τ u h => match truW u with
      | some true => exSs C a τ h
      | some false => exSs C b τ h
      | none => .bad) p fun M ι0 Z0 H0 ι Z τ h k H1 w s _ _ ra q => ?_
    cases (show w = .bl k from ra)
    cases k with
    | true => exact ⟨M, ι0, Z0, H0, ι, Z, τ, h, s, q⟩
    | false => exact ⟨M, ι0, Z0, H0, ι, Z, τ, h, s, q⟩
theorem st_whl (B : Gb F X C N sc Wx) {c : E} {b : List S} {c' : Expr} {b' : List Stmt} {pos : Pos} (hc : Sd X C Wx c c') (hb : PSs X b' (rdS1 X.K Wx fun τ h => exSs C b τ h)) :
    PS X (.While c' b' [] pos) (rdS1 X.K Wx fun τ h => exS C (.whl c b) τ h) :=
  ps_imp (ps_while B.pass hc.tst hb) fun D σ H p => by
    simp only [exS] at p
    refine ⟨fun m => rdS1 X.K Wx (fun τ h => whRun (fun σ h => ev C σ c .tst h) (fun σ h => exSs C b σ h) m τ h) D, ⟨_, p⟩, fun m σ H p => ?_⟩
    cases m with
    | zero => obtain ⟨M, ι0, Z0, H0, ι, Z, τ, h, s, q⟩ := p; exact q.elim
    | succ m =>
      simp only [whRun] at p
      refine then_rd (RA := fun _ _ _ _ (w : W) (b : Bool) => w = .bl b) (r := fun τ h => ev C τ c .tst h) (f := fun τ u h => match truW u with
        | some true => match exSs C b τ h with
          | .next σ h => whRun (fun σ h => ev C σ c .tst h) (fun σ h => exSs C b σ h) m σ h
          | .cont σ h => whRun (fun σ h => ev C σ c .tst h) (fun σ h => exSs C b σ h) m σ h
          | .brk σ h => .next σ h
          | o => o
        | some false => .next τ h
        | none => .bad) p fun M ι0 Z0 H0 ι Z τ h k H1 w s _ _ ra q => ?_
      cases (show w = .bl k from ra)
      cases k with
      | false => exact q ι Z σ H1 s
      | true =>
        refine ⟨_, fun σ' H' n => ⟨m, Nat.lt_succ_self m, n⟩, M, ι0, Z0, H0, ι, Z, τ, h, s, ?_⟩
        have q : PsS X.K Wx M ι0 Z0 H0 D (match exSs C b τ h with
          | .next σ h => whRun (fun σ h => ev C σ c .tst h) (fun σ h => exSs C b σ h) m σ h
          | .cont σ h => whRun (fun σ h => ev C σ c .tst h) (fun σ h => exSs C b σ h) m σ h
          | .brk σ h => .next σ h
          | o => o) := q
        dsimp only
        cases e : exSs C b τ h with
        | next τ' h' => rw [e] at q; exact fun ι' Z' σ' H' s' => ⟨M, ι0, Z0, H0, ι', Z', τ', h', s', q⟩
        | cont τ' h' => rw [e] at q; exact fun ι' Z' σ' H' s' => ⟨M, ι0, Z0, H0, ι', Z', τ', h', s', q⟩
        | brk τ' h' => rw [e] at q; exact q
        | ret w h' => rw [e] at q; exact q
        | exc cc us τ' h' => rw [e] at q; exact q
        | bad => rw [e] at q; exact q.elim
theorem SX.up {K : PySem.W.Frag} {M M1 : Ads} {ι0 ι1 ι : List Addr} {Z0 Z1 Z : Ads} {H0 H1 H : Hp} {σ : L2.St} {τ : Env} {h : Hw} (st : Stp M ι0 Z0 H0 ι1 Z1 H1) (hm : ∀ a, M1 a → M a ∨ H0 a = none) (s : SX K M1 ι1 Z1 H1 ι Z σ H τ h) : SX K M ι0 Z0 H0 ι Z σ H τ h :=
  ⟨st.trans s.st hm, s.hr, s.er, fun i o a e1 e2 => by
    rcases s.ow i o a e1 e2 with z | z
    · exact hm a z
    · exact .inr (st.free z)⟩
theorem PsS.later {K : PySem.W.Frag} {M M1 : Ads} {ι0 ι1 : List Addr} {Z0 Z1 : Ads} {H0 H1 : Hp} {D : Ends} {o : Out} (q : PsS K Wx M ι0 Z0 H0 D o) (st : Stp M ι0 Z0 H0 ι1 Z1 H1) (hm : ∀ a, M1 a → M a ∨ H0 a = none) : PsS K Wx M1 ι1 Z1 H1 D o := by
  cases o with
  | next τ h => exact fun ι Z σ H s => q ι Z σ H (s.up st hm)
  | cont τ h => exact fun ι Z σ H s => q ι Z σ H (s.up st hm)
  | brk τ h => exact fun ι Z σ H s => q ι Z σ H (s.up st hm)
  | ret w h => exact fun ι Z H v s => q ι Z H v (st.trans s hm)
  | exc c ws τ h => exact fun ι Z σ H cls d s => q ι Z σ H cls d (s.up st hm)
  | bad => exact q.elim
theorem st_for (B : Gb F X C N sc Wx) {t : Tg} {s : Src} {b : List S} {tg iter : Expr} {b' : List Stmt} {pos : Pos} (hs : PI X tg iter (rdSv X.K C Wx s)) (ns : notSet iter = true) (hg : tgB N sc t tg = true) (hb : PSs X b' (rdS1 X.K Wx fun τ h => exSs C b τ h)) :
    PS X (.For tg iter b' [] pos) (rdS1 X.K Wx fun τ h => exS C (.for_ t s b) τ h) := by
  refine ps_imp (ps_for B.pass B.g.calm hs (pg_tg B.g B.ts t tg hg) hb ?_) fun D σ H p => ?_
  · intro x
    cases iter <;> first | rfl | cases ns
  simp only [exS] at p
  let f : W → Env → Hw → Out := fun x σ h => match bindT t x σ with
    | some σ => exSs C b σ h
    | none => .bad
  refine then_rd (RA := fun _ H ι Z (ws : List W) (J : It) => ∀ M, Fits M H ι Z → Wk X.K M J H ι Z ws) (r := fun τ h => evSrc C τ s .val h) (f := fun τ ws h => forRun f ws τ h) p fun M ι0 Z0 H0 ι Z τ h J H1 ws s0 _ _ ra q => ?_
  let M1 : Ads := fun a => ∃ (j : Nat) (o : Ob), τ[j]? = some (.own o) ∧ σ[j]? = some (some (.ref a))
  have hm : ∀ a, M1 a → M a ∨ H0 a = none := fun a ⟨j, o, e1, e2⟩ => s0.ow j o a e1 e2
  have hf : Fits M1 H1 ι Z := fun a ha => by
    rcases ha with ha | ⟨j, o, e1, e2⟩
    · exact s0.hr.fits a (.inl ha)
    · obtain ⟨a', e3, nz, ni, ro⟩ := s0.er.own j o e1
      rw [e2] at e3
      cases e3
      exact ⟨nz, ro.kind.1, ro.kind.2.1⟩
  have wk := ra M1 hf
  refine ⟨fun i m σ' H' => ∃ ι' Z' τ' h', m = ws.length - i ∧ i ≤ ws.length ∧ SX X.K M1 ι Z H1 ι' Z' σ' H' τ' h' ∧ PsS X.K Wx M1 ι Z H1 D (forRun f (ws.drop i) τ' h'), ⟨ws.length, ι, Z, τ, h, rfl, Nat.zero_le _, ⟨Stp.refl, s0.hr, s0.er, fun j o a e1 e2 => .inl ⟨j, o, e1, e2⟩⟩, q.later s0.st hm⟩, ?_⟩
  rintro i m σ' H' ⟨ι', Z', τ', h', rfl, hi, s1, q1⟩
  by_cases hlt : i < ws.length
  · refine .inr ⟨wk.go i ι' Z' H' s1.st hlt, _, fun σ2 H2 p => ⟨ws.length - (i + 1), by omega, p⟩, fun x H2 hy => ?_⟩
    obtain ⟨w, ew, st2, hr2, rx⟩ := wk.yld i ι' Z' H' h' x H2 s1.st s1.hr hlt hy
    have hdrop : ws.drop i = w :: ws.drop (i + 1) := by
      rw [List.drop_eq_getElem_cons hlt]
      have : ws[i] = w := by rw [List.getElem?_eq_getElem hlt] at ew; exact Option.some.inj ew
      rw [this]
    rw [hdrop] at q1
    have s2 := s1.go st2 hr2
    have q1 : PsS X.K Wx M1 ι Z H1 D (match f w τ' h' with
      | .next σ h => forRun f (ws.drop (i + 1)) σ h
      | .cont σ h => forRun f (ws.drop (i + 1)) σ h
      | .brk σ h => .next σ h
      | o => o) := q1
    cases e1 : bindT t w τ' with
    | none =>
      have e2 : f w τ' h' = .bad := by show (match bindT t w τ' with | some σ => exSs C b σ h' | none => .bad) = _; rw [e1]
      rw [e2] at q1
      exact q1.elim
    | some τ2 =>
      have e2 : f w τ' h' = exSs C b τ2 h' := by show (match bindT t w τ' with | some σ => exSs C b σ h' | none => .bad) = _; rw [e1]
      rw [e2] at q1
      refine ⟨ι', Z', h', τ', w, τ2, hr2, s2.er, rx, e1, fun σ3 er3 l3 a3 => ⟨M1, ι, Z, H1, ι', Z', τ2, h', s2.bind e1 er3 a3, ?_⟩⟩
      dsimp only
      cases e : exSs C b τ2 h' with
      | next τ3 h3 => rw [e] at q1; exact fun ι4 Z4 σ4 H4 s4 => ⟨ι4, Z4, τ3, h3, rfl, hlt, s4, q1⟩
      | cont τ3 h3 => rw [e] at q1; exact fun ι4 Z4 σ4 H4 s4 => ⟨ι4, Z4, τ3, h3, rfl, hlt, s4, q1⟩
      | brk τ3 h3 => rw [e] at q1; exact q1
      | ret w h3 => rw [e] at q1; exact q1
      | exc cc us τ3 h3 => rw [e] at q1; exact q1
      | bad => rw [e] at q1; exact q1.elim
  · have e1 : i = ws.length := by omega
    subst e1
    rw [List.drop_length] at q1
    exact .inl ⟨wk.stop _ ι' Z' H' s1.st (Nat.le_refl _), q1 ι' Z' σ' H' s1⟩
theorem snd_sv (s : Src) (tg a : Expr) (G : Gd F X C N sc Wx) (h : srcB F N sc s a = true) : PI X tg a (rdSv X.K C Wx s) := by
  cases s with
  | of x => exact pi_ofV (snd_e x X sc Wx a G h)
  | rng es =>
    unfold srcB at h
    split at h
    · rename_i y p xs pos
      obtain ⟨h1, h3⟩ := and2 h
      obtain ⟨h1, h2⟩ := and2 h1
      obtain ⟨rfl, h1⟩ := rngName_ok h1
      exact pi_rng G (fun _ _ _ _ _ _ _ _ => wk_rng) .val (snd_es es X sc Wx xs G h2) h1 (of_decide_eq_true h3)
    · cases h
  | zip _ _ => cases h
  | enum _ => cases h
  | revd _ => cases h
end
end Bd
/-! Changes of an object in its place. -/
namespace Bd
open PySem PySem.Spec PyProof.Rows L2
/-- a place and its address -/
def PR (σ : L2.St) (τ : Env) (ι : List Addr) : Pl → V → Prop
  | .slot i, v => (∃ o, τ[i]? = some (.own o)) ∧ σ[i]? = some (some v)
  | .obj n, v => ∃ a, v = .ref a ∧ ι[n]? = some a
theorem PR.mono {σ : L2.St} {τ : Env} {M : Ads} {ι ι' : List Addr} {Z Z' : Ads} {H H' : Hp} {p : Pl} {v : V} (r : PR σ τ ι p v) (st : Stp M ι Z H ι' Z' H') : PR σ τ ι' p v := by
  cases p with
  | slot i => exact r
  | obj n => obtain ⟨a, e, k⟩ := r; exact ⟨a, e, st.pre n a k⟩
section
variable {K : PySem.W.Frag} {M : Ads} {ι0 ι ι1 : List Addr} {Z0 Z Z1 : Ads} {H0 H H1 : Hp} {σ : L2.St} {τ : Env} {h : Hw} {Wx : WX}
theorem ObR.keep {o : Ob} {a : Addr} (f : Fits M H ι Z) (s : Stp M ι Z H ι1 Z1 H1) (r : ObR K H ι Z o a) (e : H1 a = H a) : ObR K H1 ι1 Z1 o a := by
  cases o with
  | lst ws =>
    obtain ⟨vs, e1, l, q⟩ := r
    exact ⟨vs, e.trans e1, l, VRs.go f s ws vs q⟩
  | _ => exact r.elim
theorem ob_fits {o : Ob} {a : Addr} (hr : HR K H ι Z h) (nz : ¬ Z a) (r : ObR K H ι Z o a) : Fits (fun b => b = a) H ι Z := fun b hb => by
  rcases hb with hb | hb
  · exact hr.fits b (.inl hb)
  · subst hb; exact ⟨nz, r.kind.1, r.kind.2.1⟩
theorem put_sx {p : Pl} {v : V} {ob : Ob} (s : SX K M ι0 Z0 H0 ι Z σ H τ h) (pr : PR σ τ ι p v) (g : p.get τ h = some ob) : ∃ a, v = .ref a ∧ ObR K H ι Z ob a ∧ Fits (fun b => b = a) H ι Z ∧
    (∀ (ho : HO) (ob' : Ob) (D : Ends), ObR K (upd H a ho) ι Z ob' a → PsS K Wx M ι0 Z0 H0 D (p.put ob' τ h) → D.nx σ (upd H a ho)) := by
  cases p with
  | slot i =>
    obtain ⟨⟨o, e1⟩, e2⟩ := pr
    obtain ⟨a, e3, nz, ni, ro⟩ := s.er.own i o e1
    rw [e2] at e3
    cases e3
    have hg : (match τ[i]? with
      | some (.own o) => some o
      | _ => none) = some ob := g
    rw [e1] at hg
    cases hg
    have f := ob_fits s.hr nz ro
    refine ⟨a, rfl, ro, f, fun ho ob' D ro' q => ?_⟩
    have t : Stp (fun b => b = a) ι Z H ι Z (upd H a ho) := own_step
    have q : ∀ ι Z σ H, SX K M ι0 Z0 H0 ι Z σ H (τ.set i (.own ob')) h → D.nx σ H := q
    refine q ι Z σ _ ⟨s.st.trans t fun b e => by subst e; exact s.ow i ob b e1 e2, ⟨s.hr.len, s.hr.nd, fun n ob2 b h1 h2 => ?_, s.hr.dis, fun b z => t.stay b (s.hr.zin b z), ro.tabs s.hr.tb⟩, ⟨by rw [List.length_set]; exact s.er.len, fun j w k => ?_, fun j o2 k => ?_, fun j l o1 o2 b hjl k1 k2 k3 => ?_⟩, fun j o2 b k1 k2 => ?_⟩
    · exact (s.hr.ob n ob2 b h1 h2).keep f t (upd_ne fun z => ni (z ▸ List.mem_of_getElem? h2))
    · by_cases z : i = j
      · subst z
        rw [List.getElem?_set, if_pos rfl] at k
        split at k <;> cases k
      · rw [List.getElem?_set_ne z] at k
        obtain ⟨u, h1, h2⟩ := s.er.val j w k
        exact ⟨u, h1, VR.go f t w u h2⟩
    · by_cases z : i = j
      · subst z
        rw [List.getElem?_set, if_pos rfl] at k
        split at k
        · cases k; exact ⟨a, e2, nz, ni, ro'⟩
        · cases k
      · rw [List.getElem?_set_ne z] at k
        obtain ⟨b, h1, h2, h3, h4⟩ := s.er.own j o2 k
        refine ⟨b, h1, h2, h3, h4.keep f t (upd_ne fun y => ?_)⟩
        subst y
        exact s.er.apart i j ob o2 b z e1 k e2 h1
    · have w1 : ∃ o', τ[j]? = some (.own o') := by
        by_cases z : i = j
        · subst z; exact ⟨ob, e1⟩
        · rw [List.getElem?_set_ne z] at k1; exact ⟨o1, k1⟩
      have w2 : ∃ o', τ[l]? = some (.own o') := by
        by_cases z : i = l
        · subst z; exact ⟨ob, e1⟩
        · rw [List.getElem?_set_ne z] at k2; exact ⟨o2, k2⟩
      exact s.er.apart j l _ _ b hjl w1.choose_spec w2.choose_spec k3
    · by_cases z : i = j
      · subst z; exact s.ow i ob b e1 k2
      · rw [List.getElem?_set_ne z] at k1; exact s.ow j o2 b k1 k2
  | obj n =>
    obtain ⟨a, rfl, e1⟩ := pr
    have g : h[n]? = some ob := g
    have ro := s.hr.ob n ob a g e1
    have ha : a ∈ ι := List.mem_of_getElem? e1
    have f := ob_fits s.hr (s.hr.dis a ha) ro
    refine ⟨a, rfl, ro, f, fun ho ob' D ro' q => ?_⟩
    have t : Stp (fun b => b = a) ι Z H ι Z (upd H a ho) := own_step
    have hn : n < h.length := (List.getElem?_eq_some_iff.mp g).1
    have q : ∀ ι Z σ H, SX K M ι0 Z0 H0 ι Z σ H τ (h.set n ob') → D.nx σ H := q
    refine q ι Z σ _ ⟨⟨s.st.pre, s.st.new, s.st.zin, s.st.znew, fun b o h1 nt h2 h3 => ?_, fun b h1 => t.stay b (s.st.stay b h1)⟩, ⟨by rw [List.length_set]; exact s.hr.len, s.hr.nd, fun m ob2 b h1 h2 => ?_, s.hr.dis, fun b z => t.stay b (s.hr.zin b z), ro.tabs s.hr.tb⟩, ⟨s.er.len, fun j w k => ?_, fun j o2 k => ?_, s.er.apart⟩, s.ow⟩
    · have hb : b ≠ a := fun z => by
        subst z
        rcases s.st.new b ha with z | z | z
        · exact h2 z
        · rw [h1] at z; cases z
        · exact h3 z
      rw [upd_ne hb]
      exact s.st.keep b o h1 nt h2 h3
    · by_cases z : n = m
      · subst z
        rw [e1] at h2
        cases h2
        rw [List.getElem?_set_self hn] at h1
        cases h1
        exact ro'
      · rw [List.getElem?_set_ne z] at h1
        refine (s.hr.ob m ob2 b h1 h2).keep f t (upd_ne fun y => ?_)
        subst y
        have p1 := List.getElem?_eq_some_iff.mp e1
        have p2 := List.getElem?_eq_some_iff.mp h2
        exact z ((List.getElem_inj s.hr.nd).mp (p1.2.trans p2.2.symm))
    · obtain ⟨u, h1, h2⟩ := s.er.val j w k
      exact ⟨u, h1, VR.go f t w u h2⟩
    · obtain ⟨b, h1, h2, h3, h4⟩ := s.er.own j o2 k
      exact ⟨b, h1, h2, h3, h4.keep f t (upd_ne fun y => h3 (y ▸ ha))⟩
end
section
variable {F : List Str} {X : Cx} {C : Ctx} {N : List Str} {sc : Scope} {Wx : WX}
def rdPl (K : PySem.W.Frag) (C : Ctx) (Wx : WX) (e : E) : TE := rdGt K Wx (fun σ τ _ _ ι _ (p : Pl) (v : V) => PR σ τ ι p v) fun τ h => plOf C τ e h
def isVar : E → Bool
  | .var _ => true
  | _ => false
theorem plOf_ev {C : Ctx} {τ : Env} {e : E} {h : Hw} (hv : isVar e = false) : plOf C τ e h = (ev C τ e .val h).bind fun w h => match w with
    | .ref n => .ok (.obj n) h
    | _ => .bad := by
  cases e <;> first | rfl | cases hv
theorem sd_pl (G : Gd F X C N sc Wx) {e : E} {a : Expr} (h : chk F N sc e a = true) : PE X a (rdPl X.K C Wx e) := by
  cases hv : isVar e with
  | true =>
    cases e with
    | var i =>
      cases a with
      | Name x p =>
        obtain ⟨h1, h3⟩ := and2 (show (decide (N[i]? = some x) && visB sc x && !dbg x) = true from h)
        obtain ⟨h1, h2⟩ := and2 h1
        have hN : X.N[i]? = some x := by rw [G.eN]; exact of_decide_eq_true h1
        have hV : Vis X.env.scope x := by rw [G.sc]; exact visB_ok h2
        have h3 : dbg x = false := by simpa using h3
        refine pe_imp (pe_var hN hV (dbg_ok h3).1 (dbg_ok h3).2) fun σ H Q ⟨ι, Z, τ, h, hr, er, q⟩ => ?_
        have q : Ps X.K (fun _ ι _ (p : Pl) (v : V) => PR σ τ ι p v) Wx σ ι Z H (match τ[i]? with
          | some (.own _) => .ok (.slot i) h
          | some (.v (.ref n)) => .ok (.obj n) h
          | _ => .bad) Q := q
        split at q
        · rename_i o e1
          obtain ⟨b, e2, nz, ni, ro⟩ := er.own i o e1
          exact ⟨_, e2, q ι Z H _ Stp.refl hr ⟨⟨o, e1⟩, e2⟩⟩
        · rename_i n e1
          obtain ⟨v, e2, b, rfl, e3⟩ := er.val i _ e1
          exact ⟨_, e2, q ι Z H _ Stp.refl hr ⟨b, rfl, e3⟩⟩
        · exact q.elim
      | _ => cases h
    | _ => cases hv
  | false =>
    refine pe_imp (snd_e e X sc Wx a G h).val fun σ H Q ⟨ι, Z, τ, h, hr, er, q⟩ => ⟨ι, Z, τ, h, hr, er, ?_⟩
    dsimp only at q ⊢
    rw [plOf_ev hv] at q
    cases e1 : ev C τ e .val h with
    | bad => rw [e1] at q; exact q
    | exc c ws h' => rw [e1] at q; exact q
    | ok w h' =>
      rw [e1] at q
      intro ι' Z' H' v st hr' vn
      cases w with
      | ref n =>
        rcases vn with ⟨b, rfl, e2⟩ | ⟨o, b, e2, _⟩
        · exact q ι' Z' H' _ st hr' ⟨b, rfl, e2⟩
        · exact absurd e2.symm Ob.w_ref
      | _ => exact q.elim
def notCall : Expr → Bool
  | .Call .. => false
  | _ => true
theorem attr_base {o : Expr} {nm : Str} {env : PySem.Env} {w : Sem Value} (h : notCall o = true) : attributeBase o nm env w = w := by
  cases o <;> first | rfl | cases h
theorem isLst_ok {p : Pl} {τ : Env} {h : Hw} (e : p.isLst τ h = true) : ∃ ws, p.get τ h = some (.lst ws) := by
  unfold Pl.isLst at e
  split at e
  · rename_i ws e1; exact ⟨ws, e1⟩
  · cases e
theorem st_app (G : Gd F X C N sc Wx) {o e : E} {o' a : Expr} {apos cpos pos : Pos} (ho : chk F N sc o o' = true) (he : Sd X C Wx e a) (no : notCall o' = true) (ns : notStar a = true) (hp : (apos.endLine == cpos.line) = true) :
    PS X (.Expr (.Call (.Attribute o' "append" apos) [a] [] cpos) pos) (rdS1 X.K Wx fun τ h => exS C (.app o e) τ h) := by
  refine ps_imp (ps_expr (pe_bm PySem.F.plainAttrs_list PySem.F.slot_list_append PySem.F.type_list_append mt_append (sd_pl G ho) (pa_cons (pe_imp he.val fun _ _ _ p => rdV_N p) pa_nil (star_cons ns)) (attr_base no) (by rw [star_cons ns]; rfl) hp (star_cons ns) (by rfl)) (sw_none rfl)) fun D σ H ⟨M, ι0, Z0, H0, ι, Z, τ, h, s, q⟩ => ?_
  simp only [exS] at q
  refine then_sx (RA := fun σ τ _ _ ι _ (p : Pl) (v : V) => PR σ τ ι p v) (r := fun τ h => plOf C τ o h) (f := fun τ p h => if p.isLst τ h then (ev C τ e .val h).then' τ fun w h => match (p.get τ h).bind (appOb w) with
    | some o => p.put o τ h
    | none => .bad
  else .bad) s q fun ι1 Z1 h1 v H1 p s1 k1 st1 k2 pr q1 => ?_
  split at q1
  · rename_i hl
    obtain ⟨ws, g1⟩ := isLst_ok hl
    obtain ⟨b, rfl, ⟨vs, e1, l1, r1⟩, _, _⟩ := put_sx (Wx := Wx) s1 pr g1
    refine ⟨.inl ⟨rfl, vs, SqL.of e1⟩, ?_⟩
    refine then_sx (RA := fun _ _ _ => VR X.K) (r := fun τ h => ev C τ e .val h) (f := fun τ w h => match (p.get τ h).bind (appOb w) with
      | some o => p.put o τ h
      | none => .bad) s1 q1 fun ι2 Z2 h2 y H2 w s2 _ st2 _ ra q2 => ?_
    split at q2
    · rename_i ob' e2
      obtain ⟨ob, g2, e3⟩ := Option.bind_eq_some_iff.mp e2
      obtain ⟨b2, e4, ro, f, n⟩ := put_sx (Wx := Wx) s2 (pr.mono st2) g2
      cases e4
      cases ob with
      | lst us =>
        have e3 : (if us.length < sizeLine then some (Ob.lst (us ++ [w])) else none) = some ob' := e3
        split at e3
        · rename_i hlt
          cases e3
          obtain ⟨ys, e5, l2, r2⟩ := ro
          have hll := r2.length
          refine ⟨b, ys, y, rfl, rfl, e5, by omega, n _ (.lst (us ++ [w])) D ⟨ys ++ [y], upd_same, ?_, ?_⟩ q2⟩
          · rw [List.length_append]; simp; omega
          · exact VRs.go f own_step _ _ (r2.app ⟨y, [], rfl, ra, rfl⟩)
        · cases e3
      | _ => cases e3
    · exact q2.elim
  · exact q1.elim
theorem st_set (G : Gd F X C N sc Wx) {o k e : E} {o' k' a : Expr} {ipos pos : Pos} (ho : chk F N sc o o' = true) (hk : Sd X C Wx k k') (he : Sd X C Wx e a) (nk : notSlice k' = true) (nc : notComp a = true) :
    PS X (.Assign [.Subscript o' k' ipos] a pos) (rdS1 X.K Wx fun τ h => exS C (.set o k e) τ h) := by
  refine ps_imp (ps_asg (pe_imp he.val fun _ _ _ p => rdV_N p) (pg_sub (sd_pl G ho) (pe_imp hk.val fun _ _ _ p => rdV_N p) set_list ?_) (sw_none (t := some (.Subscript o' k' ipos)) (l := pos.line) (env := X.env) nc) rfl rfl) fun D σ H ⟨M, ι0, Z0, H0, ι, Z, τ, h, s, q⟩ => ?_
  · intro v
    cases k' <;> first | rfl | cases nk
  simp only [exS] at q
  refine then_sx (RA := fun _ _ _ => VR X.K) (r := fun τ h => ev C τ e .val h) (f := fun τ w h => (plOf C τ o h).then' τ fun p h => (ev C τ k .val h).then' τ fun k h => match (p.get τ h).bind (setOb k w) with
    | some o => p.put o τ h
    | none => .bad) s q fun ι1 Z1 h1 y H1 w s1 _ st1 _ ra q1 => ?_
  refine then_sx (RA := fun σ τ _ _ ι _ (p : Pl) (v : V) => PR σ τ ι p v) (r := fun τ h => plOf C τ o h) (f := fun τ p h => (ev C τ k .val h).then' τ fun k h => match (p.get τ h).bind (setOb k w) with
    | some o => p.put o τ h
    | none => .bad) s1 q1 fun ι2 Z2 h2 v H2 p s2 _ st2 _ pr q2 => ?_
  refine then_sx (RA := fun _ _ _ => VR X.K) (r := fun τ h => ev C τ k .val h) (f := fun τ k h => match (p.get τ h).bind (setOb k w) with
    | some o => p.put o τ h
    | none => .bad) s2 q2 fun ι3 Z3 h3 kv H3 kw s3 _ st3 _ rk q3 => ?_
  have ra3 := VR.go s1.hr.fits (st2.trans0 st3) w y ra
  split at q3
  · rename_i ob' e2
    obtain ⟨ob, g2, e3⟩ := Option.bind_eq_some_iff.mp e2
    obtain ⟨b, rfl, ro, f, n⟩ := put_sx (Wx := Wx) s3 (pr.mono st3) g2
    cases ob with
    | lst us =>
      have e3 : ((intW kw).bind fun i => (L2.ixN us.length i).map fun j => Ob.lst (us.set j w)) = some ob' := e3
      obtain ⟨i, e4, e5⟩ := Option.bind_eq_some_iff.mp e3
      obtain ⟨j, e6, rfl⟩ := Option.map_eq_some_iff.mp e5
      cases kw with
      | int i' =>
        cases e4
        cases (show kv = .int i from rk)
        obtain ⟨ys, e7, l2, r2⟩ := ro
        refine ⟨b, ys, i, j, rfl, rfl, e7, by rw [← r2.length]; exact e6, n _ (.lst (us.set j w)) D ⟨ys.set j y, upd_same, ?_, ?_⟩ q3⟩
        · rw [List.length_set]; exact l2
        · exact VRs.go f own_step _ _ (r2.set j ra3)
      | _ => cases e4
    | _ => exact ro.elim
  · exact q3.elim
end
end Bd
/-! All statements that pass the check. -/
namespace Bd
open PySem PySem.Spec PyProof.Rows L2
def notTup : Expr → Bool
  | .Tuple .. => false
  | _ => true
theorem rdG_imp {K : PySem.W.Frag} {Wx : WX} {α β : Type} {RA : Hp → Rel α β} {r : Env → Hw → R α} {σ : L2.St} {H : Hp} {Q Q' : β → Hp → Prop} (p : rdG K Wx RA r σ H Q) (i : ∀ b H, Q b H → Q' b H) : rdG K Wx RA r σ H Q' :=
  let ⟨ι, Z, τ, h, hr, er, q⟩ := p
  ⟨ι, Z, τ, h, hr, er, q.imp i⟩
def nameB (N : List Str) (sc : Scope) (i : Nat) (y : Str) : Bool := decide (N[i]? = some y) && locB sc y
section
variable (F N : List Str) (sc : Scope)
/-- x = a -/
def asgB (e : E) (a : Expr) : Bool := match notComp a, e, a with
  | true, _, _ => true
  | false, .lc _ _ _ _, .ListComp .. => true
  | _, _, _ => false
mutual
def chkS : S → Stmt → Bool
  | .pass, a => match a with
    | .Pass _ => true
    | _ => false
  | .brk, a => match a with
    | .Break _ => true
    | _ => false
  | .cont, a => match a with
    | .Continue _ => true
    | _ => false
  | .expr e, a => match a with
    | .Expr x _ => notComp x && chk F N sc e x
    | _ => false
  | .ret e, a => match a with
    | .Return (some x) _ => chk F N sc e x
    | _ => false
  | .asg t e, a => match a with
    | .Assign [tg] x _ => (match t, tg with
      | .var i, .Name y _ => nameB N sc i y && asgB e x
      | .tup ts, .Tuple _ _ _ => tgB N sc t tg && notComp x && notTup x
      | _, _ => false) && chk F N sc e x
    | _ => false
  | .own i e, a => match a with
    | .Assign [.Name y _] x _ => nameB N sc i y && asgB e x && freshE e && chk F N sc e x
    | _ => false
  | .par is es, a => match a with
    | .Assign [.Tuple ts _ _] (.Tuple vs _ _) _ => (match is, ts, vs with
      | [i, j], [.Name x px, .Name y py], [a, b] => nmB N sc i x && nmB N sc j y && decide (i ≠ j) && parB [.Name x px, .Name y py] [x, y] [a, b]
      | [i, j, l], [.Name x px, .Name y py, .Name z pz], [a, b, c] => nmB N sc i x && nmB N sc j y && nmB N sc l z && decide (i ≠ j ∧ i ≠ l ∧ j ≠ l) && parB [.Name x px, .Name y py, .Name z pz] [x, y, z] [a, b, c]
      | _, _, _ => false) && chks F N sc es vs
    | _ => false
  | .frz _, _ => false
  | .ite c a b, s => match s with
    | .If c' a' b' _ => chk F N sc c c' && chkSs a a' && chkSs b b'
    | _ => false
  | .whl c b, s => match s with
    | .While c' b' [] _ => chk F N sc c c' && chkSs b b'
    | _ => false
  | .for_ t src b, s => match s with
    | .For tg iter b' [] _ => srcB F N sc src iter && notSet iter && tgB N sc t tg && chkSs b b'
    | _ => false
  | .app o e, s => match s with
    | .Expr (.Call (.Attribute o' nm apos) [a] [] cpos) _ => decide (nm = ("append" : Str)) && chk F N sc o o' && chk F N sc e a && notCall o' && notStar a && (apos.endLine == cpos.line)
    | _ => false
  | .set o k e, s => match s with
    | .Assign [.Subscript o' k' _] a _ => chk F N sc o o' && chk F N sc k k' && chk F N sc e a && notSlice k' && notComp a
    | _ => false
  | .aug _ _ _, _ => false
  | .augix _ _ _ _, _ => false
def isFrz : S → Bool
  | .frz _ => true
  | _ => false
def chkSs : List S → List Stmt → Bool
  | [], xs => match xs with
    | [] => true
    | _ => false
  | s :: ss, xs => if isFrz s then chkSs ss xs else match xs with
    | x :: xs => chkS s x && chkSs ss xs
    | _ => false
end
end
section
variable {F : List Str} {X : Cx} {C : Ctx} {N : List Str} {sc : Scope} {Wx : WX}
theorem nameB_ok {i : Nat} {y : Str} (h : nameB N sc i y = true) : N[i]? = some y ∧ locB sc y = true := by
  obtain ⟨h1, h2⟩ := and2 h
  exact ⟨of_decide_eq_true h1, h2⟩
theorem asgB_ok {e : E} {a : Expr} (h : asgB e a = true) : notComp a = true ∨ (∃ e1 t s c elt g sc' p, e = .lc e1 t s c ∧ a = .ListComp elt g sc' p) := by
  unfold asgB at h
  split at h
  · rename_i e1; exact .inl e1
  · exact .inr ⟨_, _, _, _, _, _, _, _, rfl, rfl⟩
  · cases h
theorem frz_rd {i : Nat} {f : Env → Hw → Out} {D : Ends} {σ : L2.St} {H : Hp} (p : rdS1 X.K Wx (fun τ h => match exS C (.frz i) τ h with
    | .next σ h => f σ h
    | o => o) D σ H) : rdS1 X.K Wx f D σ H := by
  obtain ⟨M, ι0, Z0, H0, ι, Z, τ, h, s, q⟩ := p
  simp only [exS] at q
  cases e : τ[i]? with
  | none => rw [e] at q; exact q.elim
  | some sl =>
    rw [e] at q
    cases sl with
    | no => exact q.elim
    | v w => exact q.elim
    | own o =>
      obtain ⟨a, e2, nz, ni, ro⟩ := s.er.own i o e
      obtain ⟨g1, g2, g3⟩ := own_frz s.st s.hr ro ni (s.ow i o a e e2)
      have hl : i < τ.length := (List.getElem?_eq_some_iff.mp e).1
      have q : PsS X.K Wx M ι0 Z0 H0 D (f (τ.set i (.v o.w)) h) := by
        cases o with
        | ins c fs => exact q.elim
        | lst ws => exact q
        | dct ks vs => exact q
        | set ws => exact q
      refine ⟨M, ι0, Z0, H0, ι, _, _, h, ⟨g1, g2, ⟨by rw [List.length_set]; exact s.er.len, fun j w k => ?_, fun j o' k => ?_, fun j l o1 o2 b hjl k1 k2 k3 => ?_⟩, fun j o' b k1 k2 => ?_⟩, q⟩
      · by_cases z : i = j
        · subst z
          rw [List.getElem?_set_self hl] at k
          cases k
          exact ⟨_, e2, g3⟩
        · rw [List.getElem?_set_ne z] at k
          obtain ⟨u, h1, h2⟩ := s.er.val j w k
          exact ⟨u, h1, VR.z (fun _ q => .inl q) w u h2⟩
      · by_cases z : i = j
        · subst z
          rw [List.getElem?_set_self hl] at k
          cases k
        · rw [List.getElem?_set_ne z] at k
          obtain ⟨b, h1, h2, h3, h4⟩ := s.er.own j o' k
          refine ⟨b, h1, fun y => ?_, h3, h4.z fun _ q => .inl q⟩
          rcases y with y | y
          · exact h2 y
          · subst y; exact s.er.apart i j o o' b z e k e2 h1
      · have w1 : i ≠ j := fun z => by
          subst z
          rw [List.getElem?_set_self hl] at k1
          cases k1
        have w2 : i ≠ l := fun z => by
          subst z
          rw [List.getElem?_set_self hl] at k2
          cases k2
        rw [List.getElem?_set_ne w1] at k1
        rw [List.getElem?_set_ne w2] at k2
        exact s.er.apart j l o1 o2 b hjl k1 k2 k3
      · have w1 : i ≠ j := fun z => by
          subst z
          rw [List.getElem?_set_self hl] at k1
          cases k1
        rw [List.getElem?_set_ne w1] at k1
        exact s.ow j o' b k1 k2
theorem seq_rd {f g : Env → Hw → Out} {D : Ends} {σ : L2.St} {H : Hp} (p : rdS1 X.K Wx (fun τ h => match f τ h with
    | .next σ h => g σ h
    | o => o) D σ H) : tSeq (rdS1 X.K Wx f) (rdS1 X.K Wx g) D σ H := by
  obtain ⟨M, ι0, Z0, H0, ι, Z, τ, h, s, q⟩ := p
  refine ⟨M, ι0, Z0, H0, ι, Z, τ, h, s, ?_⟩
  have q : PsS X.K Wx M ι0 Z0 H0 D (match f τ h with
    | .next σ h => g σ h
    | o => o) := q
  cases e : f τ h with
  | next τ' h' => rw [e] at q; exact fun ι' Z' σ' H' s' => ⟨M, ι0, Z0, H0, ι', Z', τ', h', s', q⟩
  | cont τ' h' => rw [e] at q; exact q
  | brk τ' h' => rw [e] at q; exact q
  | ret w h' => rw [e] at q; exact q
  | exc cc us τ' h' => rw [e] at q; exact q
  | bad => rw [e] at q; exact q.elim
mutual
theorem snd_st (B : Gb F X C N sc Wx) : ∀ (s : S) (a : Stmt), chkS F N sc s a = true → PS X a (rdS1 X.K Wx fun τ h => exS C s τ h)
  | .pass, a, h => by
    cases a <;> first | exact st_pass | cases h
  | .brk, a, h => by
    cases a <;> first | exact st_brk | cases h
  | .cont, a, h => by
    cases a <;> first | exact st_cont | cases h
  | .expr e, a, h => by
    unfold chkS at h
    split at h
    · obtain ⟨h1, h2⟩ := and2 h
      exact st_expr (snd_e e X sc Wx _ B.g h2) h1
    · cases h
  | .ret e, a, h => by
    unfold chkS at h
    split at h
    · exact st_ret B.g (snd_e e X sc Wx _ B.g h) h
    · cases h
  | .asg t e, a, h => by
    unfold chkS at h
    split at h
    · rename_i tg x pos
      obtain ⟨h1, h2⟩ := and2 h
      have he := snd_e e X sc Wx _ B.g h2
      split at h1
      · rename_i i y py
        obtain ⟨h1, h3⟩ := and2 h1
        obtain ⟨hi, hl⟩ := nameB_ok h1
        have go : ∀ {D : Ends} {σ : L2.St} {H : Hp}, rdS1 X.K Wx (fun τ h => exS C (.asg (.var i) e) τ h) D σ H → tAsg (rdV X.K C Wx e) (gName i) D σ H := fun p => rdG_imp (RA := fun _ => VR X.K) (r := fun τ h => ev C τ e .val h) (asg_rd p) fun b H q => gName_of q
        rcases asgB_ok h3 with h3 | ⟨e1, t, s, c, elt, g, sc', p, rfl, rfl⟩
        · exact ps_imp (st_name B hi hl (pe_imp he.val fun _ _ _ p => rdV_N p) h3) fun D σ H p => go p
        · match g, h2 with
          | [⟨tg, iter, ifs, 0⟩], h2 => exact ps_imp (st_lcN B hi hl h2) fun D σ H p => rdF_N (rdV_N (go p))
      · obtain ⟨h1, h3⟩ := and2 h1
        obtain ⟨h1, h4⟩ := and2 h1
        refine st_tup B h1 (fun env => ?_) rfl he h4
        cases x <;> first | rfl | cases h3
      · cases h1
    · cases h
  | .own i e, a, h => by
    unfold chkS at h
    split at h
    · rename_i y py x pos
      obtain ⟨h, h2⟩ := and2 h
      obtain ⟨h, h4⟩ := and2 h
      obtain ⟨h1, h3⟩ := and2 h
      obtain ⟨hi, hl⟩ := nameB_ok h1
      rcases asgB_ok h3 with h3 | ⟨e1, t, s, c, elt, g, sc', p, rfl, rfl⟩
      · exact ps_imp (st_name B hi hl (snd_f e X sc Wx _ B.g h4 h2) h3) fun D σ H p => own_rd p
      · match g, h2 with
        | [⟨tg, iter, ifs, 0⟩], h2 => exact ps_imp (st_lcN B hi hl h2) fun D σ H p => own_rd p
    · cases h
  | .par is es, a, h => by
    unfold chkS at h
    split at h
    · rename_i ts k pt vs k2 pt2 pos
      obtain ⟨h, h2⟩ := and2 h
      have he := snd_es es X sc Wx vs B.g h2
      split at h
      · obtain ⟨h, h6⟩ := and2 h
        obtain ⟨h, h5⟩ := and2 h
        obtain ⟨h3, h4⟩ := and2 h
        exact st_par2 B h3 h4 (of_decide_eq_true h5) h6 he
      · obtain ⟨h, h6⟩ := and2 h
        obtain ⟨h, h5⟩ := and2 h
        obtain ⟨h, h7⟩ := and2 h
        obtain ⟨h3, h4⟩ := and2 h
        have h5 := of_decide_eq_true h5
        exact st_par3 B h3 h4 h7 h5.1 h5.2.1 h5.2.2 h6 he
      · cases h
    · cases h
  | .frz _, a, h => by cases h
  | .ite c x y, a, h => by
    unfold chkS at h
    split at h
    · obtain ⟨h, h3⟩ := and2 h
      obtain ⟨h1, h2⟩ := and2 h
      exact st_ite (snd_e c X sc Wx _ B.g h1) (snd_ss B x _ h2) (snd_ss B y _ h3)
    · cases h
  | .whl c b, a, h => by
    unfold chkS at h
    split at h
    · obtain ⟨h1, h2⟩ := and2 h
      exact st_whl B (snd_e c X sc Wx _ B.g h1) (snd_ss B b _ h2)
    · cases h
  | .for_ t s b, a, h => by
    unfold chkS at h
    split at h
    · obtain ⟨h, h4⟩ := and2 h
      obtain ⟨h, h3⟩ := and2 h
      obtain ⟨h1, h2⟩ := and2 h
      exact st_for B (snd_sv s _ _ B.g h1) h2 h3 (snd_ss B b _ h4)
    · cases h
  | .app o e, a, h => by
    unfold chkS at h
    split at h
    · obtain ⟨h, h6⟩ := and2 h
      obtain ⟨h, h5⟩ := and2 h
      obtain ⟨h, h4⟩ := and2 h
      obtain ⟨h, h3⟩ := and2 h
      obtain ⟨h1, h2⟩ := and2 h
      have := of_decide_eq_true h1
      subst this
      exact st_app B.g h2 (snd_e e X sc Wx _ B.g h3) h4 h5 h6
    · cases h
  | .set o k e, a, h => by
    unfold chkS at h
    split at h
    · obtain ⟨h, h5⟩ := and2 h
      obtain ⟨h, h4⟩ := and2 h
      obtain ⟨h, h3⟩ := and2 h
      obtain ⟨h1, h2⟩ := and2 h
      exact st_set B.g h1 (snd_e k X sc Wx _ B.g h2) (snd_e e X sc Wx _ B.g h3) h4 h5
    · cases h
  | .aug _ _ _, a, h => by cases h
  | .augix _ _ _ _, a, h => by cases h
theorem snd_ss (B : Gb F X C N sc Wx) : ∀ (ss : List S) (xs : List Stmt), chkSs F N sc ss xs = true → PSs X xs (rdS1 X.K Wx fun τ h => exSs C ss τ h)
  | [], xs, h => by
    cases xs with
    | nil => exact pss_imp pss_nil fun D σ H ⟨M, ι0, Z0, H0, ι, Z, τ, h, s, q⟩ => q ι Z σ H s
    | cons _ _ => cases h
  | s :: ss, xs, h => by
    unfold chkSs at h
    split at h
    · rename_i hf
      cases s with
      | frz i => exact pss_imp (snd_ss B ss xs h) fun D σ H p => frz_rd (i := i) (C := C) (by simp only [exSs] at p; exact p)
      | _ => cases hf
    · split at h
      · obtain ⟨h1, h2⟩ := and2 h
        exact pss_imp (pss_cons (snd_st B s _ h1) (snd_ss B ss _ h2)) fun D σ H p => seq_rd (by simp only [exSs] at p; exact p)
      · cases h
end
end
end Bd
/-! Defs. -/
namespace Bd
open PySem PySem.Spec PyProof.Rows L2
/-- a def: what the small language makes of it, and its text -/
structure Df where
  nm : Str
  fn : Fn
  ps : List Str
  N : List Str
  args : Arguments
  body : List Stmt
  scope : Scope
def Df.bnd (d : Df) : Prop := ∀ (kV doc pm : Value) (an : Option Addr) (cdv ct : Value) (us : List Value), us.length = d.ps.length → bindArgs (PySem.W.fnOf d.nm d.nm d.args d.body d.scope .none kV doc pm an cdv ct) ⟨us, []⟩ = pure (d.ps.zip us)
def isFn : ScopeKind → Bool
  | .function => true
  | _ => false
theorem isFn_ok {k : ScopeKind} (h : isFn k = true) : k = .function := by
  cases k <;> first | rfl | cases h
def notFree : NameKind → Bool
  | .free => false
  | _ => true
/-- the names that a def's text may call; a mark where it may make lambdas -/
def fOf (F : List Str) (nm : Str) : List Str := if lamL.contains nm then "<lambda>" :: F else F
def dfB (F : List Str) (d : Df) : Bool := chkSs (fOf F d.nm) d.N d.scope d.fn.body d.body && isFn d.scope.kind && !d.scope.isCoroutine && !d.scope.isGenerator && decide d.N.Nodup && decide (d.N.take d.ps.length = d.ps) && d.ps.all (locB d.scope) &&
  d.scope.names.all (fun y => notFree y.2) && decide (d.fn.np = d.ps.length) && decide (d.fn.ns = d.N.length) && decide (d.fn.np ≤ d.fn.ns) && !d.fn.gc
def tabOf (ds : List Df) (f : Str) : Option Fn := (ds.find? fun d => d.nm == f).map (·.fn)
theorem tabOf_mem : ∀ {ds : List Df} {d : Df}, (ds.map (·.nm)).Nodup → d ∈ ds → tabOf ds d.nm = some d.fn
  | [], _, _, h => by cases h
  | e :: ds, d, nd, h => by
    rw [List.map_cons, List.nodup_cons] at nd
    unfold tabOf
    rw [List.find?_cons]
    rcases List.mem_cons.mp h with rfl | h
    · simp
    · have hne : (e.nm == d.nm) = false := by
        rw [beq_eq_false_iff_ne]
        intro z
        exact nd.1 (z ▸ List.mem_map_of_mem h)
      rw [hne]
      exact tabOf_mem nd.2 h
/-- what stands behind the top -/
structure Pk (ds : List Df) (con : Str → Option W) (K : PySem.W.Frag) (mg : Str → Option Value) : Prop where
  fn : ∀ d ∈ ds, ∃ fd, mg d.nm = some (.ref (He.fAd K (d.nm, none))) ∧ FunD K d.nm d.nm d.args d.body d.scope [] [] (He.fAd K (d.nm, none)) fd
  lam : ∀ d ∈ ds, lamL.contains d.nm = true → hasTab K d.nm = true
  un : ∀ p ∈ tbs K, ∀ q ∈ tbs K, p.1 = q.1 → p.2 = q.2
  nl : ("<lambda>" : Str) ∉ ds.map (·.nm)
  free : ∀ x ∈ bltNames, mg x = none
  con : ∀ x w, con x = some w → ∃ u v, mg x = some u ∧ RelV v u ∧ ∀ H ι Z, VR K H ι Z w v
section
variable {P : Program} {w : World} {K : PySem.W.Frag} {mg : Str → Option Value} {base : Heap} {ds : List Df} {con : Str → Option W} {fuel : Nat}
theorem er_start {H : Hp} {ι : List Addr} {Z : Ads} {N : List Str} {ws : List W} {vs : List V} (r : VRs K H ι Z ws vs) {ns : Nat} (hn : N.length = ns) (hl : ws.length ≤ ns) : ER K H ι Z (L2.start N vs) (ws.map Sl.v ++ List.replicate (ns - ws.length) .no) where
  len := by
    have := r.length
    unfold L2.start
    simp only [List.length_append, List.length_map, List.length_replicate]
    omega
  val := fun i u e => by
    have hl2 := r.length
    by_cases hi : i < ws.length
    · rw [List.getElem?_append_left (by simpa using hi), List.getElem?_map] at e
      cases e1 : ws[i]? with
      | none => rw [e1] at e; cases e
      | some x =>
        rw [e1] at e
        cases e
        obtain ⟨v, e2, rv⟩ := r.get e1
        refine ⟨v, ?_, rv⟩
        unfold L2.start
        rw [List.getElem?_append_left (by simpa using hl2 ▸ hi), List.getElem?_map, e2]
        rfl
    · rw [List.getElem?_append_right (by simpa using hi), List.getElem?_replicate] at e
      split at e <;> cases e
  own := fun i o e => by
    exfalso
    by_cases hi : i < ws.length
    · rw [List.getElem?_append_left (by simpa using hi), List.getElem?_map] at e
      cases e1 : ws[i]? with
      | none => rw [e1] at e; cases e
      | some x => rw [e1] at e; cases e
    · rw [List.getElem?_append_right (by simpa using hi), List.getElem?_replicate] at e
      split at e <;> cases e
  apart := fun i j o o' a _ e => by
    exfalso
    by_cases hi : i < ws.length
    · rw [List.getElem?_append_left (by simpa using hi), List.getElem?_map] at e
      cases e1 : ws[i]? with
      | none => rw [e1] at e; cases e
      | some x => rw [e1] at e; cases e
    · rw [List.getElem?_append_right (by simpa using hi), List.getElem?_replicate] at e
      split at e <;> cases e
theorem no_own {ws : List W} {n i : Nat} {o : Ob} (e : (ws.map Sl.v ++ List.replicate n .no)[i]? = some (.own o)) : False := by
  by_cases hi : i < ws.length
  · rw [List.getElem?_append_left (by simpa using hi), List.getElem?_map] at e
    cases e1 : ws[i]? with
    | none => rw [e1] at e; cases e
    | some x => rw [e1] at e; cases e
  · rw [List.getElem?_append_right (by simpa using hi), List.getElem?_replicate] at e
    split at e <;> cases e
/-- all defs keep what the small language says of them -/
theorem fns_ok (p : Pk ds con K mg) (nd : (ds.map (·.nm)).Nodup) (hb : ∀ d ∈ ds, d.bnd) (hk : ∀ d ∈ ds, dfB (ds.map (·.nm)) d = true) (hT : ∀ nm ∈ lamL, hasTab K nm = true → LamX.TabB base mg (He.cT K (nm, none)).1 (He.cT K (nm, none)).2) : ∀ n, ∀ d ∈ ds, ∀ a fd, mg d.nm = some (.ref a) → FunD K d.nm d.nm d.args d.body d.scope [] [] a fd →
    FnOk P w K mg base (L2.CX P w) n a fd d.ps (spW K (callF (tabOf ds) con fuel n d.nm))
  | 0, d, hd, a, fd, hm, F => ⟨fun vs H Q E h => by
      obtain ⟨ι, Z, h, ws, hr, rv, q⟩ := h
      exact q.elim, fun A outer s H args us vs Q E _ _ _ _ h => by
      obtain ⟨ι, Z, h, ws, hr, rv, q⟩ := h
      exact q.elim⟩
  | n + 1, d, hd, a, fd, hm, F => by
    have k := hk d hd
    obtain ⟨k, k12⟩ := and2 k
    obtain ⟨k, k11⟩ := and2 k
    obtain ⟨k, k10⟩ := and2 k
    obtain ⟨k, k9⟩ := and2 k
    obtain ⟨k, k8⟩ := and2 k
    obtain ⟨k, k7⟩ := and2 k
    obtain ⟨k, k6⟩ := and2 k
    obtain ⟨k, k5⟩ := and2 k
    obtain ⟨k, k4⟩ := and2 k
    obtain ⟨k, k3⟩ := and2 k
    obtain ⟨k1, k2⟩ := and2 k
    have k9 := of_decide_eq_true k9
    have k10 := of_decide_eq_true k10
    have k11 := of_decide_eq_true k11
    have k12 : d.fn.gc = false := by simpa using k12
    have S : FnScope d.N d.ps d.scope :=
      { kind := isFn_ok k2, co := by simpa using k3, gen := by simpa using k4, nd := of_decide_eq_true k5, pre := of_decide_eq_true k6
        par := fun x hx => locB_ok (List.all_eq_true.mp k7 x hx)
        nofree := fun y hy z => by
          have := List.all_eq_true.mp k8 y hy
          rw [z] at this
          cases this }
    have ht : ∀ ws h, callF (tabOf ds) con fuel (n + 1) d.nm ws h = runFn ⟨callF (tabOf ds) con fuel n, con, fuel⟩ d.fn ws h := fun ws h => by
      show (match tabOf ds d.nm with
        | some fn => runFn ⟨callF (tabOf ds) con fuel n, con, fuel⟩ fn ws h
        | none => .bad) = _
      rw [tabOf_mem nd hd]
    have ha : a = He.fAd K (d.nm, none) := by
      obtain ⟨_, e, _⟩ := p.fn d hd
      rw [hm] at e
      cases e
      rfl
    obtain ⟨oc, od, dV, kV, doc, pm, an, cdv, ct, osl, rfl, lk, hcd, _, _⟩ := F.ex
    refine fn_of lk hcd S (fun vs H Q E h => ?_) fun A outer s H vs Q E hr h => ?_
    · obtain ⟨ι, Z, h, ws, hr, rv, q⟩ := h
      rw [ht] at q
      unfold runFn at q
      split at q
      · rename_i e; rw [← rv.length, e.1, k9]
      · exact q.elim
    · obtain ⟨ι, Z, h, ws, hhr, rv, q⟩ := h
      rw [ht] at q
      unfold runFn at q
      split at q
      · rename_i e
        have G : Gd (fOf (ds.map (·.nm)) d.nm) (cxOf (L2.CX P w) P w K mg base d.N d.nm d.scope a cdv A outer s H E) ⟨callF (tabOf ds) con fuel n, con, fuel⟩ d.N d.scope (fun cls d _ H => E cls d H) :=
          { nd := S.nd, eN := rfl, sc := rfl, calm := rfl
            hu := by have := hr.un; show (A.deeper (envOfC d.nm d.scope s.heap.objs.size a cdv)).units + 66 < cLine; omega
            tk := takes_of rfl rfl rfl rfl
            free := p.free, con := p.con
            dp := by have := hr.dp; show (A.deeper (envOfC d.nm d.scope s.heap.objs.size a cdv)).depth + 3 < recursionLimit; omega
            lam := fun hf => by
              have hl : lamL.contains d.nm = true := by
                unfold fOf at hf
                split at hf
                · assumption
                · exact absurd (List.contains_iff_mem.mp hf) p.nl
              have ht := p.lam d hd hl
              have hmem := List.contains_iff_mem.mp hl
              obtain ⟨c, rfl⟩ := He.codeIn_ref hcd
              rw [ha] at lk
              have hc : (He.cT K (d.nm, none)).1 = c := He.codeOf_eq lk rfl
              have TB := hT d.nm hmem ht
              have mem : ((He.cT K (d.nm, none)).2, d.nm ++ ".<locals>." ++ "<lambda>") ∈ tbs K := List.mem_map.mpr ⟨d.nm, List.mem_filter.mpr ⟨hmem, ht⟩, rfl⟩
              rw [hc] at TB
              exact ⟨c, _, rfl, TB, mem, fun q hq e => p.un q hq _ mem e⟩
            fns := fun f hf hne => by
              have hf : (ds.map (·.nm)).contains f = true := by
                unfold fOf at hf
                split at hf
                · rcases List.mem_cons.mp (List.contains_iff_mem.mp hf) with z | z
                  · exact absurd z hne
                  · exact List.contains_iff_mem.mpr z
                · exact hf
              obtain ⟨d', hd', rfl⟩ := List.mem_map.mp (List.contains_iff_mem.mp hf)
              obtain ⟨fd', hm', F'⟩ := p.fn d' hd'
              exact ⟨_, fd', d'.ps, n, hm', F'.kp, F'.bindsN (fun kV doc pm an cdv ct us hl => hb d' hd' kV doc pm an cdv ct us hl), hr, fns_ok p nd hb hk hT n d' hd' _ fd' hm' F'⟩ }
        have B : Gb (fOf (ds.map (·.nm)) d.nm) (cxOf (L2.CX P w) P w K mg base d.N d.nm d.scope a cdv A outer s H E) ⟨callF (tabOf ds) con fuel n, con, fuel⟩ d.N d.scope (fun cls d _ H => E cls d H) :=
          { g := G, ts := ⟨fun x hx => locB_ok hx, fun _ _ => rfl, fun _ hx => hx⟩
            pass := passes_of rfl, bk := by show (if d.scope.kind.isAnnotationScope then ScopeKind.function else d.scope.kind) = _; rw [S.kind]; rfl }
        refine ⟨_, snd_ss B d.fn.body d.body k1, no, ι, Z, H, ι, Z, ws.map Sl.v ++ List.replicate (d.fn.ns - d.fn.np) .no, h, ⟨Stp.refl, hhr, ?_, fun i o b e1 _ => (no_own e1).elim⟩, ?_⟩
        · rw [← e.1]
          exact er_start rv k10.symm (by rw [e.1]; exact e.2)
        · have q : Ps K (VR K) (fun cls d _ H => E cls d H) [] ι Z H (finFn d.fn.gc h.length (exSs ⟨callF (tabOf ds) con fuel n, con, fuel⟩ d.fn.body (ws.map Sl.v ++ List.replicate (d.fn.ns - d.fn.np) .no) h)) Q := q
          rw [k12] at q
          dsimp only
          cases e1 : exSs ⟨callF (tabOf ds) con fuel n, con, fuel⟩ d.fn.body (ws.map Sl.v ++ List.replicate (d.fn.ns - d.fn.np) .no) h with
          | next τ' h' => rw [e1] at q; exact fun ι' Z' σ' H' s' => q ι' Z' H' _ s'.st s'.hr rfl
          | ret w' h' => rw [e1] at q; exact fun ι' Z' H' v st hr' rv' => q ι' Z' H' v st hr' rv'
          | exc c us τ' h' => rw [e1] at q; exact fun ι' Z' σ' H' cls d s' xr => q ι' Z' H' cls d s'.st s'.hr xr
          | brk τ' h' => rw [e1] at q; exact q.elim
          | cont τ' h' => rw [e1] at q; exact q.elim
          | bad => rw [e1] at q; exact q.elim
      · exact q.elim
end
end Bd
/-! From the head to the law. -/
namespace Bd
open PySem PySem.Spec PyProof.Rows L2
def Df.dd (d : Df) : He.DefD := ⟨(d.nm, none), d.nm, d.nm, d.args, d.body, d.scope, [], []⟩
/-- a constant of the top -/
def conFa : Str × W → List He.Fa
  | (x, .int i) => [.int x i]
  | (x, .str z) => [.str x z]
  | _ => []
def conOk : Str × W → Bool
  | (_, .int _) => true
  | (_, .str z) => PyData.strOk z && decide (z.length ≤ sizeLine)
  | _ => false
/-- the defs of the text that make lambdas -/
def lamsOf (ds : List Df) : List Str := lamL.filter fun nm => (ds.map (·.nm)).contains nm
def faOf (ds : List Df) (cs : List (Str × W)) : List He.Fa := ds.map (fun d => .glo d.nm) ++ (bltNames ++ lamL.filter fun nm => !(ds.map (·.nm)).contains nm).map .free ++ cs.flatMap conFa
def tfOf (ds : List Df) : List He.Defn := (lamsOf ds).map fun nm => (nm, none)
/-- no two tables alike -/
def unB (K : PySem.W.Frag) : Bool := (tbs K).all fun p => (tbs K).all fun q => !decide (p.1 = q.1) || decide (p.2 = q.2)
def fnOf (ds : List Df) : List He.DefD := ds.map Df.dd
def conOf (cs : List (Str × W)) (x : Str) : Option W := cs.lookup x
theorem pk_of {ds : List Df} {cs : List (Str × W)} {K : PySem.W.Frag} {w : World} {h : Heap} {mg : Str → Option Value} (X : K.In h) (G : h.Ns mainGlobals mg) (c : He.SaysX (faOf ds cs) (fnOf ds) [] (tfOf ds) unB w h K) (hc : cs.all conOk = true) (nl : (ds.map (·.nm)).contains ("<lambda>" : Str) = false) : Pk ds (conOf cs) K mg where
  fn := fun d hd => by
    obtain ⟨fd, F⟩ := c.t.d.defs (d := d.dd) (List.mem_map_of_mem hd)
    have e := He.glo_ok X G (c.t.d.facts (f := .glo d.nm) (List.mem_append_left _ (List.mem_append_left _ (List.mem_map.mpr ⟨d, hd, rfl⟩))))
    exact ⟨fd, e, F⟩
  free := fun x hx => He.free_ok X G (c.t.d.facts (f := .free x) (List.mem_append_left _ (List.mem_append_right _ (List.mem_map_of_mem (List.mem_append_left _ hx)))))
  lam := fun d hd hl => by
    refine Bool.and_eq_true_iff.mpr ⟨c.t.d.facts (f := .glo d.nm) (List.mem_append_left _ (List.mem_append_left _ (List.mem_map.mpr ⟨d, hd, rfl⟩))), ?_⟩
    exact c.hd (d.nm, none) (List.mem_map.mpr ⟨d.nm, List.mem_filter.mpr ⟨List.contains_iff_mem.mp hl, List.contains_iff_mem.mpr (List.mem_map_of_mem hd)⟩, rfl⟩)
  un := fun p hp q hq e => by
    have := List.all_eq_true.mp (List.all_eq_true.mp c.more p hp) q hq
    simp only [e, decide_true, Bool.not_true, Bool.false_or, decide_eq_true_eq] at this
    exact this
  nl := fun z => by
    rw [List.contains_iff_mem.mpr z] at nl
    cases nl
  con := fun x w e => by
    have hm : (x, w) ∈ cs := PySem.mem_of_lookup e
    have ok := List.all_eq_true.mp hc _ hm
    cases w with
    | int i =>
      obtain ⟨t, e2⟩ := He.int_ok X G (c.t.d.facts (f := .int x i) (List.mem_append_right _ (List.mem_flatMap.mpr ⟨_, hm, by simp [conFa]⟩)))
      exact ⟨_, .int i, e2, ⟨t, rfl⟩, fun _ _ _ => rfl⟩
    | str z =>
      obtain ⟨t, e2⟩ := He.str_ok X G (c.t.d.facts (f := .str x z) (List.mem_append_right _ (List.mem_flatMap.mpr ⟨_, hm, by simp [conFa]⟩)))
      obtain ⟨k1, k2⟩ := and2 (show (PyData.strOk z && decide (z.length ≤ sizeLine)) = true from ok)
      exact ⟨_, .str z, e2, ⟨t, rfl⟩, fun _ _ _ => ⟨rfl, k1, of_decide_eq_true k2⟩⟩
    | _ => cases ok
/-- a table that stands belongs to a def of the text -/
theorem tbs_in {ds : List Df} {cs : List (Str × W)} {K : PySem.W.Frag} {w : World} {h : Heap} (c : He.SaysX (faOf ds cs) (fnOf ds) [] (tfOf ds) unB w h K) {nm : Str} (h1 : nm ∈ lamL) (h2 : hasTab K nm = true) : ((nm, none) : He.Defn) ∈ tfOf ds := by
  cases hc : (ds.map (·.nm)).contains nm with
  | true => exact List.mem_map.mpr ⟨nm, List.mem_filter.mpr ⟨h1, hc⟩, rfl⟩
  | false =>
    have f := c.t.d.facts (f := .free nm) (List.mem_append_left _ (List.mem_append_right _ (List.mem_map_of_mem (List.mem_append_right _ (List.mem_filter.mpr ⟨h1, by rw [hc]; rfl⟩)))))
    have g := (Bool.and_eq_true_iff.mp h2).1
    have f := He.eqO_ok (show He.eqO (PySem.W.nsIn K mainGlobals nm) (some none) = true from f)
    have g := He.eqO_ok (show He.eqO (PySem.W.nsIn K mainGlobals nm) (some (some (.ref (He.ga K nm)))) = true from g)
    rw [f] at g
    cases g
section
variable {P : Program} {w : World} {K : PySem.W.Frag} {mg : Str → Option Value} {ds : List Df} {con : Str → Option W} {fuel k : Nat}
theorem vrs_ints {H : Hp} {ι : List Addr} {Z : Ads} : ∀ ns : List Int, VRs K H ι Z (ns.map W.int) (ns.map V.int)
  | [] => rfl
  | n :: ns => ⟨.int n, _, rfl, rfl, vrs_ints ns⟩
theorem law_sp {nm : Str} (main : ∀ ns : List Int, ns.length ≤ 63 → ∃ h', callF (tabOf ds) con fuel k nm [.lst (ns.map .int)] [] = .ok (.bl true) h') (H : Hp) (a : Addr) (ns : List Int) (hl : ns.length ≤ 63) (hS : SqL K H a (ns.map V.int)) (tb : LamX.Tabs (tbs K) H) :
    spW K (callF (tabOf ds) con fuel k nm) [.ref a] H (fun v _ => v = .bl true) fun _ _ _ => False := by
  obtain ⟨h', e⟩ := main ns hl
  refine ⟨[], fun b => b = a ∧ H a ≠ none, [], [.lst (ns.map .int)], ⟨rfl, List.nodup_nil, (fun n o b e1 => by cases e1), (fun b hb => by cases hb), (fun b z => by rw [z.1]; exact z.2), tb⟩, ⟨.ref a, [], rfl, ⟨a, ns.map V.int, rfl, hS, ?_, ?_, vrs_ints ns⟩, rfl⟩, ?_⟩
  · rcases hS with (r | ⟨o, r⟩) | k
    · exact .inl ⟨rfl, by rw [r]; simp⟩
    · exact .inl ⟨rfl, by rw [r]; simp⟩
    · exact .inr k
  · rw [List.length_map]
    exact Nat.le_trans hl (by decide)
  · rw [e]
    exact fun ι' Z' H' b _ _ r => r
theorem law_cx (H : Hp) (s : Shared) (e : Value) (s' : Shared) (h : L2.CX P w [] H s (fun _ _ _ => False) e s') : False := by
  obtain ⟨_, _, _, _, _, _, _, _, _, _, _, _, q⟩ := h
  exact q
/-- what the walk's end asks -/
theorem law_facts {l : PySem.W.OpenLaw} {cs : List (Str × W)} {h : Heap} {f : Addr} {dl : Df} (X : K.In h) (G : h.Ns mainGlobals mg) (c : He.SaysX (faOf ds cs) (fnOf ds) [] (tfOf ds) unB w h K) (hc : cs.all conOk = true) (nl : (ds.map (·.nm)).contains ("<lambda>" : Str) = false) (nd : (ds.map (·.nm)).Nodup) (hb : ∀ d ∈ ds, d.bnd)
    (hk : ∀ d ∈ ds, dfB (ds.map (·.nm)) d = true) (hd : dl ∈ ds) (hps : dl.ps = [("script" : Str)]) (hmg : mg dl.nm = some (.ref f)) (main : ∀ ns : List Int, ns.length ≤ 63 → ∃ h', callF (tabOf ds) (conOf cs) fuel k dl.nm [.lst (ns.map .int)] [] = .ok (.bl true) h') :
    LamX.LawAtS l w K (L2.CX l.prog w) k 63 "script" mg f h := by
  have p := pk_of X G c hc nl
  obtain ⟨fd, e, F⟩ := p.fn dl hd
  have e2 := hmg.symm.trans e
  cases e2
  refine ⟨fd, (tfOf ds).map (He.cT K), spW K (callF (tabOf ds) (conOf cs) fuel k dl.nm), fun q hq => ?_, fun q hq => ?_, fun q hq => ?_, fun s u => ?_, fun H a ns hl _ ht hS => law_sp main H a ns hl hS fun q hq => ?_, fun base _ _ TB => ?_⟩
  · obtain ⟨t, h1, rfl⟩ := List.mem_map.mp hq
    exact c.empty t h1
  · obtain ⟨t, h1, rfl⟩ := List.mem_map.mp hq
    exact c.out t h1
  · obtain ⟨t, h1, rfl⟩ := List.mem_map.mp hq
    exact PySem.W.codeHd_of_K X (c.hd t h1)
  · have := FunD.bindsA (ps := dl.ps) F (fun kV doc pm an cdv ct us hl => hb dl hd kV doc pm an cdv ct us hl) s [u] (by rw [hps]; rfl)
    rw [hps] at this
    exact this
  · obtain ⟨nm, h1, rfl⟩ := List.mem_map.mp hq
    obtain ⟨h1, h2⟩ := List.mem_filter.mp h1
    exact LamX.TabS.nil (ht _ (List.mem_map_of_mem (tbs_in c h1 h2)))
  · have := fns_ok (P := l.prog) (w := w) (base := base) (fuel := fuel) p nd hb hk (fun nm h1 h2 => TB _ (List.mem_map_of_mem (tbs_in c h1 h2))) k dl hd _ fd hmg F
    rw [hps] at this
    exact this
end
end Bd
/-! Evaluation in the small language: lemmas. -/
namespace Bd
open PySem PySem.Spec PyProof.Rows L2
theorem call_of {T : Str → Option Fn} {con : Str → Option W} {fuel n : Nat} {f : Str} {fn : Fn} {ws : List W} {h : Hw} (e : T f = some fn) : callF T con fuel (n + 1) f ws h = runFn ⟨callF T con fuel n, con, fuel⟩ fn ws h := by
  show (match T f with
    | some fn => runFn ⟨callF T con fuel n, con, fuel⟩ fn ws h
    | none => .bad) = _
  rw [e]
theorem bind_ok {α β : Type} {a : α} {h : Hw} {f : α → Hw → R β} : (R.ok a h).bind f = f a h := rfl
theorem of_ok {α : Type} {a : α} {h : Hw} : R.of (some a) h = .ok a h := rfl
theorem then_ok {α : Type} {a : α} {h : Hw} {σ : Env} {f : α → Hw → Out} : (R.ok a h).then' σ f = f a h := rfl
theorem still_ok {α : Type} {a : α} {h : Hw} : (R.ok a h).still = .ok a h := rfl
/-- a comprehension whose turns leave the heap -/
theorem lc_ok {f : W → Hw → R (Option W)} {g : W → Option W} {h : Hw} : ∀ {ws : List W}, (∀ w ∈ ws, f w h = .ok (g w) h) → lcRun f ws h = .ok (ws.filterMap g) h
  | [], _ => rfl
  | w :: ws, e => by
    rw [lcRun_cons, e w (List.mem_cons_self ..), bind_ok, lc_ok fun x hx => e x (List.mem_cons_of_mem _ hx), bind_ok]
    rw [List.filterMap_cons]
    cases g w <;> rfl
/-- a for whose turns go on, by an invariant of what is left -/
theorem for_ok {b : W → Env → Hw → Out} {P : List W → Env → Hw → Prop} {τ' : Env} {h' : Hw} (fin : ∀ τ h, P [] τ h → τ = τ' ∧ h = h') (step : ∀ x xs τ h, P (x :: xs) τ h → ∃ τ1 h1, (b x τ h = .next τ1 h1 ∨ b x τ h = .cont τ1 h1) ∧ P xs τ1 h1) : ∀ (ws : List W) (τ : Env) (h : Hw), P ws τ h → forRun b ws τ h = .next τ' h'
  | [], τ, h, p => by
    obtain ⟨rfl, rfl⟩ := fin τ h p
    rfl
  | x :: xs, τ, h, p => by
    obtain ⟨τ1, h1, e, p1⟩ := step x xs τ h p
    show (match b x τ h with
      | .next σ h => forRun b xs σ h
      | .cont σ h => forRun b xs σ h
      | .brk σ h => .next σ h
      | o => o) = _
    rcases e with e | e <;> (rw [e]; exact for_ok fin step xs τ1 h1 p1)
theorem seq_next {C : Ctx} {s : S} {ss : List S} {σ σ1 : Env} {h h1 : Hw} {o : Out} (e : exS C s σ h = .next σ1 h1) (k : exSs C ss σ1 h1 = o) : exSs C (s :: ss) σ h = o := by
  rw [exSs, e]
  exact k
theorem seq_ret {C : Ctx} {s : S} {ss : List S} {σ : Env} {h h1 : Hw} {w : W} (e : exS C s σ h = .ret w h1) : exSs C (s :: ss) σ h = .ret w h1 := by
  rw [exSs, e]
theorem for_eq {C : Ctx} {t : Tg} {s : Src} {b : List S} {σ : Env} {h h1 : Hw} {ws : List W} (e : evSrc C σ s .val h = .ok ws h1) : exS C (.for_ t s b) σ h = forRun (fun x σ h => match bindT t x σ with
    | some σ => exSs C b σ h
    | none => .bad) ws σ h1 := by
  rw [exS, e]
  rfl
theorem ite_t {C : Ctx} {c : E} {a b : List S} {σ : Env} {h h1 : Hw} {o : Out} (e : ev C σ c .tst h = .ok (.bl true) h1) (k : exSs C a σ h1 = o) : exS C (.ite c a b) σ h = o := by
  rw [exS, e]
  exact k
theorem ite_f {C : Ctx} {c : E} {a b : List S} {σ : Env} {h h1 : Hw} {o : Out} (e : ev C σ c .tst h = .ok (.bl false) h1) (k : exSs C b σ h1 = o) : exS C (.ite c a b) σ h = o := by
  rw [exS, e]
  exact k
theorem run_ret {C : Ctx} {f : Fn} {ws : List W} {h h' : Hw} {w : W} (g : f.gc = false) (l : ws.length = f.np ∧ f.np ≤ f.ns) (e : exSs C f.body (ws.map .v ++ List.replicate (f.ns - f.np) .no) h = .ret w h') : runFn C f ws h = .ok w h' := by
  unfold runFn
  rw [if_pos l, e, g]
  rfl
theorem for_cons {b : W → Env → Hw → Out} {x : W} {xs : List W} {σ σ1 : Env} {h h1 : Hw} {o : Out} (e : b x σ h = .next σ1 h1) (k : forRun b xs σ1 h1 = o) : forRun b (x :: xs) σ h = o := by
  rw [forRun, e]
  exact k
theorem for_ret {b : W → Env → Hw → Out} {x : W} {xs : List W} {σ : Env} {h h1 : Hw} {w : W} (e : b x σ h = .ret w h1) : forRun b (x :: xs) σ h = .ret w h1 := by
  rw [forRun, e]
theorem ev_lc {C : Ctx} {τ : Env} {e : E} {t : Tg} {s : Src} {c : Option E} {m : Md} {h h1 h2 : Hw} {ws ys : List W} (hm : m ≠ .tst) (hs : evSrc C τ s .opd h = .ok ws h1) (hl : ws.length ≤ sizeLine) (hr : lcRun (lcT C τ e t c) ws h1 = .ok ys h2) : ev C τ (.lc e t s c) m h = .ok (.lst ys) h2 := by
  have k : (evSrc C τ s .opd h).bind (fun ws h => if ws.length ≤ sizeLine then (lcRun (lcT C τ e t c) ws h).bind fun ys h => .ok (.lst ys) h else .bad) = R.ok (W.lst ys) h2 := by
    rw [hs, bind_ok, if_pos hl, hr]
    rfl
  cases m with
  | val => exact k
  | opd => exact k
  | tst => exact absurd rfl hm
theorem ev_bi1 {C : Ctx} {τ : Env} {b : Bi} {x : E} {m : Md} {h h1 : Hw} {u w : W} (hm : m ≠ .tst) (hx : ev C τ x .opd h = .ok u h1) (hb : biW b [view h1 u] = some w) : ev C τ (.bi b [x]) m h = .ok w h1 := by
  have k : (evs C τ [x] .opd h).bind (fun ws h => R.of (biW b (ws.map (view h))) h) = R.ok w h1 := by
    rw [evs, hx, bind_ok, evs, bind_ok, bind_ok, List.map_cons, List.map_nil, hb]
    rfl
  cases m with
  | val => exact k
  | opd => exact k
  | tst => exact absurd rfl hm
theorem ret_ok {C : Ctx} {e : E} {τ : Env} {h h1 : Hw} {w : W} (k : ev C τ e .opd h = .ok w h1) : exS C (.ret e) τ h = .ret w h1 := by
  rw [exS, k]
  rfl
end Bd
namespace Bd
open PySem PySem.Spec PyProof.Rows L2
abbrev Pr := PySem.Challenge.pw_boundlands_k01_sets_of_numbers
def dfAt (i : Nat) (nm : Str) (f : Fn) (ps N : List Str) : Df := ⟨nm, f, ps, N, (HandSHeadRun.topDef Pr i).params, (HandSHeadRun.topDef Pr i).body, (HandSHeadRun.topDef Pr i).scope⟩
def f_is_number : Fn := ⟨3, 3, false, [
  .ite (.or [(.not (.isi (.var 0) [.int])), (.isi (.var 0) [.bool])]) [
    .ret (.bl false)] [],
  .ret (.and [(.cmp .ge (.var 0) (.var 1)), (.or [(.isn (.var 2)), (.cmp .le (.var 0) (.var 2))])])]⟩
def f_is_tuple : Fn := ⟨3, 3, false, [
  .ret (.and [(.isi (.var 0) [.tuple]), (.cmp .ge (.bi .len [(.var 0)]) (.var 1)), (.cmp .le (.bi .len [(.var 0)]) (.var 2))])]⟩
def f_is_set : Fn := ⟨1, 5, false, [
  .ite (.not (.isi (.var 0) [.tuple])) [
    .ret (.bl false)] [],
  .asg (.var 1) (.int 0),
  .for_ (.var 2) (.of (.var 0)) [
    .ite (.or [(.isn (.var 1)), (.not (.call "is_tuple" [(.var 2), (.int 2), (.int 2)]))]) [
      .ret (.bl false)] [],
    .asg (.tup [(.var 3), (.var 4)]) (.var 2),
    .ite (.not (.call "is_number" [(.var 3), (.var 1), .non])) [
      .ret (.bl false)] [],
    .ite (.and [(.notn (.var 4)), (.not (.call "is_number" [(.var 4), (.var 3), .non]))]) [
      .ret (.bl false)] [],
    .asg (.var 1) (.ite (.isn (.var 4)) .non (.bin .add (.var 4) (.int 2)))],
  .ret (.bl true)]⟩
def f_set_of : Fn := ⟨1, 4, false, [
  .own 1 (.lst []),
  .for_ (.tup [(.var 2), (.var 3)]) (.of (.srt (.var 0) (.some (.lam 1 (.ix (.var 0) (.int 0)))) false)) [
    .ite (.or [(.not (.var 1)), (.call "_is_apart" [(.ix (.ix (.var 1) (.neg (.int 1))) (.int 1)), (.var 2)])]) [
      .app (.var 1) (.tup [(.var 2), (.var 3)])] [
      .set (.var 1) (.neg (.int 1)) (.tup [(.ix (.ix (.var 1) (.neg (.int 1))) (.int 0)), (.call "_later" [(.ix (.ix (.var 1) (.neg (.int 1))) (.int 1)), (.var 3)])])]],
  .ret (.bi .tuple [(.var 1)])]⟩
def f_join : Fn := ⟨2, 2, false, [
  .ret (.call "set_of" [(.bin .add (.bi .list [(.var 0)]) (.bi .list [(.var 1)]))])]⟩
def f_meet : Fn := ⟨2, 9, false, [
  .own 2 (.lst []),
  .for_ (.tup [(.var 3), (.var 4)]) (.of (.var 0)) [
    .for_ (.tup [(.var 5), (.var 6)]) (.of (.var 1)) [
      .asg (.var 7) (.bi .max2 [(.var 3), (.var 5)]),
      .asg (.var 8) (.call "_earlier" [(.var 4), (.var 6)]),
      .ite (.or [(.isn (.var 8)), (.cmp .le (.var 7) (.var 8))]) [
        .app (.var 2) (.tup [(.var 7), (.var 8)])] []]],
  .frz 2,
  .ret (.call "set_of" [(.var 2)])]⟩
def f_without : Fn := ⟨2, 2, false, [
  .ret (.call "meet" [(.var 0), (.call "_rest" [(.var 1)])])]⟩
def f_holds : Fn := ⟨2, 4, false, [
  .for_ (.tup [(.var 2), (.var 3)]) (.of (.var 0)) [
    .ite (.and [(.cmp .le (.var 2) (.var 1)), (.or [(.isn (.var 3)), (.cmp .le (.var 1) (.var 3))])]) [
      .ret (.bl true)] []],
  .ret (.bl false)]⟩
def f__is_apart : Fn := ⟨2, 2, false, [
  .ret (.and [(.notn (.var 0)), (.cmp .gt (.var 1) (.bin .add (.var 0) (.int 1)))])]⟩
def f__later : Fn := ⟨2, 2, false, [
  .ite (.or [(.isn (.var 0)), (.isn (.var 1))]) [
    .ret .non] [],
  .ret (.bi .max2 [(.var 0), (.var 1)])]⟩
def f__earlier : Fn := ⟨2, 2, false, [
  .ite (.isn (.var 0)) [
    .ret (.var 1)] [],
  .ite (.isn (.var 1)) [
    .ret (.var 0)] [],
  .ret (.bi .min2 [(.var 0), (.var 1)])]⟩
def f__rest : Fn := ⟨1, 5, false, [
  .own 1 (.lst []),
  .asg (.var 2) (.int 0),
  .for_ (.tup [(.var 3), (.var 4)]) (.of (.var 0)) [
    .ite (.cmp .lt (.var 2) (.var 3)) [
      .app (.var 1) (.tup [(.var 2), (.bin .sub (.var 3) (.int 1))])] [],
    .ite (.isn (.var 4)) [
      .ret (.bi .tuple [(.var 1)])] [],
    .asg (.var 2) (.bin .add (.var 4) (.int 1))],
  .app (.var 1) (.tup [(.var 2), .non]),
  .ret (.bi .tuple [(.var 1)])]⟩
def f__law_draw : Fn := ⟨1, 1, false, [
  .ret (.shr (.lst [(.bi .list [(.var 0)]), (.int 0), (.int 0), (.int 17)]))]⟩
def f__law_next : Fn := ⟨2, 4, false, [
  .ite (.cmp .gt (.ix (.var 0) (.int 2)) (.int 0)) [
    .asg (.var 2) (.bin .mod (.bi .int [(.ix (.var 0) (.int 2))]) (.var 1)),
    .set (.var 0) (.int 2) (.bin .fdiv (.ix (.var 0) (.int 2)) (.var 1)),
    .ret (.var 2)] [],
  .ite (.cmp .lt (.ix (.var 0) (.int 1)) (.bi .len [(.ix (.var 0) (.int 0))])) [
    .asg (.var 3) (.bi .abs [(.ix (.ix (.var 0) (.int 0)) (.ix (.var 0) (.int 1)))]),
    .set (.var 0) (.int 1) (.bin .add (.ix (.var 0) (.int 1)) (.int 1)),
    .ite (.cmp .ge (.var 3) (.bin .pow (.int 10) (.int 18))) [
      .set (.var 0) (.int 2) (.bin .fdiv (.var 3) (.var 1)),
      .ret (.bin .mod (.bi .int [(.var 3)]) (.var 1))] [],
    .set (.var 0) (.int 3) (.bin .mod (.bi .int [(.bin .add (.bin .add (.bin .mul (.ix (.var 0) (.int 3)) (.int 48271)) (.var 3)) (.int 11))]) (.int 2147483647))] [
    .set (.var 0) (.int 3) (.bin .mod (.bi .int [(.bin .add (.bin .mul (.ix (.var 0) (.int 3)) (.int 48271)) (.int 12345))]) (.int 2147483647))],
  .ret (.bin .mod (.bin .fdiv (.bi .int [(.bin .mod (.bin .mul (.ix (.var 0) (.int 3)) (.int 69621)) (.int 2147483629))]) (.int 7)) (.var 1))]⟩
def f__law_same : Fn := ⟨2, 3, false, [
  .ite (.isi (.var 1) [.list, .tuple]) [
    .ite (.or [(.cmp .ne (.isi (.var 1) [.list]) (.isi (.var 0) [.list])), (.cmp .ne (.isi (.var 1) [.tuple]) (.isi (.var 0) [.tuple]))]) [
      .ret (.bl false)] [],
    .ite (.cmp .ne (.bi .len [(.var 0)]) (.bi .len [(.var 1)])) [
      .ret (.bl false)] [],
    .ret (.bi .all [(.lc (.call "_law_same" [(.ix (.var 0) (.var 2)), (.ix (.var 1) (.var 2))]) (.var 2) (.rng [(.bi .len [(.var 1)])]) .none)])] [],
  .ite (.isn (.var 1)) [
    .ret (.isn (.var 0))] [],
  .ite (.cmp .ne (.isi (.var 1) [.bool]) (.isi (.var 0) [.bool])) [
    .ret (.bl false)] [],
  .ite (.isi (.var 1) [.str]) [
    .ret (.and [(.isi (.var 0) [.str]), (.cmp .eq (.var 0) (.var 1))])] [],
  .ret (.and [(.isi (.var 0) [.int]), (.cmp .eq (.var 0) (.var 1))])]⟩
def f__law_heap : Fn := ⟨1, 5, false, [
  .own 1 (.lst []),
  .for_ (.var 2) (.rng [(.call "_law_next" [(.var 0), (.int 6)])]) [
    .asg (.var 3) (.call "_law_next" [(.var 0), (.int 20)]),
    .asg (.var 4) (.bin .add (.var 3) (.call "_law_next" [(.var 0), (.int 5)])),
    .app (.var 1) (.tup [(.var 3), (.ite (.cmp .eq (.call "_law_next" [(.var 0), (.int 7)]) (.int 0)) .non (.var 4))])],
  .ret (.var 1)]⟩
def f__law_in : Fn := ⟨2, 4, false, [
  .ret (.bi .any [(.lc (.and [(.cmp .le (.var 2) (.var 1)), (.or [(.isn (.var 3)), (.cmp .le (.var 1) (.var 3))])]) (.tup [(.var 2), (.var 3)]) (.of (.var 0)) .none)])]⟩
def f__law_told : Fn := ⟨1, 4, false, [
  .own 1 (.lst []),
  .for_ (.var 2) (.rng [(.int 41)]) [
    .ite (.and [(.cmp .isin (.var 2) (.var 0)), (.cmp .notin (.bin .sub (.var 2) (.int 1)) (.var 0))]) [
      .asg (.var 3) (.var 2)] [],
    .ite (.and [(.cmp .isin (.var 2) (.var 0)), (.cmp .notin (.bin .add (.var 2) (.int 1)) (.var 0))]) [
      .app (.var 1) (.tup [(.var 3), (.ite (.cmp .eq (.var 2) (.int 40)) .non (.var 2))])] []],
  .ret (.bi .tuple [(.var 1)])]⟩
def f__law_wrong : Fn := ⟨1, 2, false, [
  .asg (.var 1) (.lst [(.tup [(.tup [(.int 5), (.int 4)])]), (.tup [(.tup [(.int 0), (.int 3)]), (.tup [(.int 4), (.int 6)])]), (.tup [(.tup [(.int 0), .non]), (.tup [(.int 5), (.int 6)])]), (.tup [(.tup [(.bl true), (.int 3)])]), (.lst [(.tup [(.int 0), (.int 1)])]), (.tup [(.tup [(.neg (.int 1)), (.int 2)])]), (.tup [(.tup [(.int 3), (.int 5)]), (.tup [(.int 0), (.int 1)])]), (.tup [(.tup [(.int 0), (.int 1), (.int 2)])]), .non, (.tup [(.int 0), (.int 1)]), (.tup [(.tup [(.int 0), (.int 3)]), (.tup [(.int 2), (.int 6)])]), (.tup [(.tup [(.int 0), (.str "3")])]), (.tup [(.lst [(.int 0), (.int 3)])]), (.tup [(.tup [(.int 0), (.bl false)])]), (.str "none"), (.tup [(.tup [.non, (.int 3)])]), (.tup [(.tup [(.int 0), (.int 3)]), (.tup [])])]),
  .ret (.ix (.var 1) (.call "_law_next" [(.var 0), (.bi .len [(.var 1)])]))]⟩
def f_law : Fn := ⟨1, 12, false, [
  .asg (.var 1) (.call "_law_draw" [(.var 0)]),
  .asg (.var 2) (.lst [(.call "_law_heap" [(.var 1)]), (.call "_law_heap" [(.var 1)])]),
  .asg (.var 3) (.lc (.call "set_of" [(.bi .list [(.var 10)])]) (.var 10) (.of (.var 2)) .none),
  .asg (.var 4) (.lc (.lc (.var 9) (.var 9) (.rng [(.int 41)]) (.some (.call "_law_in" [(.var 10), (.var 9)]))) (.var 10) (.of (.var 2)) .none),
  .for_ (.var 5) (.rng [(.int 2)]) [
    .ite (.or [(.not (.isi (.ix (.var 3) (.var 5)) [.tuple])), (.cmp .ne (.ix (.var 3) (.var 5)) (.call "_law_told" [(.ix (.var 4) (.var 5))])), (.notb (.call "is_set" [(.ix (.var 3) (.var 5))]) true)]) [
      .ret (.bl false)] [],
    .for_ (.var 9) (.of (.bin .add (.lrng [(.int 41)]) (.lst [(.int 1000)]))) [
      .ite (.not (.call "_law_same" [(.call "holds" [(.ix (.var 3) (.var 5)), (.var 9)]), (.call "_law_in" [(.ix (.var 2) (.var 5)), (.var 9)])])) [
        .ret (.bl false)] []]],
  .asg (.var 6) (.lc (.var 9) (.var 9) (.rng [(.int 41)]) (.some (.and [(.cmp .isin (.var 9) (.ix (.var 4) (.int 0))), (.cmp .isin (.var 9) (.ix (.var 4) (.int 1)))]))),
  .asg (.var 7) (.lc (.var 9) (.var 9) (.rng [(.int 41)]) (.some (.or [(.cmp .isin (.var 9) (.ix (.var 4) (.int 0))), (.cmp .isin (.var 9) (.ix (.var 4) (.int 1)))]))),
  .asg (.var 8) (.lc (.var 9) (.var 9) (.of (.ix (.var 4) (.int 0))) (.some (.cmp .notin (.var 9) (.ix (.var 4) (.int 1))))),
  .ite (.or [(.not (.call "_law_same" [(.call "join" [(.ix (.var 3) (.int 0)), (.ix (.var 3) (.int 1))]), (.call "_law_told" [(.var 7)])])), (.not (.call "_law_same" [(.call "meet" [(.ix (.var 3) (.int 0)), (.ix (.var 3) (.int 1))]), (.call "_law_told" [(.var 6)])]))]) [
    .ret (.bl false)] [],
  .ite (.bi .any [(.lc (.notb (.call "is_set" [(.call "_law_wrong" [(.var 1)])]) false) (.var 11) (.rng [(.int 3)]) .none)]) [
    .ret (.bl false)] [],
  .ret (.call "_law_same" [(.call "without" [(.ix (.var 3) (.int 0)), (.ix (.var 3) (.int 1))]), (.call "_law_told" [(.var 8)])])]⟩
def d_is_number : Df := dfAt 1 "is_number" f_is_number ["thing", "low", "high"] ["thing", "low", "high"]
def d_is_tuple : Df := dfAt 2 "is_tuple" f_is_tuple ["thing", "fewest", "most"] ["thing", "fewest", "most"]
def d_is_set : Df := dfAt 4 "is_set" f_is_set ["thing"] ["thing", "least", "span", "low", "high"]
def d_set_of : Df := dfAt 5 "set_of" f_set_of ["spans"] ["spans", "found", "low", "high"]
def d_join : Df := dfAt 6 "join" f_join ["first", "second"] ["first", "second"]
def d_meet : Df := dfAt 7 "meet" f_meet ["first", "second"] ["first", "second", "found", "one_low", "one_high", "other_low", "other_high", "low", "high"]
def d_without : Df := dfAt 8 "without" f_without ["first", "second"] ["first", "second"]
def d_holds : Df := dfAt 9 "holds" f_holds ["numbers", "number"] ["numbers", "number", "low", "high"]
def d__is_apart : Df := dfAt 10 "_is_apart" f__is_apart ["high", "low"] ["high", "low"]
def d__later : Df := dfAt 11 "_later" f__later ["one", "other"] ["one", "other"]
def d__earlier : Df := dfAt 12 "_earlier" f__earlier ["one", "other"] ["one", "other"]
def d__rest : Df := dfAt 13 "_rest" f__rest ["numbers"] ["numbers", "found", "start", "low", "high"]
def d__law_draw : Df := dfAt 15 "_law_draw" f__law_draw ["script"] ["script"]
def d__law_next : Df := dfAt 16 "_law_next" f__law_next ["draw", "many"] ["draw", "many", "found", "cell"]
def d__law_same : Df := dfAt 17 "_law_same" f__law_same ["actual", "due"] ["actual", "due", "k"]
def d__law_heap : Df := dfAt 18 "_law_heap" f__law_heap ["draw"] ["draw", "found", "k", "low", "high"]
def d__law_in : Df := dfAt 19 "_law_in" f__law_in ["heap", "number"] ["heap", "number", "low", "high"]
def d__law_told : Df := dfAt 20 "_law_told" f__law_told ["numbers"] ["numbers", "found", "number", "low"]
def d__law_wrong : Df := dfAt 21 "_law_wrong" f__law_wrong ["draw"] ["draw", "wrong"]
def d_law : Df := dfAt 22 "law" f_law ["script"] ["script", "draw", "heaps", "sets", "inside", "k", "both", "any_one", "first", "number", "heap", "turn"]
def ds : List Df := [d_is_number, d_is_tuple, d_is_set, d_set_of, d_join, d_meet, d_without, d_holds, d__is_apart, d__later, d__earlier, d__rest, d__law_draw, d__law_next, d__law_same, d__law_heap, d__law_in, d__law_told, d__law_wrong, d_law]
def cs : List (Str × W) := []
def nms : List Str := ["is_number", "is_tuple", "is_set", "set_of", "join", "meet", "without", "holds", "_is_apart", "_later", "_earlier", "_rest", "_law_draw", "_law_next", "_law_same", "_law_heap", "_law_in", "_law_told", "_law_wrong", "law"]
theorem b_is_number : d_is_number.bnd := fun _ _ _ _ _ _ us hl => match us, hl with | [_, _, _], _ => rfl
theorem b_is_tuple : d_is_tuple.bnd := fun _ _ _ _ _ _ us hl => match us, hl with | [_, _, _], _ => rfl
theorem b_is_set : d_is_set.bnd := fun _ _ _ _ _ _ us hl => match us, hl with | [_], _ => rfl
theorem b_set_of : d_set_of.bnd := fun _ _ _ _ _ _ us hl => match us, hl with | [_], _ => rfl
theorem b_join : d_join.bnd := fun _ _ _ _ _ _ us hl => match us, hl with | [_, _], _ => rfl
theorem b_meet : d_meet.bnd := fun _ _ _ _ _ _ us hl => match us, hl with | [_, _], _ => rfl
theorem b_without : d_without.bnd := fun _ _ _ _ _ _ us hl => match us, hl with | [_, _], _ => rfl
theorem b_holds : d_holds.bnd := fun _ _ _ _ _ _ us hl => match us, hl with | [_, _], _ => rfl
theorem b__is_apart : d__is_apart.bnd := fun _ _ _ _ _ _ us hl => match us, hl with | [_, _], _ => rfl
theorem b__later : d__later.bnd := fun _ _ _ _ _ _ us hl => match us, hl with | [_, _], _ => rfl
theorem b__earlier : d__earlier.bnd := fun _ _ _ _ _ _ us hl => match us, hl with | [_, _], _ => rfl
theorem b__rest : d__rest.bnd := fun _ _ _ _ _ _ us hl => match us, hl with | [_], _ => rfl
theorem b__law_draw : d__law_draw.bnd := fun _ _ _ _ _ _ us hl => match us, hl with | [_], _ => rfl
theorem b__law_next : d__law_next.bnd := fun _ _ _ _ _ _ us hl => match us, hl with | [_, _], _ => rfl
theorem b__law_same : d__law_same.bnd := fun _ _ _ _ _ _ us hl => match us, hl with | [_, _], _ => rfl
theorem b__law_heap : d__law_heap.bnd := fun _ _ _ _ _ _ us hl => match us, hl with | [_], _ => rfl
theorem b__law_in : d__law_in.bnd := fun _ _ _ _ _ _ us hl => match us, hl with | [_, _], _ => rfl
theorem b__law_told : d__law_told.bnd := fun _ _ _ _ _ _ us hl => match us, hl with | [_], _ => rfl
theorem b__law_wrong : d__law_wrong.bnd := fun _ _ _ _ _ _ us hl => match us, hl with | [_], _ => rfl
theorem b_law : d_law.bnd := fun _ _ _ _ _ _ us hl => match us, hl with | [_], _ => rfl
theorem k_is_number : dfB nms d_is_number = true := by decide +kernel
theorem k_is_tuple : dfB nms d_is_tuple = true := by decide +kernel
theorem k_is_set : dfB nms d_is_set = true := by decide +kernel
theorem k_set_of : dfB nms d_set_of = true := by decide +kernel
theorem k_join : dfB nms d_join = true := by decide +kernel
theorem k_meet : dfB nms d_meet = true := by decide +kernel
theorem k_without : dfB nms d_without = true := by decide +kernel
theorem k_holds : dfB nms d_holds = true := by decide +kernel
theorem k__is_apart : dfB nms d__is_apart = true := by decide +kernel
theorem k__later : dfB nms d__later = true := by decide +kernel
theorem k__earlier : dfB nms d__earlier = true := by decide +kernel
theorem k__rest : dfB nms d__rest = true := by decide +kernel
theorem k__law_draw : dfB nms d__law_draw = true := by decide +kernel
theorem k__law_next : dfB nms d__law_next = true := by decide +kernel
theorem k__law_same : dfB nms d__law_same = true := by decide +kernel
theorem k__law_heap : dfB nms d__law_heap = true := by decide +kernel
theorem k__law_in : dfB nms d__law_in = true := by decide +kernel
theorem k__law_told : dfB nms d__law_told = true := by decide +kernel
theorem k__law_wrong : dfB nms d__law_wrong = true := by decide +kernel
theorem k_law : dfB nms d_law = true := by decide +kernel
end Bd
namespace Bd
open PySem PySem.Spec PyProof.Rows L2
variable {con : Str → Option W} {fuel : Nat}
abbrev Tt := tabOf ds
theorem t_is_number : Tt "is_number" = some f_is_number := by rfl
theorem t_is_tuple : Tt "is_tuple" = some f_is_tuple := by rfl
theorem t_is_set : Tt "is_set" = some f_is_set := by rfl
theorem t_set_of : Tt "set_of" = some f_set_of := by rfl
theorem t_join : Tt "join" = some f_join := by rfl
theorem t_meet : Tt "meet" = some f_meet := by rfl
theorem t_without : Tt "without" = some f_without := by rfl
theorem t_holds : Tt "holds" = some f_holds := by rfl
theorem t_is_apart : Tt "_is_apart" = some f__is_apart := by rfl
theorem t_later : Tt "_later" = some f__later := by rfl
theorem t_earlier : Tt "_earlier" = some f__earlier := by rfl
theorem t_rest : Tt "_rest" = some f__rest := by rfl
theorem t_draw : Tt "_law_draw" = some f__law_draw := by rfl
theorem t_next : Tt "_law_next" = some f__law_next := by rfl
theorem t_same : Tt "_law_same" = some f__law_same := by rfl
theorem t_heap : Tt "_law_heap" = some f__law_heap := by rfl
theorem t_in : Tt "_law_in" = some f__law_in := by rfl
theorem t_told : Tt "_law_told" = some f__law_told := by rfl
theorem t_wrong : Tt "_law_wrong" = some f__law_wrong := by rfl
theorem t_law : Tt "law" = some f_law := by rfl
def optW : Option Int → W
  | none => .non
  | some i => .int i
/-- a span -/
abbrev Spn := Int × Option Int
def sW (s : Spn) : W := .tup [.int s.1, optW s.2]
def setW (ss : List Spn) : W := .tup (ss.map sW)
def apart (a : Option Int) (b : Int) : Bool := match a with
  | none => false
  | some a => decide (a + 1 < b)
def later (a b : Option Int) : Option Int := match a, b with
  | some a, some b => some (max a b)
  | _, _ => none
def earlier (a b : Option Int) : Option Int := match a, b with
  | some a, some b => some (min a b)
  | none, b => b
  | a, none => a
theorem is_apart_ok (n : Nat) (h : Hw) (a : Option Int) (b : Int) : callF Tt con fuel (n + 1) "_is_apart" [optW a, .int b] h = .ok (.bl (apart a b)) h := by
  rw [call_of t_is_apart]
  cases a <;> simp [f__is_apart, optW, apart, exSs, exS, ev, evs, evo, evc, evAnd, evOr, evSrc, fin, bind_ok, of_ok, then_ok, still_ok, runFn, finFn, bindT, bindTs, look, lookO, truW, view, plOf, Pl.get, Pl.put, Pl.isLst, appOb, setOb, setOwn, isN, isB, Md.sub, Md.neg, binW, cmpW, ltW, gtW, leW, ixW, slW, intW, biW, clsW, isTy, rngW, seqW, Ob.w, wipeW, Tg.vars, Tg.varss, Option.map_some, Option.map_none, Option.bind_some, Option.bind_none, List.any_cons, List.any_nil, List.all_cons, List.all_nil, List.map_cons, List.map_nil, List.length_cons, List.length_nil, List.getElem?_cons_zero, List.getElem?_cons_succ, List.getElem?_nil, List.set_cons_zero, List.set_cons_succ, List.replicate, List.cons_append, List.nil_append, Nat.reduceAdd, Nat.reduceSub, Nat.reduceLT, Nat.reduceLeDiff, Nat.lt_add_one, reduceCtorEq, if_true, if_false, ite_true, ite_false, Bool.not_true, Bool.not_false, Bool.true_or, Bool.false_or, Bool.or_false, Bool.or_true, Bool.and_true, Bool.true_and, Bool.false_and, Bool.and_false]
theorem later_ok (n : Nat) (h : Hw) (a b : Option Int) : callF Tt con fuel (n + 1) "_later" [optW a, optW b] h = .ok (optW (later a b)) h := by
  rw [call_of t_later]
  cases a <;> cases b <;> simp [f__later, optW, later, exSs, exS, ev, evs, evo, evc, evAnd, evOr, evSrc, fin, bind_ok, of_ok, then_ok, still_ok, runFn, finFn, bindT, bindTs, look, lookO, truW, view, plOf, Pl.get, Pl.put, Pl.isLst, appOb, setOb, setOwn, isN, isB, Md.sub, Md.neg, binW, cmpW, ltW, gtW, leW, ixW, slW, intW, biW, clsW, isTy, rngW, seqW, Ob.w, wipeW, Tg.vars, Tg.varss, Option.map_some, Option.map_none, Option.bind_some, Option.bind_none, List.any_cons, List.any_nil, List.all_cons, List.all_nil, List.map_cons, List.map_nil, List.length_cons, List.length_nil, List.getElem?_cons_zero, List.getElem?_cons_succ, List.getElem?_nil, List.set_cons_zero, List.set_cons_succ, List.replicate, List.cons_append, List.nil_append, Nat.reduceAdd, Nat.reduceSub, Nat.reduceLT, Nat.reduceLeDiff, Nat.lt_add_one, reduceCtorEq, if_true, if_false, ite_true, ite_false, Bool.not_true, Bool.not_false, Bool.true_or, Bool.false_or, Bool.or_false, Bool.or_true, Bool.and_true, Bool.true_and, Bool.false_and, Bool.and_false]
  omega
theorem earlier_ok (n : Nat) (h : Hw) (a b : Option Int) : callF Tt con fuel (n + 1) "_earlier" [optW a, optW b] h = .ok (optW (earlier a b)) h := by
  rw [call_of t_earlier]
  cases a <;> cases b <;> simp [f__earlier, optW, earlier, exSs, exS, ev, evs, evo, evc, evAnd, evOr, evSrc, fin, bind_ok, of_ok, then_ok, still_ok, runFn, finFn, bindT, bindTs, look, lookO, truW, view, plOf, Pl.get, Pl.put, Pl.isLst, appOb, setOb, setOwn, isN, isB, Md.sub, Md.neg, binW, cmpW, ltW, gtW, leW, ixW, slW, intW, biW, clsW, isTy, rngW, seqW, Ob.w, wipeW, Tg.vars, Tg.varss, Option.map_some, Option.map_none, Option.bind_some, Option.bind_none, List.any_cons, List.any_nil, List.all_cons, List.all_nil, List.map_cons, List.map_nil, List.length_cons, List.length_nil, List.getElem?_cons_zero, List.getElem?_cons_succ, List.getElem?_nil, List.set_cons_zero, List.set_cons_succ, List.replicate, List.cons_append, List.nil_append, Nat.reduceAdd, Nat.reduceSub, Nat.reduceLT, Nat.reduceLeDiff, Nat.lt_add_one, reduceCtorEq, if_true, if_false, ite_true, ite_false, Bool.not_true, Bool.not_false, Bool.true_or, Bool.false_or, Bool.or_false, Bool.or_true, Bool.and_true, Bool.true_and, Bool.false_and, Bool.and_false]
  omega
theorem number_ok (n : Nat) (h : Hw) (a b : Int) : callF Tt con fuel (n + 1) "is_number" [.int a, .int b, .non] h = .ok (.bl (decide (b ≤ a))) h := by
  rw [call_of t_is_number]
  simp [f_is_number, exSs, exS, ev, evs, evo, evc, evAnd, evOr, evSrc, fin, bind_ok, of_ok, then_ok, still_ok, runFn, finFn, bindT, bindTs, look, lookO, truW, view, plOf, Pl.get, Pl.put, Pl.isLst, appOb, setOb, setOwn, isN, isB, Md.sub, Md.neg, binW, cmpW, ltW, gtW, leW, ixW, slW, intW, biW, clsW, isTy, rngW, seqW, Ob.w, wipeW, Tg.vars, Tg.varss, Option.map_some, Option.map_none, Option.bind_some, Option.bind_none, List.any_cons, List.any_nil, List.all_cons, List.all_nil, List.map_cons, List.map_nil, List.length_cons, List.length_nil, List.getElem?_cons_zero, List.getElem?_cons_succ, List.getElem?_nil, List.set_cons_zero, List.set_cons_succ, List.replicate, List.cons_append, List.nil_append, Nat.reduceAdd, Nat.reduceSub, Nat.reduceLT, Nat.reduceLeDiff, Nat.lt_add_one, reduceCtorEq, if_true, if_false, ite_true, ite_false, Bool.not_true, Bool.not_false, Bool.true_or, Bool.false_or, Bool.or_false, Bool.or_true, Bool.and_true, Bool.true_and, Bool.false_and, Bool.and_false]
  by_cases q : b ≤ a <;> simp [q, exSs, exS, ev, evs, evo, evc, evAnd, evOr, evSrc, fin, bind_ok, of_ok, then_ok, still_ok, runFn, finFn, bindT, bindTs, look, lookO, truW, view, plOf, Pl.get, Pl.put, Pl.isLst, appOb, setOb, setOwn, isN, isB, Md.sub, Md.neg, binW, cmpW, ltW, gtW, leW, ixW, slW, intW, biW, clsW, isTy, rngW, seqW, Ob.w, wipeW, Tg.vars, Tg.varss, Option.map_some, Option.map_none, Option.bind_some, Option.bind_none, List.any_cons, List.any_nil, List.all_cons, List.all_nil, List.map_cons, List.map_nil, List.length_cons, List.length_nil, List.getElem?_cons_zero, List.getElem?_cons_succ, List.getElem?_nil, List.set_cons_zero, List.set_cons_succ, List.replicate, List.cons_append, List.nil_append, Nat.reduceAdd, Nat.reduceSub, Nat.reduceLT, Nat.reduceLeDiff, Nat.lt_add_one, reduceCtorEq, if_true, if_false, ite_true, ite_false, Bool.not_true, Bool.not_false, Bool.true_or, Bool.false_or, Bool.or_false, Bool.or_true, Bool.and_true, Bool.true_and, Bool.false_and, Bool.and_false]
theorem tuple_ok (n : Nat) (h : Hw) (s : Spn) : callF Tt con fuel (n + 1) "is_tuple" [sW s, .int 2, .int 2] h = .ok (.bl true) h := by
  rw [call_of t_is_tuple]
  simp [f_is_tuple, sW, exSs, exS, ev, evs, evo, evc, evAnd, evOr, evSrc, fin, bind_ok, of_ok, then_ok, still_ok, runFn, finFn, bindT, bindTs, look, lookO, truW, view, plOf, Pl.get, Pl.put, Pl.isLst, appOb, setOb, setOwn, isN, isB, Md.sub, Md.neg, binW, cmpW, ltW, gtW, leW, ixW, slW, intW, biW, clsW, isTy, rngW, seqW, Ob.w, wipeW, Tg.vars, Tg.varss, Option.map_some, Option.map_none, Option.bind_some, Option.bind_none, List.any_cons, List.any_nil, List.all_cons, List.all_nil, List.map_cons, List.map_nil, List.length_cons, List.length_nil, List.getElem?_cons_zero, List.getElem?_cons_succ, List.getElem?_nil, List.set_cons_zero, List.set_cons_succ, List.replicate, List.cons_append, List.nil_append, Nat.reduceAdd, Nat.reduceSub, Nat.reduceLT, Nat.reduceLeDiff, Nat.lt_add_one, reduceCtorEq, if_true, if_false, ite_true, ite_false, Bool.not_true, Bool.not_false, Bool.true_or, Bool.false_or, Bool.or_false, Bool.or_true, Bool.and_true, Bool.true_and, Bool.false_and, Bool.and_false]
/-- is x in the span -/
def inS (x : Int) (s : Spn) : Bool := decide (s.1 ≤ x) && (match s.2 with
  | none => true
  | some y => decide (x ≤ y))
theorem atI_end {α : Type} {xs : List α} {v : α} : L2.atI (xs ++ [v]) (-1) = some v := atI_last xs v
theorem ixN_end {n : Nat} : L2.ixN (n + 1) (-1) = some n := by
  unfold L2.ixN
  rw [if_neg (by decide), if_pos (by omega)]
  congr 1
  omega
theorem atI_0 {α : Type} {x : α} {xs : List α} : L2.atI (x :: xs) 0 = some x := atI_nat (j := 0) rfl
theorem atI_1 {α : Type} {x y : α} {xs : List α} : L2.atI (x :: y :: xs) 1 = some y := atI_nat (j := 1) rfl
theorem set_end {α : Type} {xs : List α} {v w : α} : (xs ++ [v]).set xs.length w = xs ++ [w] := by simp
/-- what set_of's loop does with the next span -/
def mstep (fs : List Spn) (s : Spn) : List Spn := match fs.getLast? with
  | none => [s]
  | some l => if apart l.2 s.1 then fs ++ [s] else fs.dropLast ++ [(l.1, later l.2 s.2)]
theorem mstep_len (fs : List Spn) (s : Spn) : (mstep fs s).length ≤ fs.length + 1 := by
  unfold mstep
  split
  · simp
  · split
    · simp
    · simp
      try omega
def mbody (n : Nat) : W → Env → Hw → Out := fun x σ h => match bindT (.tup [.var 2, .var 3]) x σ with
  | some σ => exSs ⟨callF Tt con fuel (n + 1), con, fuel⟩ [.ite (.or [(.not (.var 1)), (.call "_is_apart" [(.ix (.ix (.var 1) (.neg (.int 1))) (.int 1)), (.var 2)])]) [
      .app (.var 1) (.tup [(.var 2), (.var 3)])] [
      .set (.var 1) (.neg (.int 1)) (.tup [(.ix (.ix (.var 1) (.neg (.int 1))) (.int 0)), (.call "_later" [(.ix (.ix (.var 1) (.neg (.int 1))) (.int 1)), (.var 3)])])]] σ h
  | none => .bad
theorem mbody_ok (n : Nat) (h : Hw) (a s2 s3 : Sl) (fs : List Spn) (s : Spn) (hl : fs.length < 1000) : mbody (con := con) (fuel := fuel) n (sW s) [a, .own (.lst (fs.map sW)), s2, s3] h = .next [a, .own (.lst ((mstep fs s).map sW)), .v (.int s.1), .v (optW s.2)] h := by
  have hz : sizeLine = 16777216 := by decide
  rcases List.eq_nil_or_concat fs with rfl | ⟨gs, l, rfl⟩
  · simp [mbody, sW, mstep, exSs, exS, ev, evs, evo, evc, evAnd, evOr, evSrc, fin, bind_ok, of_ok, then_ok, still_ok, runFn, finFn, bindT, bindTs, look, lookO, truW, view, plOf, Pl.get, Pl.put, Pl.isLst, appOb, setOb, setOwn, isN, isB, Md.sub, Md.neg, binW, cmpW, ltW, gtW, leW, ixW, slW, intW, biW, clsW, isTy, rngW, seqW, Ob.w, wipeW, Tg.vars, Tg.varss, Option.map_some, Option.map_none, Option.bind_some, Option.bind_none, List.any_cons, List.any_nil, List.all_cons, List.all_nil, List.map_cons, List.map_nil, List.length_cons, List.length_nil, List.getElem?_cons_zero, List.getElem?_cons_succ, List.getElem?_nil, List.set_cons_zero, List.set_cons_succ, List.replicate, List.cons_append, List.nil_append, Nat.reduceAdd, Nat.reduceSub, Nat.reduceLT, Nat.reduceLeDiff, Nat.lt_add_one, reduceCtorEq, if_true, if_false, ite_true, ite_false, Bool.not_true, Bool.not_false, Bool.true_or, Bool.false_or, Bool.or_false, Bool.or_true, Bool.and_true, Bool.true_and, Bool.false_and, Bool.and_false, hz]
  · have e1 : L2.atI (gs.map sW ++ [W.tup [.int l.1, optW l.2]]) (-1) = some (W.tup [.int l.1, optW l.2]) := atI_end
    have hl2 : gs.length + 1 < 16777216 := by simp at hl; omega
    have e0 : (gs.map sW ++ [W.tup [.int l.1, optW l.2]]).isEmpty = false := by simp
    cases hap : apart l.2 s.1 with
    | true => simp [mbody, sW, mstep, exSs, exS, ev, evs, evo, evc, evAnd, evOr, evSrc, fin, bind_ok, of_ok, then_ok, still_ok, runFn, finFn, bindT, bindTs, look, lookO, truW, view, plOf, Pl.get, Pl.put, Pl.isLst, appOb, setOb, setOwn, isN, isB, Md.sub, Md.neg, binW, cmpW, ltW, gtW, leW, ixW, slW, intW, biW, clsW, isTy, rngW, seqW, Ob.w, wipeW, Tg.vars, Tg.varss, Option.map_some, Option.map_none, Option.bind_some, Option.bind_none, List.any_cons, List.any_nil, List.all_cons, List.all_nil, List.map_cons, List.map_nil, List.length_cons, List.length_nil, List.getElem?_cons_zero, List.getElem?_cons_succ, List.getElem?_nil, List.set_cons_zero, List.set_cons_succ, List.replicate, List.cons_append, List.nil_append, Nat.reduceAdd, Nat.reduceSub, Nat.reduceLT, Nat.reduceLeDiff, Nat.lt_add_one, reduceCtorEq, if_true, if_false, ite_true, ite_false, Bool.not_true, Bool.not_false, Bool.true_or, Bool.false_or, Bool.or_false, Bool.or_true, Bool.and_true, Bool.true_and, Bool.false_and, Bool.and_false, hz, e0, e1, hl2, is_apart_ok, hap, atI_1]
    | false => simp [mbody, sW, mstep, exSs, exS, ev, evs, evo, evc, evAnd, evOr, evSrc, fin, bind_ok, of_ok, then_ok, still_ok, runFn, finFn, bindT, bindTs, look, lookO, truW, view, plOf, Pl.get, Pl.put, Pl.isLst, appOb, setOb, setOwn, isN, isB, Md.sub, Md.neg, binW, cmpW, ltW, gtW, leW, ixW, slW, intW, biW, clsW, isTy, rngW, seqW, Ob.w, wipeW, Tg.vars, Tg.varss, Option.map_some, Option.map_none, Option.bind_some, Option.bind_none, List.any_cons, List.any_nil, List.all_cons, List.all_nil, List.map_cons, List.map_nil, List.length_cons, List.length_nil, List.getElem?_cons_zero, List.getElem?_cons_succ, List.getElem?_nil, List.set_cons_zero, List.set_cons_succ, List.replicate, List.cons_append, List.nil_append, Nat.reduceAdd, Nat.reduceSub, Nat.reduceLT, Nat.reduceLeDiff, Nat.lt_add_one, reduceCtorEq, if_true, if_false, ite_true, ite_false, Bool.not_true, Bool.not_false, Bool.true_or, Bool.false_or, Bool.or_false, Bool.or_true, Bool.and_true, Bool.true_and, Bool.false_and, Bool.and_false, hz, e0, e1, hl2, is_apart_ok, later_ok, hap, atI_0, atI_1, ixN_end]

theorem mloop (n : Nat) (h : Hw) (a : Sl) : ∀ (ss fs : List Spn) (s2 s3 : Sl), fs.length + ss.length < 1000 → ∃ s2' s3', forRun (mbody (con := con) (fuel := fuel) n) (ss.map sW) [a, .own (.lst (fs.map sW)), s2, s3] h = .next [a, .own (.lst ((ss.foldl mstep fs).map sW)), s2', s3'] h
  | [], fs, s2, s3, _ => ⟨s2, s3, rfl⟩
  | s :: ss, fs, s2, s3, hl => by
    have hl : fs.length + (ss.length + 1) < 1000 := hl
    have hm := mstep_len fs s
    obtain ⟨s2', s3', e⟩ := mloop n h a ss (mstep fs s) (.v (.int s.1)) (.v (optW s.2)) (by omega)
    refine ⟨s2', s3', ?_⟩
    exact for_cons (mbody_ok n h a s2 s3 fs s (by omega)) e
def sortS (ss : List Spn) : List Spn := ss.mergeSort fun a b => decide (a.1 ≤ b.1)
def setOf (ss : List Spn) : List Spn := (sortS ss).foldl mstep []
theorem foldl_mstep_len : ∀ (ss fs : List Spn), (ss.foldl mstep fs).length ≤ fs.length + ss.length
  | [], fs => Nat.le_refl _
  | s :: ss, fs => by
    have h1 := mstep_len fs s
    have h2 := foldl_mstep_len ss (mstep fs s)
    rw [List.foldl_cons, List.length_cons]
    omega
theorem setOf_len (ss : List Spn) : (setOf ss).length ≤ ss.length := by
  have := foldl_mstep_len (sortS ss) []
  have h2 : (sortS ss).length = ss.length := List.length_mergeSort _
  unfold setOf
  rw [h2] at this
  simpa using this
theorem keys_low : ∀ ss : List Spn, keyWs (.ix (.var 0) (.int 0)) (ss.map sW) = some (ss.map fun s => W.int s.1)
  | [] => rfl
  | s :: ss => by
    rw [List.map_cons]
    unfold keyWs
    have : keyW (.ix (.var 0) (.int 0)) (sW s) = some (.int s.1) := by
      show (L2.atI [W.int s.1, optW s.2] 0).bind _ = _
      rw [atI_0]
      rfl
    rw [this, keys_low ss]
    rfl
theorem toPys_low : ∀ ss : List Spn, toPys (ss.map fun s => W.int s.1) = some (ss.map fun s => PyData.int s.1)
  | [] => rfl
  | s :: ss => by
    rw [List.map_cons]
    unfold toPys
    rw [toPys_low ss]
    rfl
theorem srt_low (ss : List Spn) (hl : ss.length < 1000) : srtW false (ss.map fun s => W.int s.1) (ss.map sW) = some ((sortS ss).map sW) := by
  unfold srtW
  rw [toPys_low]
  have hz : sizeLine = 16777216 := by decide
  have c : (ss.map fun s => W.int s.1).length = (ss.map sW).length ∧ ((ss.map fun s => PyData.int s.1).all fun d => (ss.map fun s => PyData.int s.1).all fun e => PySem.W.alike d e) = true ∧ sortable (ss.map fun s => PyData.int s.1) = true ∧ ((ss.map fun s => PyData.int s.1).all fun d => decide (d.depth ≤ 64)) = true ∧ (ss.map sW).length ≤ sizeLine := by
    refine ⟨by simp, ?_, ?_, ?_, by simp; omega⟩
    · rw [List.all_eq_true]
      intro d hd
      rw [List.all_eq_true]
      intro e he
      obtain ⟨s, _, rfl⟩ := List.mem_map.mp hd
      obtain ⟨t, _, rfl⟩ := List.mem_map.mp he
      rfl
    · unfold sortable
      refine Bool.or_eq_true_iff.mpr (.inr (List.all_eq_true.mpr fun d hd => ?_))
      obtain ⟨s, _, rfl⟩ := List.mem_map.mp hd
      rfl
    · rw [List.all_eq_true]
      intro d hd
      obtain ⟨s, _, rfl⟩ := List.mem_map.mp hd
      rfl
  dsimp only
  rw [if_pos c]
  have e : (ss.map fun s => PyData.int s.1).zip (ss.map sW) = ss.map fun s => (PyData.int s.1, sW s) := by
    rw [List.zip_map', ]
  rw [e]
  have e2 : (ss.map fun s => (PyData.int s.1, sW s)).mergeSort (PySem.W.dataLe false Prod.fst) = (sortS ss).map fun s => (PyData.int s.1, sW s) := by
    unfold sortS
    refine (List.map_mergeSort fun a _ b _ => ?_).symm
    have := congrFun (congrFun (PySem.W.dataLe_int (fun s : Spn => s.1)) a) b
    exact this.symm
  rw [e2, List.map_map]
  rfl
theorem set_of_ok (n : Nat) (h : Hw) (ss : List Spn) (hl : ss.length < 1000) : callF Tt con fuel (n + 2) "set_of" [.lst (ss.map sW)] h = .ok (setW (setOf ss)) h := by
  rw [call_of t_set_of]
  have hz : sizeLine = 16777216 := by decide
  obtain ⟨s2, s3, e⟩ := mloop (con := con) (fuel := fuel) n h (.v (.lst (ss.map sW))) (sortS ss) [] .no .no (by
    have : (sortS ss).length = ss.length := List.length_mergeSort _
    simp [this]; omega)
  refine run_ret rfl ⟨rfl, by decide⟩ ?_
  refine seq_next (σ1 := [.v (.lst (ss.map sW)), .own (.lst []), .no, .no]) (h1 := h) (by simp [f_set_of, exSs, exS, ev, evs, evo, evc, evAnd, evOr, evSrc, fin, bind_ok, of_ok, then_ok, still_ok, runFn, finFn, bindT, bindTs, look, lookO, truW, view, plOf, Pl.get, Pl.put, Pl.isLst, appOb, setOb, setOwn, isN, isB, Md.sub, Md.neg, binW, cmpW, ltW, gtW, leW, ixW, slW, intW, biW, clsW, isTy, rngW, seqW, Ob.w, wipeW, Tg.vars, Tg.varss, Option.map_some, Option.map_none, Option.bind_some, Option.bind_none, List.any_cons, List.any_nil, List.all_cons, List.all_nil, List.map_cons, List.map_nil, List.length_cons, List.length_nil, List.getElem?_cons_zero, List.getElem?_cons_succ, List.getElem?_nil, List.set_cons_zero, List.set_cons_succ, List.replicate, List.cons_append, List.nil_append, Nat.reduceAdd, Nat.reduceSub, Nat.reduceLT, Nat.reduceLeDiff, Nat.lt_add_one, reduceCtorEq, if_true, if_false, ite_true, ite_false, Bool.not_true, Bool.not_false, Bool.true_or, Bool.false_or, Bool.or_false, Bool.or_true, Bool.and_true, Bool.true_and, Bool.false_and, Bool.and_false, hz]) ?_
  refine seq_next ((for_eq (ws := (sortS ss).map sW) (h1 := h) (by simp [exSs, exS, ev, evs, evo, evc, evAnd, evOr, evSrc, fin, bind_ok, of_ok, then_ok, still_ok, runFn, finFn, bindT, bindTs, look, lookO, truW, view, plOf, Pl.get, Pl.put, Pl.isLst, appOb, setOb, setOwn, isN, isB, Md.sub, Md.neg, binW, cmpW, ltW, gtW, leW, ixW, slW, intW, biW, clsW, isTy, rngW, seqW, Ob.w, wipeW, Tg.vars, Tg.varss, Option.map_some, Option.map_none, Option.bind_some, Option.bind_none, List.any_cons, List.any_nil, List.all_cons, List.all_nil, List.map_cons, List.map_nil, List.length_cons, List.length_nil, List.getElem?_cons_zero, List.getElem?_cons_succ, List.getElem?_nil, List.set_cons_zero, List.set_cons_succ, List.replicate, List.cons_append, List.nil_append, Nat.reduceAdd, Nat.reduceSub, Nat.reduceLT, Nat.reduceLeDiff, Nat.lt_add_one, reduceCtorEq, if_true, if_false, ite_true, ite_false, Bool.not_true, Bool.not_false, Bool.true_or, Bool.false_or, Bool.or_false, Bool.or_true, Bool.and_true, Bool.true_and, Bool.false_and, Bool.and_false, evKey, evKeys, keys_low, srt_low ss hl])).trans e) ?_
  simp [exSs, exS, ev, evs, evo, evc, evAnd, evOr, evSrc, fin, bind_ok, of_ok, then_ok, still_ok, runFn, finFn, bindT, bindTs, look, lookO, truW, view, plOf, Pl.get, Pl.put, Pl.isLst, appOb, setOb, setOwn, isN, isB, Md.sub, Md.neg, binW, cmpW, ltW, gtW, leW, ixW, slW, intW, biW, clsW, isTy, rngW, seqW, Ob.w, wipeW, Tg.vars, Tg.varss, Option.map_some, Option.map_none, Option.bind_some, Option.bind_none, List.any_cons, List.any_nil, List.all_cons, List.all_nil, List.map_cons, List.map_nil, List.length_cons, List.length_nil, List.getElem?_cons_zero, List.getElem?_cons_succ, List.getElem?_nil, List.set_cons_zero, List.set_cons_succ, List.replicate, List.cons_append, List.nil_append, Nat.reduceAdd, Nat.reduceSub, Nat.reduceLT, Nat.reduceLeDiff, Nat.lt_add_one, reduceCtorEq, if_true, if_false, ite_true, ite_false, Bool.not_true, Bool.not_false, Bool.true_or, Bool.false_or, Bool.or_false, Bool.or_true, Bool.and_true, Bool.true_and, Bool.false_and, Bool.and_false, setW, setOf]
end Bd
namespace Bd
open PySem PySem.Spec PyProof.Rows L2
variable {con : Str → Option W} {fuel : Nat}
/-! ### is_set -/
def okSet : Option Int → List Spn → Prop
  | _, [] => True
  | none, _ :: _ => False
  | some b, (l, none) :: r => b ≤ l ∧ okSet none r
  | some b, (l, some y) :: r => b ≤ l ∧ l ≤ y ∧ okSet (some (y + 2)) r
def sbody (n : Nat) : W → Env → Hw → Out := fun x σ h => match bindT (.var 2) x σ with
  | some σ => exSs ⟨callF Tt con fuel (n + 1), con, fuel⟩ [.ite (.or [(.isn (.var 1)), (.not (.call "is_tuple" [(.var 2), (.int 2), (.int 2)]))]) [
      .ret (.bl false)] [],
    .asg (.tup [(.var 3), (.var 4)]) (.var 2),
    .ite (.not (.call "is_number" [(.var 3), (.var 1), .non])) [
      .ret (.bl false)] [],
    .ite (.and [(.notn (.var 4)), (.not (.call "is_number" [(.var 4), (.var 3), .non]))]) [
      .ret (.bl false)] [],
    .asg (.var 1) (.ite (.isn (.var 4)) .non (.bin .add (.var 4) (.int 2)))] σ h
  | none => .bad
theorem sbody_ok (n : Nat) (h : Hw) (a s2 s3 s4 : Sl) (b : Int) (s : Spn) (h1 : b ≤ s.1) (h2 : ∀ y, s.2 = some y → s.1 ≤ y) : sbody (con := con) (fuel := fuel) n (sW s) [a, .v (.int b), s2, s3, s4] h = .next [a, .v (optW (s.2.map (· + 2))), .v (sW s), .v (.int s.1), .v (optW s.2)] h := by
  have e2 : ∀ m h, callF Tt con fuel (m + 1) "is_tuple" [.tup [.int s.1, optW s.2], .int 2, .int 2] h = .ok (.bl true) h := fun m h => tuple_ok m h s
  obtain ⟨l, o⟩ := s
  cases o with
  | none => simp [sbody, sW, optW, exSs, exS, ev, evs, evo, evc, evAnd, evOr, evSrc, fin, bind_ok, of_ok, then_ok, still_ok, runFn, finFn, bindT, bindTs, look, lookO, truW, view, plOf, Pl.get, Pl.put, Pl.isLst, appOb, setOb, setOwn, isN, isB, Md.sub, Md.neg, binW, cmpW, ltW, gtW, leW, ixW, slW, intW, biW, clsW, isTy, rngW, seqW, Ob.w, wipeW, Tg.vars, Tg.varss, Option.map_some, Option.map_none, Option.bind_some, Option.bind_none, List.any_cons, List.any_nil, List.all_cons, List.all_nil, List.map_cons, List.map_nil, List.length_cons, List.length_nil, List.getElem?_cons_zero, List.getElem?_cons_succ, List.getElem?_nil, List.set_cons_zero, List.set_cons_succ, List.replicate, List.cons_append, List.nil_append, Nat.reduceAdd, Nat.reduceSub, Nat.reduceLT, Nat.reduceLeDiff, Nat.lt_add_one, reduceCtorEq, if_true, if_false, ite_true, ite_false, Bool.not_true, Bool.not_false, Bool.true_or, Bool.false_or, Bool.or_false, Bool.or_true, Bool.and_true, Bool.true_and, Bool.false_and, Bool.and_false, number_ok, h1] at e2 ⊢; simp [e2, exSs, exS, ev, evs, evo, evc, evAnd, evOr, evSrc, fin, bind_ok, of_ok, then_ok, still_ok, runFn, finFn, bindT, bindTs, look, lookO, truW, view, plOf, Pl.get, Pl.put, Pl.isLst, appOb, setOb, setOwn, isN, isB, Md.sub, Md.neg, binW, cmpW, ltW, gtW, leW, ixW, slW, intW, biW, clsW, isTy, rngW, seqW, Ob.w, wipeW, Tg.vars, Tg.varss, Option.map_some, Option.map_none, Option.bind_some, Option.bind_none, List.any_cons, List.any_nil, List.all_cons, List.all_nil, List.map_cons, List.map_nil, List.length_cons, List.length_nil, List.getElem?_cons_zero, List.getElem?_cons_succ, List.getElem?_nil, List.set_cons_zero, List.set_cons_succ, List.replicate, List.cons_append, List.nil_append, Nat.reduceAdd, Nat.reduceSub, Nat.reduceLT, Nat.reduceLeDiff, Nat.lt_add_one, reduceCtorEq, if_true, if_false, ite_true, ite_false, Bool.not_true, Bool.not_false, Bool.true_or, Bool.false_or, Bool.or_false, Bool.or_true, Bool.and_true, Bool.true_and, Bool.false_and, Bool.and_false, number_ok, h1]
  | some y =>
    have k2 : l ≤ y := h2 y rfl
    have k1 : b ≤ l := h1
    simp [sbody, sW, optW, exSs, exS, ev, evs, evo, evc, evAnd, evOr, evSrc, fin, bind_ok, of_ok, then_ok, still_ok, runFn, finFn, bindT, bindTs, look, lookO, truW, view, plOf, Pl.get, Pl.put, Pl.isLst, appOb, setOb, setOwn, isN, isB, Md.sub, Md.neg, binW, cmpW, ltW, gtW, leW, ixW, slW, intW, biW, clsW, isTy, rngW, seqW, Ob.w, wipeW, Tg.vars, Tg.varss, Option.map_some, Option.map_none, Option.bind_some, Option.bind_none, List.any_cons, List.any_nil, List.all_cons, List.all_nil, List.map_cons, List.map_nil, List.length_cons, List.length_nil, List.getElem?_cons_zero, List.getElem?_cons_succ, List.getElem?_nil, List.set_cons_zero, List.set_cons_succ, List.replicate, List.cons_append, List.nil_append, Nat.reduceAdd, Nat.reduceSub, Nat.reduceLT, Nat.reduceLeDiff, Nat.lt_add_one, reduceCtorEq, if_true, if_false, ite_true, ite_false, Bool.not_true, Bool.not_false, Bool.true_or, Bool.false_or, Bool.or_false, Bool.or_true, Bool.and_true, Bool.true_and, Bool.false_and, Bool.and_false, number_ok, k1, k2] at e2 ⊢
    simp [e2, exSs, exS, ev, evs, evo, evc, evAnd, evOr, evSrc, fin, bind_ok, of_ok, then_ok, still_ok, runFn, finFn, bindT, bindTs, look, lookO, truW, view, plOf, Pl.get, Pl.put, Pl.isLst, appOb, setOb, setOwn, isN, isB, Md.sub, Md.neg, binW, cmpW, ltW, gtW, leW, ixW, slW, intW, biW, clsW, isTy, rngW, seqW, Ob.w, wipeW, Tg.vars, Tg.varss, Option.map_some, Option.map_none, Option.bind_some, Option.bind_none, List.any_cons, List.any_nil, List.all_cons, List.all_nil, List.map_cons, List.map_nil, List.length_cons, List.length_nil, List.getElem?_cons_zero, List.getElem?_cons_succ, List.getElem?_nil, List.set_cons_zero, List.set_cons_succ, List.replicate, List.cons_append, List.nil_append, Nat.reduceAdd, Nat.reduceSub, Nat.reduceLT, Nat.reduceLeDiff, Nat.lt_add_one, reduceCtorEq, if_true, if_false, ite_true, ite_false, Bool.not_true, Bool.not_false, Bool.true_or, Bool.false_or, Bool.or_false, Bool.or_true, Bool.and_true, Bool.true_and, Bool.false_and, Bool.and_false, number_ok, k1, k2]
theorem sloop (n : Nat) (h : Hw) (a : Sl) : ∀ (ss : List Spn) (b : Option Int) (s2 s3 s4 : Sl), okSet b ss → ∃ t1 t2 t3 t4, forRun (sbody (con := con) (fuel := fuel) n) (ss.map sW) [a, .v (optW b), s2, s3, s4] h = .next [a, t1, t2, t3, t4] h
  | [], b, s2, s3, s4, _ => ⟨_, s2, s3, s4, rfl⟩
  | s :: ss, none, s2, s3, s4, k => k.elim
  | (l, none) :: ss, some b, s2, s3, s4, k => by
    obtain ⟨t1, t2, t3, t4, e⟩ := sloop n h a ss none _ _ _ k.2
    exact ⟨t1, t2, t3, t4, for_cons (sbody_ok n h a s2 s3 s4 b (l, none) k.1 fun y e => nomatch e) e⟩
  | (l, some y) :: ss, some b, s2, s3, s4, k => by
    obtain ⟨t1, t2, t3, t4, e⟩ := sloop n h a ss (some (y + 2)) _ _ _ k.2.2
    exact ⟨t1, t2, t3, t4, for_cons (sbody_ok n h a s2 s3 s4 b (l, some y) k.1 fun z e => by cases e; exact k.2.1) e⟩
theorem is_set_ok (n : Nat) (h : Hw) (ss : List Spn) (k : okSet (some 0) ss) : callF Tt con fuel (n + 2) "is_set" [setW ss] h = .ok (.bl true) h := by
  rw [call_of t_is_set]
  obtain ⟨t1, t2, t3, t4, e⟩ := sloop (con := con) (fuel := fuel) n h (.v (setW ss)) ss (some 0) .no .no .no k
  refine run_ret rfl ⟨rfl, by decide⟩ ?_
  refine seq_next (σ1 := [.v (setW ss), .no, .no, .no, .no]) (h1 := h) (by simp [f_is_set, exSs, exS, ev, evs, evo, evc, evAnd, evOr, evSrc, fin, bind_ok, of_ok, then_ok, still_ok, runFn, finFn, bindT, bindTs, look, lookO, truW, view, plOf, Pl.get, Pl.put, Pl.isLst, appOb, setOb, setOwn, isN, isB, Md.sub, Md.neg, binW, cmpW, ltW, gtW, leW, ixW, slW, intW, biW, clsW, isTy, rngW, seqW, Ob.w, wipeW, Tg.vars, Tg.varss, Option.map_some, Option.map_none, Option.bind_some, Option.bind_none, List.any_cons, List.any_nil, List.all_cons, List.all_nil, List.map_cons, List.map_nil, List.length_cons, List.length_nil, List.getElem?_cons_zero, List.getElem?_cons_succ, List.getElem?_nil, List.set_cons_zero, List.set_cons_succ, List.replicate, List.cons_append, List.nil_append, Nat.reduceAdd, Nat.reduceSub, Nat.reduceLT, Nat.reduceLeDiff, Nat.lt_add_one, reduceCtorEq, if_true, if_false, ite_true, ite_false, Bool.not_true, Bool.not_false, Bool.true_or, Bool.false_or, Bool.or_false, Bool.or_true, Bool.and_true, Bool.true_and, Bool.false_and, Bool.and_false, setW]) ?_
  refine seq_next (σ1 := [.v (setW ss), .v (.int 0), .no, .no, .no]) (h1 := h) (by simp [exSs, exS, ev, evs, evo, evc, evAnd, evOr, evSrc, fin, bind_ok, of_ok, then_ok, still_ok, runFn, finFn, bindT, bindTs, look, lookO, truW, view, plOf, Pl.get, Pl.put, Pl.isLst, appOb, setOb, setOwn, isN, isB, Md.sub, Md.neg, binW, cmpW, ltW, gtW, leW, ixW, slW, intW, biW, clsW, isTy, rngW, seqW, Ob.w, wipeW, Tg.vars, Tg.varss, Option.map_some, Option.map_none, Option.bind_some, Option.bind_none, List.any_cons, List.any_nil, List.all_cons, List.all_nil, List.map_cons, List.map_nil, List.length_cons, List.length_nil, List.getElem?_cons_zero, List.getElem?_cons_succ, List.getElem?_nil, List.set_cons_zero, List.set_cons_succ, List.replicate, List.cons_append, List.nil_append, Nat.reduceAdd, Nat.reduceSub, Nat.reduceLT, Nat.reduceLeDiff, Nat.lt_add_one, reduceCtorEq, if_true, if_false, ite_true, ite_false, Bool.not_true, Bool.not_false, Bool.true_or, Bool.false_or, Bool.or_false, Bool.or_true, Bool.and_true, Bool.true_and, Bool.false_and, Bool.and_false]) ?_
  refine seq_next ((for_eq (ws := ss.map sW) (h1 := h) (by simp [exSs, exS, ev, evs, evo, evc, evAnd, evOr, evSrc, fin, bind_ok, of_ok, then_ok, still_ok, runFn, finFn, bindT, bindTs, look, lookO, truW, view, plOf, Pl.get, Pl.put, Pl.isLst, appOb, setOb, setOwn, isN, isB, Md.sub, Md.neg, binW, cmpW, ltW, gtW, leW, ixW, slW, intW, biW, clsW, isTy, rngW, seqW, Ob.w, wipeW, Tg.vars, Tg.varss, Option.map_some, Option.map_none, Option.bind_some, Option.bind_none, List.any_cons, List.any_nil, List.all_cons, List.all_nil, List.map_cons, List.map_nil, List.length_cons, List.length_nil, List.getElem?_cons_zero, List.getElem?_cons_succ, List.getElem?_nil, List.set_cons_zero, List.set_cons_succ, List.replicate, List.cons_append, List.nil_append, Nat.reduceAdd, Nat.reduceSub, Nat.reduceLT, Nat.reduceLeDiff, Nat.lt_add_one, reduceCtorEq, if_true, if_false, ite_true, ite_false, Bool.not_true, Bool.not_false, Bool.true_or, Bool.false_or, Bool.or_false, Bool.or_true, Bool.and_true, Bool.true_and, Bool.false_and, Bool.and_false, setW])).trans e) ?_
  simp [exSs, exS, ev, evs, evo, evc, evAnd, evOr, evSrc, fin, bind_ok, of_ok, then_ok, still_ok, runFn, finFn, bindT, bindTs, look, lookO, truW, view, plOf, Pl.get, Pl.put, Pl.isLst, appOb, setOb, setOwn, isN, isB, Md.sub, Md.neg, binW, cmpW, ltW, gtW, leW, ixW, slW, intW, biW, clsW, isTy, rngW, seqW, Ob.w, wipeW, Tg.vars, Tg.varss, Option.map_some, Option.map_none, Option.bind_some, Option.bind_none, List.any_cons, List.any_nil, List.all_cons, List.all_nil, List.map_cons, List.map_nil, List.length_cons, List.length_nil, List.getElem?_cons_zero, List.getElem?_cons_succ, List.getElem?_nil, List.set_cons_zero, List.set_cons_succ, List.replicate, List.cons_append, List.nil_append, Nat.reduceAdd, Nat.reduceSub, Nat.reduceLT, Nat.reduceLeDiff, Nat.lt_add_one, reduceCtorEq, if_true, if_false, ite_true, ite_false, Bool.not_true, Bool.not_false, Bool.true_or, Bool.false_or, Bool.or_false, Bool.or_true, Bool.and_true, Bool.true_and, Bool.false_and, Bool.and_false]
/-! ### holds -/
def hbody (n : Nat) : W → Env → Hw → Out := fun x σ h => match bindT (.tup [.var 2, .var 3]) x σ with
  | some σ => exSs ⟨callF Tt con fuel n, con, fuel⟩ [.ite (.and [(.cmp .le (.var 2) (.var 1)), (.or [(.isn (.var 3)), (.cmp .le (.var 1) (.var 3))])]) [
      .ret (.bl true)] []] σ h
  | none => .bad
theorem hbody_ok (n : Nat) (h : Hw) (a s2 s3 : Sl) (x : Int) (s : Spn) : hbody (con := con) (fuel := fuel) n (sW s) [a, .v (.int x), s2, s3] h = if inS x s then .ret (.bl true) h else .next [a, .v (.int x), .v (.int s.1), .v (optW s.2)] h := by
  obtain ⟨l, o⟩ := s
  by_cases h1 : l ≤ x
  · cases o with
    | none => simp [hbody, sW, optW, exSs, exS, ev, evs, evo, evc, evAnd, evOr, evSrc, fin, bind_ok, of_ok, then_ok, still_ok, runFn, finFn, bindT, bindTs, look, lookO, truW, view, plOf, Pl.get, Pl.put, Pl.isLst, appOb, setOb, setOwn, isN, isB, Md.sub, Md.neg, binW, cmpW, ltW, gtW, leW, ixW, slW, intW, biW, clsW, isTy, rngW, seqW, Ob.w, wipeW, Tg.vars, Tg.varss, Option.map_some, Option.map_none, Option.bind_some, Option.bind_none, List.any_cons, List.any_nil, List.all_cons, List.all_nil, List.map_cons, List.map_nil, List.length_cons, List.length_nil, List.getElem?_cons_zero, List.getElem?_cons_succ, List.getElem?_nil, List.set_cons_zero, List.set_cons_succ, List.replicate, List.cons_append, List.nil_append, Nat.reduceAdd, Nat.reduceSub, Nat.reduceLT, Nat.reduceLeDiff, Nat.lt_add_one, reduceCtorEq, if_true, if_false, ite_true, ite_false, Bool.not_true, Bool.not_false, Bool.true_or, Bool.false_or, Bool.or_false, Bool.or_true, Bool.and_true, Bool.true_and, Bool.false_and, Bool.and_false, inS, h1]
    | some y => by_cases h2 : x ≤ y <;> simp [hbody, sW, optW, exSs, exS, ev, evs, evo, evc, evAnd, evOr, evSrc, fin, bind_ok, of_ok, then_ok, still_ok, runFn, finFn, bindT, bindTs, look, lookO, truW, view, plOf, Pl.get, Pl.put, Pl.isLst, appOb, setOb, setOwn, isN, isB, Md.sub, Md.neg, binW, cmpW, ltW, gtW, leW, ixW, slW, intW, biW, clsW, isTy, rngW, seqW, Ob.w, wipeW, Tg.vars, Tg.varss, Option.map_some, Option.map_none, Option.bind_some, Option.bind_none, List.any_cons, List.any_nil, List.all_cons, List.all_nil, List.map_cons, List.map_nil, List.length_cons, List.length_nil, List.getElem?_cons_zero, List.getElem?_cons_succ, List.getElem?_nil, List.set_cons_zero, List.set_cons_succ, List.replicate, List.cons_append, List.nil_append, Nat.reduceAdd, Nat.reduceSub, Nat.reduceLT, Nat.reduceLeDiff, Nat.lt_add_one, reduceCtorEq, if_true, if_false, ite_true, ite_false, Bool.not_true, Bool.not_false, Bool.true_or, Bool.false_or, Bool.or_false, Bool.or_true, Bool.and_true, Bool.true_and, Bool.false_and, Bool.and_false, inS, h1, h2]
  · simp [hbody, sW, optW, exSs, exS, ev, evs, evo, evc, evAnd, evOr, evSrc, fin, bind_ok, of_ok, then_ok, still_ok, runFn, finFn, bindT, bindTs, look, lookO, truW, view, plOf, Pl.get, Pl.put, Pl.isLst, appOb, setOb, setOwn, isN, isB, Md.sub, Md.neg, binW, cmpW, ltW, gtW, leW, ixW, slW, intW, biW, clsW, isTy, rngW, seqW, Ob.w, wipeW, Tg.vars, Tg.varss, Option.map_some, Option.map_none, Option.bind_some, Option.bind_none, List.any_cons, List.any_nil, List.all_cons, List.all_nil, List.map_cons, List.map_nil, List.length_cons, List.length_nil, List.getElem?_cons_zero, List.getElem?_cons_succ, List.getElem?_nil, List.set_cons_zero, List.set_cons_succ, List.replicate, List.cons_append, List.nil_append, Nat.reduceAdd, Nat.reduceSub, Nat.reduceLT, Nat.reduceLeDiff, Nat.lt_add_one, reduceCtorEq, if_true, if_false, ite_true, ite_false, Bool.not_true, Bool.not_false, Bool.true_or, Bool.false_or, Bool.or_false, Bool.or_true, Bool.and_true, Bool.true_and, Bool.false_and, Bool.and_false, inS, h1]
theorem hloop (n : Nat) (h : Hw) (a : Sl) (x : Int) : ∀ (ss : List Spn) (s2 s3 : Sl), (ss.any (inS x) = true → forRun (hbody (con := con) (fuel := fuel) n) (ss.map sW) [a, .v (.int x), s2, s3] h = .ret (.bl true) h) ∧
    (ss.any (inS x) = false → ∃ t2 t3, forRun (hbody (con := con) (fuel := fuel) n) (ss.map sW) [a, .v (.int x), s2, s3] h = .next [a, .v (.int x), t2, t3] h)
  | [], s2, s3 => ⟨(fun e => by cases e), fun _ => ⟨s2, s3, rfl⟩⟩
  | s :: ss, s2, s3 => by
    have hb := hbody_ok (con := con) (fuel := fuel) n h a s2 s3 x s
    obtain ⟨i1, i2⟩ := hloop n h a x ss (.v (.int s.1)) (.v (optW s.2))
    cases q : inS x s with
    | true =>
      rw [q, if_pos rfl] at hb
      exact ⟨fun _ => for_ret hb, fun e => by simp [q] at e⟩
    | false =>
      rw [q, if_neg (by decide)] at hb
      refine ⟨fun e => for_cons hb (i1 (by simpa [q] using e)), fun e => ?_⟩
      obtain ⟨t2, t3, k⟩ := i2 (by simpa [q] using e)
      exact ⟨t2, t3, for_cons hb k⟩
theorem holds_ok (n : Nat) (h : Hw) (ss : List Spn) (x : Int) : callF Tt con fuel (n + 1) "holds" [setW ss, .int x] h = .ok (.bl (ss.any (inS x))) h := by
  rw [call_of t_holds]
  refine run_ret rfl ⟨rfl, by decide⟩ ?_
  obtain ⟨i1, i2⟩ := hloop (con := con) (fuel := fuel) n h (.v (setW ss)) x ss .no .no
  have fe := for_eq (C := ⟨callF Tt con fuel n, con, fuel⟩) (t := .tup [.var 2, .var 3]) (s := .of (.var 0)) (b := [.ite (.and [(.cmp .le (.var 2) (.var 1)), (.or [(.isn (.var 3)), (.cmp .le (.var 1) (.var 3))])]) [
      .ret (.bl true)] []]) (σ := [.v (setW ss), .v (.int x), .no, .no]) (h := h) (ws := ss.map sW) (h1 := h) (by simp [exSs, exS, ev, evs, evo, evc, evAnd, evOr, evSrc, fin, bind_ok, of_ok, then_ok, still_ok, runFn, finFn, bindT, bindTs, look, lookO, truW, view, plOf, Pl.get, Pl.put, Pl.isLst, appOb, setOb, setOwn, isN, isB, Md.sub, Md.neg, binW, cmpW, ltW, gtW, leW, ixW, slW, intW, biW, clsW, isTy, rngW, seqW, Ob.w, wipeW, Tg.vars, Tg.varss, Option.map_some, Option.map_none, Option.bind_some, Option.bind_none, List.any_cons, List.any_nil, List.all_cons, List.all_nil, List.map_cons, List.map_nil, List.length_cons, List.length_nil, List.getElem?_cons_zero, List.getElem?_cons_succ, List.getElem?_nil, List.set_cons_zero, List.set_cons_succ, List.replicate, List.cons_append, List.nil_append, Nat.reduceAdd, Nat.reduceSub, Nat.reduceLT, Nat.reduceLeDiff, Nat.lt_add_one, reduceCtorEq, if_true, if_false, ite_true, ite_false, Bool.not_true, Bool.not_false, Bool.true_or, Bool.false_or, Bool.or_false, Bool.or_true, Bool.and_true, Bool.true_and, Bool.false_and, Bool.and_false, setW])
  cases q : ss.any (inS x) with
  | true => exact seq_ret (fe.trans (i1 q))
  | false =>
    obtain ⟨t2, t3, k⟩ := i2 q
    exact seq_next (fe.trans k) (by simp [exSs, exS, ev, evs, evo, evc, evAnd, evOr, evSrc, fin, bind_ok, of_ok, then_ok, still_ok, runFn, finFn, bindT, bindTs, look, lookO, truW, view, plOf, Pl.get, Pl.put, Pl.isLst, appOb, setOb, setOwn, isN, isB, Md.sub, Md.neg, binW, cmpW, ltW, gtW, leW, ixW, slW, intW, biW, clsW, isTy, rngW, seqW, Ob.w, wipeW, Tg.vars, Tg.varss, Option.map_some, Option.map_none, Option.bind_some, Option.bind_none, List.any_cons, List.any_nil, List.all_cons, List.all_nil, List.map_cons, List.map_nil, List.length_cons, List.length_nil, List.getElem?_cons_zero, List.getElem?_cons_succ, List.getElem?_nil, List.set_cons_zero, List.set_cons_succ, List.replicate, List.cons_append, List.nil_append, Nat.reduceAdd, Nat.reduceSub, Nat.reduceLT, Nat.reduceLeDiff, Nat.lt_add_one, reduceCtorEq, if_true, if_false, ite_true, ite_false, Bool.not_true, Bool.not_false, Bool.true_or, Bool.false_or, Bool.or_false, Bool.or_true, Bool.and_true, Bool.true_and, Bool.false_and, Bool.and_false])
/-! ### _law_in -/
theorem filterMap_some {α β : Type} (f : α → β) : ∀ l : List α, l.filterMap (fun x => some (f x)) = l.map f
  | [] => rfl
  | x :: l => by simp
theorem bls_map {α : Type} (f : α → Bool) : ∀ l : List α, blsW (l.map fun x => W.bl (f x)) = some (l.map f)
  | [] => rfl
  | x :: l => by
    rw [List.map_cons]
    unfold blsW
    rw [bls_map f l]
    rfl
theorem in_ok (n : Nat) (h : Hw) (ss : List Spn) (x : Int) (hl : ss.length < 1000) : callF Tt con fuel (n + 1) "_law_in" [.lst (ss.map sW), .int x] h = .ok (.bl (ss.any (inS x))) h := by
  rw [call_of t_in]
  refine run_ret rfl ⟨rfl, by decide⟩ ?_
  have hz : sizeLine = 16777216 := by decide
  have e := lc_ok (f := lcT ⟨callF Tt con fuel n, con, fuel⟩ [.v (.lst (ss.map sW)), .v (.int x), .no, .no] (.and [(.cmp .le (.var 2) (.var 1)), (.or [(.isn (.var 3)), (.cmp .le (.var 1) (.var 3))])]) (.tup [.var 2, .var 3]) .none) (g := fun w => match w with
    | .tup [.int l, o] => some (.bl (decide (l ≤ x) && (match o with
      | .int y => decide (x ≤ y)
      | _ => true)))
    | _ => none) (h := h) (ws := ss.map sW) (fun w hw => by
      obtain ⟨⟨l, o⟩, _, rfl⟩ := List.mem_map.mp hw
      by_cases h1 : l ≤ x
      · cases o <;> simp [lcT, sW, optW, exSs, exS, ev, evs, evo, evc, evAnd, evOr, evSrc, fin, bind_ok, of_ok, then_ok, still_ok, runFn, finFn, bindT, bindTs, look, lookO, truW, view, plOf, Pl.get, Pl.put, Pl.isLst, appOb, setOb, setOwn, isN, isB, Md.sub, Md.neg, binW, cmpW, ltW, gtW, leW, ixW, slW, intW, biW, clsW, isTy, rngW, seqW, Ob.w, wipeW, Tg.vars, Tg.varss, Option.map_some, Option.map_none, Option.bind_some, Option.bind_none, List.any_cons, List.any_nil, List.all_cons, List.all_nil, List.map_cons, List.map_nil, List.length_cons, List.length_nil, List.getElem?_cons_zero, List.getElem?_cons_succ, List.getElem?_nil, List.set_cons_zero, List.set_cons_succ, List.replicate, List.cons_append, List.nil_append, Nat.reduceAdd, Nat.reduceSub, Nat.reduceLT, Nat.reduceLeDiff, Nat.lt_add_one, reduceCtorEq, if_true, if_false, ite_true, ite_false, Bool.not_true, Bool.not_false, Bool.true_or, Bool.false_or, Bool.or_false, Bool.or_true, Bool.and_true, Bool.true_and, Bool.false_and, Bool.and_false, h1]
      · cases o <;> simp [lcT, sW, optW, exSs, exS, ev, evs, evo, evc, evAnd, evOr, evSrc, fin, bind_ok, of_ok, then_ok, still_ok, runFn, finFn, bindT, bindTs, look, lookO, truW, view, plOf, Pl.get, Pl.put, Pl.isLst, appOb, setOb, setOwn, isN, isB, Md.sub, Md.neg, binW, cmpW, ltW, gtW, leW, ixW, slW, intW, biW, clsW, isTy, rngW, seqW, Ob.w, wipeW, Tg.vars, Tg.varss, Option.map_some, Option.map_none, Option.bind_some, Option.bind_none, List.any_cons, List.any_nil, List.all_cons, List.all_nil, List.map_cons, List.map_nil, List.length_cons, List.length_nil, List.getElem?_cons_zero, List.getElem?_cons_succ, List.getElem?_nil, List.set_cons_zero, List.set_cons_succ, List.replicate, List.cons_append, List.nil_append, Nat.reduceAdd, Nat.reduceSub, Nat.reduceLT, Nat.reduceLeDiff, Nat.lt_add_one, reduceCtorEq, if_true, if_false, ite_true, ite_false, Bool.not_true, Bool.not_false, Bool.true_or, Bool.false_or, Bool.or_false, Bool.or_true, Bool.and_true, Bool.true_and, Bool.false_and, Bool.and_false, h1])
  have e2 : (ss.map sW).filterMap (fun w => match w with
    | .tup [.int l, o] => some (W.bl (decide (l ≤ x) && (match o with
      | .int y => decide (x ≤ y)
      | _ => true)))
    | _ => none) = ss.map fun s => W.bl (inS x s) := by
    rw [List.filterMap_map, ← filterMap_some]
    congr 1
    funext s
    obtain ⟨l, o⟩ := s
    cases o <;> rfl
  rw [e2] at e
  refine seq_ret (ret_ok (ev_bi1 (by decide) (ev_lc (by decide) (ws := ss.map sW) (h1 := h) (by simp [exSs, exS, ev, evs, evo, evc, evAnd, evOr, evSrc, fin, bind_ok, of_ok, then_ok, still_ok, runFn, finFn, bindT, bindTs, look, lookO, truW, view, plOf, Pl.get, Pl.put, Pl.isLst, appOb, setOb, setOwn, isN, isB, Md.sub, Md.neg, binW, cmpW, ltW, gtW, leW, ixW, slW, intW, biW, clsW, isTy, rngW, seqW, Ob.w, wipeW, Tg.vars, Tg.varss, Option.map_some, Option.map_none, Option.bind_some, Option.bind_none, List.any_cons, List.any_nil, List.all_cons, List.all_nil, List.map_cons, List.map_nil, List.length_cons, List.length_nil, List.getElem?_cons_zero, List.getElem?_cons_succ, List.getElem?_nil, List.set_cons_zero, List.set_cons_succ, List.replicate, List.cons_append, List.nil_append, Nat.reduceAdd, Nat.reduceSub, Nat.reduceLT, Nat.reduceLeDiff, Nat.lt_add_one, reduceCtorEq, if_true, if_false, ite_true, ite_false, Bool.not_true, Bool.not_false, Bool.true_or, Bool.false_or, Bool.or_false, Bool.or_true, Bool.and_true, Bool.true_and, Bool.false_and, Bool.and_false]) (by simp [hz]; omega) e) ?_))
  simp [exSs, exS, ev, evs, evo, evc, evAnd, evOr, evSrc, fin, bind_ok, of_ok, then_ok, still_ok, runFn, finFn, bindT, bindTs, look, lookO, truW, view, plOf, Pl.get, Pl.put, Pl.isLst, appOb, setOb, setOwn, isN, isB, Md.sub, Md.neg, binW, cmpW, ltW, gtW, leW, ixW, slW, intW, biW, clsW, isTy, rngW, seqW, Ob.w, wipeW, Tg.vars, Tg.varss, Option.map_some, Option.map_none, Option.bind_some, Option.bind_none, List.any_cons, List.any_nil, List.all_cons, List.all_nil, List.map_cons, List.map_nil, List.length_cons, List.length_nil, List.getElem?_cons_zero, List.getElem?_cons_succ, List.getElem?_nil, List.set_cons_zero, List.set_cons_succ, List.replicate, List.cons_append, List.nil_append, Nat.reduceAdd, Nat.reduceSub, Nat.reduceLT, Nat.reduceLeDiff, Nat.lt_add_one, reduceCtorEq, if_true, if_false, ite_true, ite_false, Bool.not_true, Bool.not_false, Bool.true_or, Bool.false_or, Bool.or_false, Bool.or_true, Bool.and_true, Bool.true_and, Bool.false_and, Bool.and_false, bls_map]
end Bd
namespace Bd
open PySem PySem.Spec PyProof.Rows L2
variable {con : Str → Option W} {fuel : Nat}
theorem hz : sizeLine = 16777216 := by decide
theorem optW_none : optW none = .non := rfl
theorem optW_some {i : Int} : optW (some i) = .int i := rfl
/-! ### _rest -/
def preS (st l : Int) : List Spn := if st < l then [(st, some (l - 1))] else []
def restS : Int → List Spn → List Spn
  | st, [] => [(st, none)]
  | st, (l, none) :: _ => preS st l
  | st, (l, some y) :: r => preS st l ++ restS (y + 1) r
def rbody (n : Nat) : W → Env → Hw → Out := fun x σ h => match bindT (.tup [.var 3, .var 4]) x σ with
  | some σ => exSs ⟨callF Tt con fuel n, con, fuel⟩ [.ite (.cmp .lt (.var 2) (.var 3)) [
      .app (.var 1) (.tup [(.var 2), (.bin .sub (.var 3) (.int 1))])] [],
    .ite (.isn (.var 4)) [
      .ret (.bi .tuple [(.var 1)])] [],
    .asg (.var 2) (.bin .add (.var 4) (.int 1))] σ h
  | none => .bad
theorem rbody_none (n : Nat) (h : Hw) (a s3 s4 : Sl) (fs : List Spn) (st l : Int) (hl : fs.length < 1000) : rbody (con := con) (fuel := fuel) n (sW (l, none)) [a, .own (.lst (fs.map sW)), .v (.int st), s3, s4] h = .ret (setW (fs ++ preS st l)) h := by
  have h2 : fs.length < 16777216 := by omega
  by_cases q : st < l <;> simp [rbody, sW, optW, preS, setW, exSs, exS, ev, evs, evo, evc, evAnd, evOr, evSrc, fin, bind_ok, of_ok, then_ok, still_ok, runFn, finFn, bindT, bindTs, look, lookO, truW, view, plOf, Pl.get, Pl.put, Pl.isLst, appOb, setOb, setOwn, isN, isB, Md.sub, Md.neg, binW, cmpW, ltW, gtW, leW, ixW, slW, intW, biW, clsW, isTy, rngW, seqW, Ob.w, wipeW, Tg.vars, Tg.varss, Option.map_some, Option.map_none, Option.bind_some, Option.bind_none, List.any_cons, List.any_nil, List.all_cons, List.all_nil, List.map_cons, List.map_nil, List.length_cons, List.length_nil, List.getElem?_cons_zero, List.getElem?_cons_succ, List.getElem?_nil, List.set_cons_zero, List.set_cons_succ, List.replicate, List.cons_append, List.nil_append, Nat.reduceAdd, Nat.reduceSub, Nat.reduceLT, Nat.reduceLeDiff, Nat.lt_add_one, reduceCtorEq, if_true, if_false, ite_true, ite_false, Bool.not_true, Bool.not_false, Bool.true_or, Bool.false_or, Bool.or_false, Bool.or_true, Bool.and_true, Bool.true_and, Bool.false_and, Bool.and_false, hz, q, h2]
theorem rbody_some (n : Nat) (h : Hw) (a s3 s4 : Sl) (fs : List Spn) (st l y : Int) (hl : fs.length < 1000) : rbody (con := con) (fuel := fuel) n (sW (l, some y)) [a, .own (.lst (fs.map sW)), .v (.int st), s3, s4] h = .next [a, .own (.lst ((fs ++ preS st l).map sW)), .v (.int (y + 1)), .v (.int l), .v (.int y)] h := by
  have h2 : fs.length < 16777216 := by omega
  by_cases q : st < l <;> simp [rbody, sW, optW, preS, setW, exSs, exS, ev, evs, evo, evc, evAnd, evOr, evSrc, fin, bind_ok, of_ok, then_ok, still_ok, runFn, finFn, bindT, bindTs, look, lookO, truW, view, plOf, Pl.get, Pl.put, Pl.isLst, appOb, setOb, setOwn, isN, isB, Md.sub, Md.neg, binW, cmpW, ltW, gtW, leW, ixW, slW, intW, biW, clsW, isTy, rngW, seqW, Ob.w, wipeW, Tg.vars, Tg.varss, Option.map_some, Option.map_none, Option.bind_some, Option.bind_none, List.any_cons, List.any_nil, List.all_cons, List.all_nil, List.map_cons, List.map_nil, List.length_cons, List.length_nil, List.getElem?_cons_zero, List.getElem?_cons_succ, List.getElem?_nil, List.set_cons_zero, List.set_cons_succ, List.replicate, List.cons_append, List.nil_append, Nat.reduceAdd, Nat.reduceSub, Nat.reduceLT, Nat.reduceLeDiff, Nat.lt_add_one, reduceCtorEq, if_true, if_false, ite_true, ite_false, Bool.not_true, Bool.not_false, Bool.true_or, Bool.false_or, Bool.or_false, Bool.or_true, Bool.and_true, Bool.true_and, Bool.false_and, Bool.and_false, hz, q, h2]
theorem preS_len (st l : Int) : (preS st l).length ≤ 1 := by unfold preS; split <;> simp
theorem rloop (n : Nat) (h : Hw) (a : Sl) : ∀ (ss fs : List Spn) (st : Int) (s3 s4 : Sl), fs.length + ss.length < 1000 → forRun (rbody (con := con) (fuel := fuel) n) (ss.map sW) [a, .own (.lst (fs.map sW)), .v (.int st), s3, s4] h = .ret (setW (fs ++ restS st ss)) h ∨
    ∃ gs st' t3 t4, forRun (rbody (con := con) (fuel := fuel) n) (ss.map sW) [a, .own (.lst (fs.map sW)), .v (.int st), s3, s4] h = .next [a, .own (.lst (gs.map sW)), .v (.int st'), t3, t4] h ∧ gs ++ [(st', none)] = fs ++ restS st ss ∧ gs.length < 1000
  | [], fs, st, s3, s4, hl => .inr ⟨fs, st, s3, s4, rfl, rfl, by simpa using hl⟩
  | (l, none) :: ss, fs, st, s3, s4, hl => .inl (for_ret (rbody_none n h a s3 s4 fs st l (by omega)))
  | (l, some y) :: ss, fs, st, s3, s4, hl => by
    have hl : fs.length + (ss.length + 1) < 1000 := hl
    have hp := preS_len st l
    have b := rbody_some (con := con) (fuel := fuel) n h a s3 s4 fs st l y (by omega)
    rcases rloop n h a ss (fs ++ preS st l) (y + 1) (.v (.int l)) (.v (.int y)) (by rw [List.length_append]; omega) with e | ⟨gs, st', t3, t4, e, e2, e3⟩
    · refine .inl ((for_cons b e).trans ?_)
      rw [List.append_assoc]
      rfl
    · refine .inr ⟨gs, st', t3, t4, for_cons b e, ?_, e3⟩
      rw [e2, List.append_assoc]
      rfl
theorem rest_ok (n : Nat) (h : Hw) (ss : List Spn) (hl : ss.length < 999) : callF Tt con fuel (n + 1) "_rest" [setW ss] h = .ok (setW (restS 0 ss)) h := by
  rw [call_of t_rest]
  refine run_ret rfl ⟨rfl, by decide⟩ ?_
  refine seq_next (σ1 := [.v (setW ss), .own (.lst []), .no, .no, .no]) (h1 := h) (by simp [f__rest, exSs, exS, ev, evs, evo, evc, evAnd, evOr, evSrc, fin, bind_ok, of_ok, then_ok, still_ok, runFn, finFn, bindT, bindTs, look, lookO, truW, view, plOf, Pl.get, Pl.put, Pl.isLst, appOb, setOb, setOwn, isN, isB, Md.sub, Md.neg, binW, cmpW, ltW, gtW, leW, ixW, slW, intW, biW, clsW, isTy, rngW, seqW, Ob.w, wipeW, Tg.vars, Tg.varss, Option.map_some, Option.map_none, Option.bind_some, Option.bind_none, List.any_cons, List.any_nil, List.all_cons, List.all_nil, List.map_cons, List.map_nil, List.length_cons, List.length_nil, List.getElem?_cons_zero, List.getElem?_cons_succ, List.getElem?_nil, List.set_cons_zero, List.set_cons_succ, List.replicate, List.cons_append, List.nil_append, Nat.reduceAdd, Nat.reduceSub, Nat.reduceLT, Nat.reduceLeDiff, Nat.lt_add_one, reduceCtorEq, if_true, if_false, ite_true, ite_false, Bool.not_true, Bool.not_false, Bool.true_or, Bool.false_or, Bool.or_false, Bool.or_true, Bool.and_true, Bool.true_and, Bool.false_and, Bool.and_false, hz]) ?_
  refine seq_next (σ1 := [.v (setW ss), .own (.lst []), .v (.int 0), .no, .no]) (h1 := h) (by simp [exSs, exS, ev, evs, evo, evc, evAnd, evOr, evSrc, fin, bind_ok, of_ok, then_ok, still_ok, runFn, finFn, bindT, bindTs, look, lookO, truW, view, plOf, Pl.get, Pl.put, Pl.isLst, appOb, setOb, setOwn, isN, isB, Md.sub, Md.neg, binW, cmpW, ltW, gtW, leW, ixW, slW, intW, biW, clsW, isTy, rngW, seqW, Ob.w, wipeW, Tg.vars, Tg.varss, Option.map_some, Option.map_none, Option.bind_some, Option.bind_none, List.any_cons, List.any_nil, List.all_cons, List.all_nil, List.map_cons, List.map_nil, List.length_cons, List.length_nil, List.getElem?_cons_zero, List.getElem?_cons_succ, List.getElem?_nil, List.set_cons_zero, List.set_cons_succ, List.replicate, List.cons_append, List.nil_append, Nat.reduceAdd, Nat.reduceSub, Nat.reduceLT, Nat.reduceLeDiff, Nat.lt_add_one, reduceCtorEq, if_true, if_false, ite_true, ite_false, Bool.not_true, Bool.not_false, Bool.true_or, Bool.false_or, Bool.or_false, Bool.or_true, Bool.and_true, Bool.true_and, Bool.false_and, Bool.and_false, hz]) ?_
  have fe := fun b => for_eq (C := ⟨callF Tt con fuel n, con, fuel⟩) (t := .tup [.var 3, .var 4]) (s := .of (.var 0)) (b := b) (σ := [.v (setW ss), .own (.lst []), .v (.int 0), .no, .no]) (h := h) (ws := ss.map sW) (h1 := h) (by simp [exSs, exS, ev, evs, evo, evc, evAnd, evOr, evSrc, fin, bind_ok, of_ok, then_ok, still_ok, runFn, finFn, bindT, bindTs, look, lookO, truW, view, plOf, Pl.get, Pl.put, Pl.isLst, appOb, setOb, setOwn, isN, isB, Md.sub, Md.neg, binW, cmpW, ltW, gtW, leW, ixW, slW, intW, biW, clsW, isTy, rngW, seqW, Ob.w, wipeW, Tg.vars, Tg.varss, Option.map_some, Option.map_none, Option.bind_some, Option.bind_none, List.any_cons, List.any_nil, List.all_cons, List.all_nil, List.map_cons, List.map_nil, List.length_cons, List.length_nil, List.getElem?_cons_zero, List.getElem?_cons_succ, List.getElem?_nil, List.set_cons_zero, List.set_cons_succ, List.replicate, List.cons_append, List.nil_append, Nat.reduceAdd, Nat.reduceSub, Nat.reduceLT, Nat.reduceLeDiff, Nat.lt_add_one, reduceCtorEq, if_true, if_false, ite_true, ite_false, Bool.not_true, Bool.not_false, Bool.true_or, Bool.false_or, Bool.or_false, Bool.or_true, Bool.and_true, Bool.true_and, Bool.false_and, Bool.and_false, setW])
  rcases rloop (con := con) (fuel := fuel) n h (.v (setW ss)) ss [] 0 .no .no (by simp; omega) with e | ⟨gs, st', t3, t4, e, e2, e3⟩
  · exact seq_ret ((fe _).trans e)
  · refine seq_next ((fe _).trans e) ?_
    have h2 : gs.length < 16777216 := by omega
    have e4 : restS 0 ss = gs ++ [(st', none)] := e2.symm
    simp [exSs, exS, ev, evs, evo, evc, evAnd, evOr, evSrc, fin, bind_ok, of_ok, then_ok, still_ok, runFn, finFn, bindT, bindTs, look, lookO, truW, view, plOf, Pl.get, Pl.put, Pl.isLst, appOb, setOb, setOwn, isN, isB, Md.sub, Md.neg, binW, cmpW, ltW, gtW, leW, ixW, slW, intW, biW, clsW, isTy, rngW, seqW, Ob.w, wipeW, Tg.vars, Tg.varss, Option.map_some, Option.map_none, Option.bind_some, Option.bind_none, List.any_cons, List.any_nil, List.all_cons, List.all_nil, List.map_cons, List.map_nil, List.length_cons, List.length_nil, List.getElem?_cons_zero, List.getElem?_cons_succ, List.getElem?_nil, List.set_cons_zero, List.set_cons_succ, List.replicate, List.cons_append, List.nil_append, Nat.reduceAdd, Nat.reduceSub, Nat.reduceLT, Nat.reduceLeDiff, Nat.lt_add_one, reduceCtorEq, if_true, if_false, ite_true, ite_false, Bool.not_true, Bool.not_false, Bool.true_or, Bool.false_or, Bool.or_false, Bool.or_true, Bool.and_true, Bool.true_and, Bool.false_and, Bool.and_false, hz, h2, setW, e4, sW, optW]
/-! ### meet -/
def pairS (a b : Spn) : Option Spn := if (match earlier a.2 b.2 with
  | none => true
  | some y => decide (max a.1 b.1 ≤ y)) then some (max a.1 b.1, earlier a.2 b.2) else none
def ibody (n : Nat) : W → Env → Hw → Out := fun x σ h => match bindT (.tup [.var 5, .var 6]) x σ with
  | some σ => exSs ⟨callF Tt con fuel (n + 1), con, fuel⟩ [.asg (.var 7) (.bi .max2 [(.var 3), (.var 5)]),
      .asg (.var 8) (.call "_earlier" [(.var 4), (.var 6)]),
      .ite (.or [(.isn (.var 8)), (.cmp .le (.var 7) (.var 8))]) [
        .app (.var 2) (.tup [(.var 7), (.var 8)])] []] σ h
  | none => .bad
theorem max2_eq (a b : Int) : (if b > a then b else a) = max a b := by omega
theorem ibody_ok (n : Nat) (h : Hw) (x y s5 s6 s7 s8 : Sl) (fs : List Spn) (a b : Spn) (hl : fs.length < 1000) : ∃ t7 t8, ibody (con := con) (fuel := fuel) n (sW b) [x, y, .own (.lst (fs.map sW)), .v (.int a.1), .v (optW a.2), s5, s6, s7, s8] h =
    .next [x, y, .own (.lst ((fs ++ (pairS a b).toList).map sW)), .v (.int a.1), .v (optW a.2), .v (.int b.1), .v (optW b.2), t7, t8] h := by
  refine ⟨.v (.int (max a.1 b.1)), .v (optW (earlier a.2 b.2)), ?_⟩
  have h2 : fs.length < 16777216 := by omega
  unfold pairS
  cases q : earlier a.2 b.2 with
  | none => simp [ibody, sW, exSs, exS, ev, evs, evo, evc, evAnd, evOr, evSrc, fin, bind_ok, of_ok, then_ok, still_ok, runFn, finFn, bindT, bindTs, look, lookO, truW, view, plOf, Pl.get, Pl.put, Pl.isLst, appOb, setOb, setOwn, isN, isB, Md.sub, Md.neg, binW, cmpW, ltW, gtW, leW, ixW, slW, intW, biW, clsW, isTy, rngW, seqW, Ob.w, wipeW, Tg.vars, Tg.varss, Option.map_some, Option.map_none, Option.bind_some, Option.bind_none, List.any_cons, List.any_nil, List.all_cons, List.all_nil, List.map_cons, List.map_nil, List.length_cons, List.length_nil, List.getElem?_cons_zero, List.getElem?_cons_succ, List.getElem?_nil, List.set_cons_zero, List.set_cons_succ, List.replicate, List.cons_append, List.nil_append, Nat.reduceAdd, Nat.reduceSub, Nat.reduceLT, Nat.reduceLeDiff, Nat.lt_add_one, reduceCtorEq, if_true, if_false, ite_true, ite_false, Bool.not_true, Bool.not_false, Bool.true_or, Bool.false_or, Bool.or_false, Bool.or_true, Bool.and_true, Bool.true_and, Bool.false_and, Bool.and_false, hz, earlier_ok, q, optW_none, optW_some, h2, max2_eq]
  | some z => by_cases q2 : max a.1 b.1 ≤ z <;> simp [ibody, sW, exSs, exS, ev, evs, evo, evc, evAnd, evOr, evSrc, fin, bind_ok, of_ok, then_ok, still_ok, runFn, finFn, bindT, bindTs, look, lookO, truW, view, plOf, Pl.get, Pl.put, Pl.isLst, appOb, setOb, setOwn, isN, isB, Md.sub, Md.neg, binW, cmpW, ltW, gtW, leW, ixW, slW, intW, biW, clsW, isTy, rngW, seqW, Ob.w, wipeW, Tg.vars, Tg.varss, Option.map_some, Option.map_none, Option.bind_some, Option.bind_none, List.any_cons, List.any_nil, List.all_cons, List.all_nil, List.map_cons, List.map_nil, List.length_cons, List.length_nil, List.getElem?_cons_zero, List.getElem?_cons_succ, List.getElem?_nil, List.set_cons_zero, List.set_cons_succ, List.replicate, List.cons_append, List.nil_append, Nat.reduceAdd, Nat.reduceSub, Nat.reduceLT, Nat.reduceLeDiff, Nat.lt_add_one, reduceCtorEq, if_true, if_false, ite_true, ite_false, Bool.not_true, Bool.not_false, Bool.true_or, Bool.false_or, Bool.or_false, Bool.or_true, Bool.and_true, Bool.true_and, Bool.false_and, Bool.and_false, hz, earlier_ok, q, optW_none, optW_some, h2, max2_eq, q2]
theorem iloop (n : Nat) (h : Hw) (x y : Sl) (a : Spn) : ∀ (ss fs : List Spn) (s5 s6 s7 s8 : Sl), fs.length + ss.length < 1000 → ∃ t5 t6 t7 t8, forRun (ibody (con := con) (fuel := fuel) n) (ss.map sW) [x, y, .own (.lst (fs.map sW)), .v (.int a.1), .v (optW a.2), s5, s6, s7, s8] h =
    .next [x, y, .own (.lst ((fs ++ ss.filterMap (pairS a)).map sW)), .v (.int a.1), .v (optW a.2), t5, t6, t7, t8] h
  | [], fs, s5, s6, s7, s8, _ => ⟨s5, s6, s7, s8, by simp [forRun]⟩
  | b :: ss, fs, s5, s6, s7, s8, hl => by
    have hl : fs.length + (ss.length + 1) < 1000 := hl
    obtain ⟨t7, t8, e⟩ := ibody_ok (con := con) (fuel := fuel) n h x y s5 s6 s7 s8 fs a b (by omega)
    have hp : (pairS a b).toList.length ≤ 1 := by cases pairS a b <;> simp
    obtain ⟨u5, u6, u7, u8, k⟩ := iloop n h x y a ss (fs ++ (pairS a b).toList) (.v (.int b.1)) (.v (optW b.2)) t7 t8 (by rw [List.length_append]; omega)
    refine ⟨u5, u6, u7, u8, (for_cons e k).trans ?_⟩
    have : fs ++ (pairS a b).toList ++ ss.filterMap (pairS a) = fs ++ (b :: ss).filterMap (pairS a) := by
      rw [List.filterMap_cons, List.append_assoc]
      cases pairS a b <;> rfl
    rw [this]
def meetP (xs ys : List Spn) : List Spn := xs.flatMap fun a => ys.filterMap (pairS a)
def obody (n : Nat) : W → Env → Hw → Out := fun x σ h => match bindT (.tup [.var 3, .var 4]) x σ with
  | some σ => exSs ⟨callF Tt con fuel (n + 1), con, fuel⟩ [.for_ (.tup [(.var 5), (.var 6)]) (.of (.var 1)) [.asg (.var 7) (.bi .max2 [(.var 3), (.var 5)]),
      .asg (.var 8) (.call "_earlier" [(.var 4), (.var 6)]),
      .ite (.or [(.isn (.var 8)), (.cmp .le (.var 7) (.var 8))]) [
        .app (.var 2) (.tup [(.var 7), (.var 8)])] []]] σ h
  | none => .bad
theorem obody_ok (n : Nat) (h : Hw) (x s3 s4 s5 s6 s7 s8 : Sl) (fs ys : List Spn) (a : Spn) (hl : fs.length + ys.length < 1000) : ∃ t5 t6 t7 t8, obody (con := con) (fuel := fuel) n (sW a) [x, .v (setW ys), .own (.lst (fs.map sW)), s3, s4, s5, s6, s7, s8] h =
    .next [x, .v (setW ys), .own (.lst ((fs ++ ys.filterMap (pairS a)).map sW)), .v (.int a.1), .v (optW a.2), t5, t6, t7, t8] h := by
  obtain ⟨t5, t6, t7, t8, e⟩ := iloop (con := con) (fuel := fuel) n h x (.v (setW ys)) a ys fs s5 s6 s7 s8 hl
  refine ⟨t5, t6, t7, t8, ?_⟩
  have eb : bindT (.tup [.var 3, .var 4]) (sW a) [x, .v (setW ys), .own (.lst (fs.map sW)), s3, s4, s5, s6, s7, s8] = some [x, .v (setW ys), .own (.lst (fs.map sW)), .v (.int a.1), .v (optW a.2), s5, s6, s7, s8] := by simp [sW, exSs, exS, ev, evs, evo, evc, evAnd, evOr, evSrc, fin, bind_ok, of_ok, then_ok, still_ok, runFn, finFn, bindT, bindTs, look, lookO, truW, view, plOf, Pl.get, Pl.put, Pl.isLst, appOb, setOb, setOwn, isN, isB, Md.sub, Md.neg, binW, cmpW, ltW, gtW, leW, ixW, slW, intW, biW, clsW, isTy, rngW, seqW, Ob.w, wipeW, Tg.vars, Tg.varss, Option.map_some, Option.map_none, Option.bind_some, Option.bind_none, List.any_cons, List.any_nil, List.all_cons, List.all_nil, List.map_cons, List.map_nil, List.length_cons, List.length_nil, List.getElem?_cons_zero, List.getElem?_cons_succ, List.getElem?_nil, List.set_cons_zero, List.set_cons_succ, List.replicate, List.cons_append, List.nil_append, Nat.reduceAdd, Nat.reduceSub, Nat.reduceLT, Nat.reduceLeDiff, Nat.lt_add_one, reduceCtorEq, if_true, if_false, ite_true, ite_false, Bool.not_true, Bool.not_false, Bool.true_or, Bool.false_or, Bool.or_false, Bool.or_true, Bool.and_true, Bool.true_and, Bool.false_and, Bool.and_false]
  unfold obody
  rw [eb]
  refine seq_next ((for_eq (ws := ys.map sW) (h1 := h) (by simp [exSs, exS, ev, evs, evo, evc, evAnd, evOr, evSrc, fin, bind_ok, of_ok, then_ok, still_ok, runFn, finFn, bindT, bindTs, look, lookO, truW, view, plOf, Pl.get, Pl.put, Pl.isLst, appOb, setOb, setOwn, isN, isB, Md.sub, Md.neg, binW, cmpW, ltW, gtW, leW, ixW, slW, intW, biW, clsW, isTy, rngW, seqW, Ob.w, wipeW, Tg.vars, Tg.varss, Option.map_some, Option.map_none, Option.bind_some, Option.bind_none, List.any_cons, List.any_nil, List.all_cons, List.all_nil, List.map_cons, List.map_nil, List.length_cons, List.length_nil, List.getElem?_cons_zero, List.getElem?_cons_succ, List.getElem?_nil, List.set_cons_zero, List.set_cons_succ, List.replicate, List.cons_append, List.nil_append, Nat.reduceAdd, Nat.reduceSub, Nat.reduceLT, Nat.reduceLeDiff, Nat.lt_add_one, reduceCtorEq, if_true, if_false, ite_true, ite_false, Bool.not_true, Bool.not_false, Bool.true_or, Bool.false_or, Bool.or_false, Bool.or_true, Bool.and_true, Bool.true_and, Bool.false_and, Bool.and_false, setW])).trans e) ?_
  simp [exSs, exS, ev, evs, evo, evc, evAnd, evOr, evSrc, fin, bind_ok, of_ok, then_ok, still_ok, runFn, finFn, bindT, bindTs, look, lookO, truW, view, plOf, Pl.get, Pl.put, Pl.isLst, appOb, setOb, setOwn, isN, isB, Md.sub, Md.neg, binW, cmpW, ltW, gtW, leW, ixW, slW, intW, biW, clsW, isTy, rngW, seqW, Ob.w, wipeW, Tg.vars, Tg.varss, Option.map_some, Option.map_none, Option.bind_some, Option.bind_none, List.any_cons, List.any_nil, List.all_cons, List.all_nil, List.map_cons, List.map_nil, List.length_cons, List.length_nil, List.getElem?_cons_zero, List.getElem?_cons_succ, List.getElem?_nil, List.set_cons_zero, List.set_cons_succ, List.replicate, List.cons_append, List.nil_append, Nat.reduceAdd, Nat.reduceSub, Nat.reduceLT, Nat.reduceLeDiff, Nat.lt_add_one, reduceCtorEq, if_true, if_false, ite_true, ite_false, Bool.not_true, Bool.not_false, Bool.true_or, Bool.false_or, Bool.or_false, Bool.or_true, Bool.and_true, Bool.true_and, Bool.false_and, Bool.and_false]
theorem fm_len (a : Spn) (ys : List Spn) : (ys.filterMap (pairS a)).length ≤ ys.length := List.length_filterMap_le _ _
theorem oloop (n : Nat) (h : Hw) (x : Sl) (ys : List Spn) (hy : ys.length ≤ 20) : ∀ (xs fs : List Spn) (s3 s4 s5 s6 s7 s8 : Sl), fs.length + 20 * xs.length < 900 → ∃ t3 t4 t5 t6 t7 t8, forRun (obody (con := con) (fuel := fuel) n) (xs.map sW) [x, .v (setW ys), .own (.lst (fs.map sW)), s3, s4, s5, s6, s7, s8] h =
    .next [x, .v (setW ys), .own (.lst ((fs ++ meetP xs ys).map sW)), t3, t4, t5, t6, t7, t8] h
  | [], fs, s3, s4, s5, s6, s7, s8, _ => ⟨s3, s4, s5, s6, s7, s8, by simp [forRun, meetP]⟩
  | a :: xs, fs, s3, s4, s5, s6, s7, s8, hl => by
    have hl : fs.length + 20 * (xs.length + 1) < 900 := hl
    obtain ⟨t5, t6, t7, t8, e⟩ := obody_ok (con := con) (fuel := fuel) n h x s3 s4 s5 s6 s7 s8 fs ys a (by omega)
    have hp := fm_len a ys
    obtain ⟨u3, u4, u5, u6, u7, u8, k⟩ := oloop n h x ys hy xs (fs ++ ys.filterMap (pairS a)) (.v (.int a.1)) (.v (optW a.2)) t5 t6 t7 t8 (by rw [List.length_append]; omega)
    refine ⟨u3, u4, u5, u6, u7, u8, (for_cons e k).trans ?_⟩
    rw [List.append_assoc]
    rfl
theorem meetP_len (ys : List Spn) (hy : ys.length ≤ 20) : ∀ xs : List Spn, (meetP xs ys).length ≤ 20 * xs.length
  | [] => by simp [meetP]
  | a :: xs => by
    have h1 := fm_len a ys
    have h2 := meetP_len ys hy xs
    unfold meetP at h2 ⊢
    rw [List.flatMap_cons, List.length_append, List.length_cons]
    omega
theorem meet_ok (n : Nat) (h : Hw) (xs ys : List Spn) (hx : xs.length ≤ 20) (hy : ys.length ≤ 20) : callF Tt con fuel (n + 3) "meet" [setW xs, setW ys] h = .ok (setW (setOf (meetP xs ys))) h := by
  rw [call_of t_meet]
  refine run_ret rfl ⟨rfl, by decide⟩ ?_
  refine seq_next (σ1 := [.v (setW xs), .v (setW ys), .own (.lst []), .no, .no, .no, .no, .no, .no]) (h1 := h) (by simp [f_meet, exSs, exS, ev, evs, evo, evc, evAnd, evOr, evSrc, fin, bind_ok, of_ok, then_ok, still_ok, runFn, finFn, bindT, bindTs, look, lookO, truW, view, plOf, Pl.get, Pl.put, Pl.isLst, appOb, setOb, setOwn, isN, isB, Md.sub, Md.neg, binW, cmpW, ltW, gtW, leW, ixW, slW, intW, biW, clsW, isTy, rngW, seqW, Ob.w, wipeW, Tg.vars, Tg.varss, Option.map_some, Option.map_none, Option.bind_some, Option.bind_none, List.any_cons, List.any_nil, List.all_cons, List.all_nil, List.map_cons, List.map_nil, List.length_cons, List.length_nil, List.getElem?_cons_zero, List.getElem?_cons_succ, List.getElem?_nil, List.set_cons_zero, List.set_cons_succ, List.replicate, List.cons_append, List.nil_append, Nat.reduceAdd, Nat.reduceSub, Nat.reduceLT, Nat.reduceLeDiff, Nat.lt_add_one, reduceCtorEq, if_true, if_false, ite_true, ite_false, Bool.not_true, Bool.not_false, Bool.true_or, Bool.false_or, Bool.or_false, Bool.or_true, Bool.and_true, Bool.true_and, Bool.false_and, Bool.and_false, hz]) ?_
  obtain ⟨t3, t4, t5, t6, t7, t8, e⟩ := oloop (con := con) (fuel := fuel) (n + 1) h (.v (setW xs)) ys hy xs [] .no .no .no .no .no .no (by simp; omega)
  refine seq_next ((for_eq (ws := xs.map sW) (h1 := h) (by simp [exSs, exS, ev, evs, evo, evc, evAnd, evOr, evSrc, fin, bind_ok, of_ok, then_ok, still_ok, runFn, finFn, bindT, bindTs, look, lookO, truW, view, plOf, Pl.get, Pl.put, Pl.isLst, appOb, setOb, setOwn, isN, isB, Md.sub, Md.neg, binW, cmpW, ltW, gtW, leW, ixW, slW, intW, biW, clsW, isTy, rngW, seqW, Ob.w, wipeW, Tg.vars, Tg.varss, Option.map_some, Option.map_none, Option.bind_some, Option.bind_none, List.any_cons, List.any_nil, List.all_cons, List.all_nil, List.map_cons, List.map_nil, List.length_cons, List.length_nil, List.getElem?_cons_zero, List.getElem?_cons_succ, List.getElem?_nil, List.set_cons_zero, List.set_cons_succ, List.replicate, List.cons_append, List.nil_append, Nat.reduceAdd, Nat.reduceSub, Nat.reduceLT, Nat.reduceLeDiff, Nat.lt_add_one, reduceCtorEq, if_true, if_false, ite_true, ite_false, Bool.not_true, Bool.not_false, Bool.true_or, Bool.false_or, Bool.or_false, Bool.or_true, Bool.and_true, Bool.true_and, Bool.false_and, Bool.and_false, setW])).trans e) ?_
  refine seq_next (σ1 := [.v (setW xs), .v (setW ys), .v (.lst ((meetP xs ys).map sW)), t3, t4, t5, t6, t7, t8]) (h1 := h) (by simp [exSs, exS, ev, evs, evo, evc, evAnd, evOr, evSrc, fin, bind_ok, of_ok, then_ok, still_ok, runFn, finFn, bindT, bindTs, look, lookO, truW, view, plOf, Pl.get, Pl.put, Pl.isLst, appOb, setOb, setOwn, isN, isB, Md.sub, Md.neg, binW, cmpW, ltW, gtW, leW, ixW, slW, intW, biW, clsW, isTy, rngW, seqW, Ob.w, wipeW, Tg.vars, Tg.varss, Option.map_some, Option.map_none, Option.bind_some, Option.bind_none, List.any_cons, List.any_nil, List.all_cons, List.all_nil, List.map_cons, List.map_nil, List.length_cons, List.length_nil, List.getElem?_cons_zero, List.getElem?_cons_succ, List.getElem?_nil, List.set_cons_zero, List.set_cons_succ, List.replicate, List.cons_append, List.nil_append, Nat.reduceAdd, Nat.reduceSub, Nat.reduceLT, Nat.reduceLeDiff, Nat.lt_add_one, reduceCtorEq, if_true, if_false, ite_true, ite_false, Bool.not_true, Bool.not_false, Bool.true_or, Bool.false_or, Bool.or_false, Bool.or_true, Bool.and_true, Bool.true_and, Bool.false_and, Bool.and_false]) ?_
  have hm := meetP_len ys hy xs
  have := set_of_ok (con := con) (fuel := fuel) n h (meetP xs ys) (by omega)
  refine seq_ret (ret_ok ?_)
  simp [exSs, exS, ev, evs, evo, evc, evAnd, evOr, evSrc, fin, bind_ok, of_ok, then_ok, still_ok, runFn, finFn, bindT, bindTs, look, lookO, truW, view, plOf, Pl.get, Pl.put, Pl.isLst, appOb, setOb, setOwn, isN, isB, Md.sub, Md.neg, binW, cmpW, ltW, gtW, leW, ixW, slW, intW, biW, clsW, isTy, rngW, seqW, Ob.w, wipeW, Tg.vars, Tg.varss, Option.map_some, Option.map_none, Option.bind_some, Option.bind_none, List.any_cons, List.any_nil, List.all_cons, List.all_nil, List.map_cons, List.map_nil, List.length_cons, List.length_nil, List.getElem?_cons_zero, List.getElem?_cons_succ, List.getElem?_nil, List.set_cons_zero, List.set_cons_succ, List.replicate, List.cons_append, List.nil_append, Nat.reduceAdd, Nat.reduceSub, Nat.reduceLT, Nat.reduceLeDiff, Nat.lt_add_one, reduceCtorEq, if_true, if_false, ite_true, ite_false, Bool.not_true, Bool.not_false, Bool.true_or, Bool.false_or, Bool.or_false, Bool.or_true, Bool.and_true, Bool.true_and, Bool.false_and, Bool.and_false, this]
theorem restS_len : ∀ (ss : List Spn) (st : Int), (restS st ss).length ≤ ss.length + 1
  | [], st => by simp [restS]
  | (l, none) :: ss, st => by
    have := preS_len st l
    simp [restS]
    omega
  | (l, some y) :: ss, st => by
    have h1 := preS_len st l
    have h2 := restS_len ss (y + 1)
    simp [restS]
    omega
theorem without_ok (n : Nat) (h : Hw) (xs ys : List Spn) (hx : xs.length ≤ 19) (hy : ys.length ≤ 19) : callF Tt con fuel (n + 4) "without" [setW xs, setW ys] h = .ok (setW (setOf (meetP xs (restS 0 ys)))) h := by
  rw [call_of t_without]
  refine run_ret rfl ⟨rfl, by decide⟩ ?_
  have h1 := rest_ok (con := con) (fuel := fuel) (n + 2) h ys (by omega)
  have h2 := restS_len ys 0
  have h3 := meet_ok (con := con) (fuel := fuel) n h xs (restS 0 ys) (by omega) (by omega)
  refine seq_ret (ret_ok ?_)
  simp [f_without, exSs, exS, ev, evs, evo, evc, evAnd, evOr, evSrc, fin, bind_ok, of_ok, then_ok, still_ok, runFn, finFn, bindT, bindTs, look, lookO, truW, view, plOf, Pl.get, Pl.put, Pl.isLst, appOb, setOb, setOwn, isN, isB, Md.sub, Md.neg, binW, cmpW, ltW, gtW, leW, ixW, slW, intW, biW, clsW, isTy, rngW, seqW, Ob.w, wipeW, Tg.vars, Tg.varss, Option.map_some, Option.map_none, Option.bind_some, Option.bind_none, List.any_cons, List.any_nil, List.all_cons, List.all_nil, List.map_cons, List.map_nil, List.length_cons, List.length_nil, List.getElem?_cons_zero, List.getElem?_cons_succ, List.getElem?_nil, List.set_cons_zero, List.set_cons_succ, List.replicate, List.cons_append, List.nil_append, Nat.reduceAdd, Nat.reduceSub, Nat.reduceLT, Nat.reduceLeDiff, Nat.lt_add_one, reduceCtorEq, if_true, if_false, ite_true, ite_false, Bool.not_true, Bool.not_false, Bool.true_or, Bool.false_or, Bool.or_false, Bool.or_true, Bool.and_true, Bool.true_and, Bool.false_and, Bool.and_false, h1, h3]
theorem join_ok (n : Nat) (h : Hw) (xs ys : List Spn) (hx : xs.length ≤ 400) (hy : ys.length ≤ 400) : callF Tt con fuel (n + 3) "join" [setW xs, setW ys] h = .ok (setW (setOf (xs ++ ys))) h := by
  rw [call_of t_join]
  refine run_ret rfl ⟨rfl, by decide⟩ ?_
  have h3 := set_of_ok (con := con) (fuel := fuel) n h (xs ++ ys) (by simp; omega)
  have h4 : xs.length + ys.length ≤ 16777216 := by omega
  rw [List.map_append] at h3
  refine seq_ret (ret_ok ?_)
  simp [f_join, exSs, exS, ev, evs, evo, evc, evAnd, evOr, evSrc, fin, bind_ok, of_ok, then_ok, still_ok, runFn, finFn, bindT, bindTs, look, lookO, truW, view, plOf, Pl.get, Pl.put, Pl.isLst, appOb, setOb, setOwn, isN, isB, Md.sub, Md.neg, binW, cmpW, ltW, gtW, leW, ixW, slW, intW, biW, clsW, isTy, rngW, seqW, Ob.w, wipeW, Tg.vars, Tg.varss, Option.map_some, Option.map_none, Option.bind_some, Option.bind_none, List.any_cons, List.any_nil, List.all_cons, List.all_nil, List.map_cons, List.map_nil, List.length_cons, List.length_nil, List.getElem?_cons_zero, List.getElem?_cons_succ, List.getElem?_nil, List.set_cons_zero, List.set_cons_succ, List.replicate, List.cons_append, List.nil_append, Nat.reduceAdd, Nat.reduceSub, Nat.reduceLT, Nat.reduceLeDiff, Nat.lt_add_one, reduceCtorEq, if_true, if_false, ite_true, ite_false, Bool.not_true, Bool.not_false, Bool.true_or, Bool.false_or, Bool.or_false, Bool.or_true, Bool.and_true, Bool.true_and, Bool.false_and, Bool.and_false, setW, hz, h4] at h3 ⊢
  simp [h3, exSs, exS, ev, evs, evo, evc, evAnd, evOr, evSrc, fin, bind_ok, of_ok, then_ok, still_ok, runFn, finFn, bindT, bindTs, look, lookO, truW, view, plOf, Pl.get, Pl.put, Pl.isLst, appOb, setOb, setOwn, isN, isB, Md.sub, Md.neg, binW, cmpW, ltW, gtW, leW, ixW, slW, intW, biW, clsW, isTy, rngW, seqW, Ob.w, wipeW, Tg.vars, Tg.varss, Option.map_some, Option.map_none, Option.bind_some, Option.bind_none, List.any_cons, List.any_nil, List.all_cons, List.all_nil, List.map_cons, List.map_nil, List.length_cons, List.length_nil, List.getElem?_cons_zero, List.getElem?_cons_succ, List.getElem?_nil, List.set_cons_zero, List.set_cons_succ, List.replicate, List.cons_append, List.nil_append, Nat.reduceAdd, Nat.reduceSub, Nat.reduceLT, Nat.reduceLeDiff, Nat.lt_add_one, reduceCtorEq, if_true, if_false, ite_true, ite_false, Bool.not_true, Bool.not_false, Bool.true_or, Bool.false_or, Bool.or_false, Bool.or_true, Bool.and_true, Bool.true_and, Bool.false_and, Bool.and_false, h4]
end Bd
namespace Bd
open PySem PySem.Spec PyProof.Rows L2
variable {con : Str → Option W} {fuel : Nat}
/-! ### _law_told -/
theorem toPys_ints : ∀ ns : List Int, toPys (ns.map W.int) = some (ns.map PyData.int)
  | [] => rfl
  | n :: ns => by
    rw [List.map_cons]
    unfold toPys
    rw [toPys_ints ns]
    rfl
theorem eqv_int (a b : Int) : PyData.eqv (.int a) (.int b) = decide (a = b) := by
  by_cases h : a = b <;> simp [PyData.eqv, h]
theorem inW_ints (x : Int) (ns : List Int) : inW (.int x) (.lst (ns.map W.int)) = some (decide (x ∈ ns)) := by
  show inL _ _ = _
  unfold inL
  rw [toPys_ints]
  show (if (PyData.int x).depth ≤ 64 ∧ PyData.depthAll (ns.map PyData.int) ≤ 63 then some ((ns.map PyData.int).any fun z => PyData.eqv z (.int x)) else none) = _
  rw [if_pos ⟨by show (0 : Nat) ≤ 64; decide, by rw [PySem.W.depth_ints]; decide⟩]
  congr 1
  induction ns with
  | nil => simp
  | cons n ns ih =>
    rw [List.map_cons, List.any_cons, ih, eqv_int]
    by_cases h : n = x <;> simp [h]
    · intro z; exact absurd z.symm h
/-- the runs that end before k, the start of the last one -/
def tld (P : Int → Bool) : Nat → List Spn × Int
  | 0 => ([], 0)
  | k + 1 => (if (P k && !P (k + 1)) = true then (tld P k).1 ++ [(if (P k && !P (k - 1)) = true then (k : Int) else (tld P k).2, if k = 40 then none else some (k : Int))] else (tld P k).1, if (P k && !P (k - 1)) = true then (k : Int) else (tld P k).2)
theorem tld_succ (P : Int → Bool) (k : Nat) : tld P (k + 1) = (if (P k && !P (k + 1)) = true then (tld P k).1 ++ [(if (P k && !P (k - 1)) = true then (k : Int) else (tld P k).2, if k = 40 then none else some (k : Int))] else (tld P k).1, if (P k && !P (k - 1)) = true then (k : Int) else (tld P k).2) := rfl
def tbody (n : Nat) : W → Env → Hw → Out := fun x σ h => match bindT (.var 2) x σ with
  | some σ => exSs ⟨callF Tt con fuel n, con, fuel⟩ [.ite (.and [(.cmp .isin (.var 2) (.var 0)), (.cmp .notin (.bin .sub (.var 2) (.int 1)) (.var 0))]) [
      .asg (.var 3) (.var 2)] [],
    .ite (.and [(.cmp .isin (.var 2) (.var 0)), (.cmp .notin (.bin .add (.var 2) (.int 1)) (.var 0))]) [
      .app (.var 1) (.tup [(.var 3), (.ite (.cmp .eq (.var 2) (.int 40)) .non (.var 2))])] []] σ h
  | none => .bad
theorem tld_len (P : Int → Bool) : ∀ k, (tld P k).1.length ≤ k
  | 0 => Nat.le_refl _
  | k + 1 => by
    have := tld_len P k
    unfold tld
    dsimp only
    split
    · rw [List.length_append, List.length_cons, List.length_nil]; omega
    · omega
theorem eqW_int (a b : Int) : eqW (.int a) (.int b) = some (decide (a = b)) := by
  show (if (PyData.int a).depth ≤ 64 ∧ (PyData.int b).depth ≤ 64 then some (PyData.eqv (.int a) (.int b)) else none) = _
  rw [if_pos ⟨by show (0 : Nat) ≤ 64; decide, by show (0 : Nat) ≤ 64; decide⟩, eqv_int]
theorem tbody_ok (n : Nat) (h : Hw) (ns : List Int) (k : Nat) (hk : k < 41) (s2 s3 : Sl) (hs : decide (((k : Int) - 1) ∈ ns) = true → s3 = .v (.int (tld (fun x => decide (x ∈ ns)) k).2)) :
    ∃ t3, tbody (con := con) (fuel := fuel) n (.int k) [.v (.lst (ns.map W.int)), .own (.lst ((tld (fun x => decide (x ∈ ns)) k).1.map sW)), s2, s3] h = .next [.v (.lst (ns.map W.int)), .own (.lst ((tld (fun x => decide (x ∈ ns)) (k + 1)).1.map sW)), .v (.int k), t3] h ∧ (decide ((k : Int) ∈ ns) = true → t3 = .v (.int (tld (fun x => decide (x ∈ ns)) (k + 1)).2)) := by
  have hl := tld_len (fun x => decide (x ∈ ns)) k
  have hl2 : (tld (fun x => decide (x ∈ ns)) k).1.length < 16777216 := by omega
  rw [tld_succ]
  generalize tld (fun x => decide (x ∈ ns)) k = T at hs hl2 ⊢
  have hk4 : decide ((k : Int) = 40) = decide (k = 40) := by
    by_cases q : k = 40
    · subst q; rfl
    · have : (k : Int) ≠ 40 := by omega
      simp [q, this]
  by_cases p0 : (k : Int) ∈ ns <;> by_cases p1 : ((k : Int) - 1) ∈ ns <;> by_cases p2 : ((k : Int) + 1) ∈ ns
  all_goals
    first
      | (have hs := hs (by simpa using p1); subst hs)
      | skip
    by_cases q : k = 40
    · subst q
      simp at p0 p1 p2
      exact ⟨_, by simp [tbody, exSs, exS, ev, evs, evo, evc, evAnd, evOr, evSrc, fin, bind_ok, of_ok, then_ok, still_ok, runFn, finFn, bindT, bindTs, look, lookO, truW, view, plOf, Pl.get, Pl.put, Pl.isLst, appOb, setOb, setOwn, isN, isB, Md.sub, Md.neg, binW, cmpW, ltW, gtW, leW, ixW, slW, intW, biW, clsW, isTy, rngW, seqW, Ob.w, wipeW, Tg.vars, Tg.varss, Option.map_some, Option.map_none, Option.bind_some, Option.bind_none, List.any_cons, List.any_nil, List.all_cons, List.all_nil, List.map_cons, List.map_nil, List.length_cons, List.length_nil, List.getElem?_cons_zero, List.getElem?_cons_succ, List.getElem?_nil, List.set_cons_zero, List.set_cons_succ, List.replicate, List.cons_append, List.nil_append, Nat.reduceAdd, Nat.reduceSub, Nat.reduceLT, Nat.reduceLeDiff, Nat.lt_add_one, reduceCtorEq, if_true, if_false, ite_true, ite_false, Bool.not_true, Bool.not_false, Bool.true_or, Bool.false_or, Bool.or_false, Bool.or_true, Bool.and_true, Bool.true_and, Bool.false_and, Bool.and_false, inW_ints, eqW_int, hz, p0, p1, p2, hl2, sW, optW]; try rfl, by simp [p0, p1]⟩
    · exact ⟨_, by simp [tbody, exSs, exS, ev, evs, evo, evc, evAnd, evOr, evSrc, fin, bind_ok, of_ok, then_ok, still_ok, runFn, finFn, bindT, bindTs, look, lookO, truW, view, plOf, Pl.get, Pl.put, Pl.isLst, appOb, setOb, setOwn, isN, isB, Md.sub, Md.neg, binW, cmpW, ltW, gtW, leW, ixW, slW, intW, biW, clsW, isTy, rngW, seqW, Ob.w, wipeW, Tg.vars, Tg.varss, Option.map_some, Option.map_none, Option.bind_some, Option.bind_none, List.any_cons, List.any_nil, List.all_cons, List.all_nil, List.map_cons, List.map_nil, List.length_cons, List.length_nil, List.getElem?_cons_zero, List.getElem?_cons_succ, List.getElem?_nil, List.set_cons_zero, List.set_cons_succ, List.replicate, List.cons_append, List.nil_append, Nat.reduceAdd, Nat.reduceSub, Nat.reduceLT, Nat.reduceLeDiff, Nat.lt_add_one, reduceCtorEq, if_true, if_false, ite_true, ite_false, Bool.not_true, Bool.not_false, Bool.true_or, Bool.false_or, Bool.or_false, Bool.or_true, Bool.and_true, Bool.true_and, Bool.false_and, Bool.and_false, inW_ints, eqW_int, hz, p0, p1, p2, hk4, q, hl2, sW, optW]; try rfl, by simp [p0, p1]⟩
end Bd
namespace Bd
open PySem PySem.Spec PyProof.Rows L2
variable {con : Str → Option W} {fuel : Nat}
theorem tloop (n : Nat) (h : Hw) (ns : List Int) : ∀ (m k : Nat) (s2 s3 : Sl), k + m ≤ 41 → (decide (((k : Int) - 1) ∈ ns) = true → s3 = .v (.int (tld (fun x => decide (x ∈ ns)) k).2)) →
    ∃ t2 t3, forRun (tbody (con := con) (fuel := fuel) n) ((List.range' k m).map fun (j : Nat) => W.int (j : Int)) [.v (.lst (ns.map W.int)), .own (.lst ((tld (fun x => decide (x ∈ ns)) k).1.map sW)), s2, s3] h = .next [.v (.lst (ns.map W.int)), .own (.lst ((tld (fun x => decide (x ∈ ns)) (k + m)).1.map sW)), t2, t3] h
  | 0, k, s2, s3, _, _ => ⟨s2, s3, rfl⟩
  | m + 1, k, s2, s3, hm, hs => by
    obtain ⟨t3, e, e3⟩ := tbody_ok (con := con) (fuel := fuel) n h ns k (by omega) s2 s3 hs
    obtain ⟨u2, u3, k2⟩ := tloop n h ns m (k + 1) (.v (.int k)) t3 (by omega) (fun z => e3 (by simpa using z))
    rw [List.range'_succ, List.map_cons]
    refine ⟨u2, u3, (for_cons e k2).trans ?_⟩
    rw [show k + 1 + m = k + (m + 1) by omega]
theorem told_ok (n : Nat) (h : Hw) (ns : List Int) (h1 : (-1 : Int) ∉ ns) : callF Tt con fuel (n + 1) "_law_told" [.lst (ns.map W.int)] h = .ok (setW (tld (fun x => decide (x ∈ ns)) 41).1) h := by
  rw [call_of t_told]
  refine run_ret rfl ⟨rfl, by decide⟩ ?_
  refine seq_next (σ1 := [.v (.lst (ns.map W.int)), .own (.lst []), .no, .no]) (h1 := h) (by simp [f__law_told, exSs, exS, ev, evs, evo, evc, evAnd, evOr, evSrc, fin, bind_ok, of_ok, then_ok, still_ok, runFn, finFn, bindT, bindTs, look, lookO, truW, view, plOf, Pl.get, Pl.put, Pl.isLst, appOb, setOb, setOwn, isN, isB, Md.sub, Md.neg, binW, cmpW, ltW, gtW, leW, ixW, slW, intW, biW, clsW, isTy, rngW, seqW, Ob.w, wipeW, Tg.vars, Tg.varss, Option.map_some, Option.map_none, Option.bind_some, Option.bind_none, List.any_cons, List.any_nil, List.all_cons, List.all_nil, List.map_cons, List.map_nil, List.length_cons, List.length_nil, List.getElem?_cons_zero, List.getElem?_cons_succ, List.getElem?_nil, List.set_cons_zero, List.set_cons_succ, List.replicate, List.cons_append, List.nil_append, Nat.reduceAdd, Nat.reduceSub, Nat.reduceLT, Nat.reduceLeDiff, Nat.lt_add_one, reduceCtorEq, if_true, if_false, ite_true, ite_false, Bool.not_true, Bool.not_false, Bool.true_or, Bool.false_or, Bool.or_false, Bool.or_true, Bool.and_true, Bool.true_and, Bool.false_and, Bool.and_false, hz]) ?_
  obtain ⟨t2, t3, e⟩ := tloop (con := con) (fuel := fuel) n h ns 41 0 .no .no (by omega) (fun z => absurd (of_decide_eq_true z) (by simpa using h1))
  refine seq_next ((for_eq (ws := (List.range' 0 41).map fun (j : Nat) => W.int (j : Int)) (h1 := h) (by simp [exSs, exS, ev, evs, evo, evc, evAnd, evOr, evSrc, fin, bind_ok, of_ok, then_ok, still_ok, runFn, finFn, bindT, bindTs, look, lookO, truW, view, plOf, Pl.get, Pl.put, Pl.isLst, appOb, setOb, setOwn, isN, isB, Md.sub, Md.neg, binW, cmpW, ltW, gtW, leW, ixW, slW, intW, biW, clsW, isTy, rngW, seqW, Ob.w, wipeW, Tg.vars, Tg.varss, Option.map_some, Option.map_none, Option.bind_some, Option.bind_none, List.any_cons, List.any_nil, List.all_cons, List.all_nil, List.map_cons, List.map_nil, List.length_cons, List.length_nil, List.getElem?_cons_zero, List.getElem?_cons_succ, List.getElem?_nil, List.set_cons_zero, List.set_cons_succ, List.replicate, List.cons_append, List.nil_append, Nat.reduceAdd, Nat.reduceSub, Nat.reduceLT, Nat.reduceLeDiff, Nat.lt_add_one, reduceCtorEq, if_true, if_false, ite_true, ite_false, Bool.not_true, Bool.not_false, Bool.true_or, Bool.false_or, Bool.or_false, Bool.or_true, Bool.and_true, Bool.true_and, Bool.false_and, Bool.and_false, List.range_eq_range'])).trans e) ?_
  simp [exSs, exS, ev, evs, evo, evc, evAnd, evOr, evSrc, fin, bind_ok, of_ok, then_ok, still_ok, runFn, finFn, bindT, bindTs, look, lookO, truW, view, plOf, Pl.get, Pl.put, Pl.isLst, appOb, setOb, setOwn, isN, isB, Md.sub, Md.neg, binW, cmpW, ltW, gtW, leW, ixW, slW, intW, biW, clsW, isTy, rngW, seqW, Ob.w, wipeW, Tg.vars, Tg.varss, Option.map_some, Option.map_none, Option.bind_some, Option.bind_none, List.any_cons, List.any_nil, List.all_cons, List.all_nil, List.map_cons, List.map_nil, List.length_cons, List.length_nil, List.getElem?_cons_zero, List.getElem?_cons_succ, List.getElem?_nil, List.set_cons_zero, List.set_cons_succ, List.replicate, List.cons_append, List.nil_append, Nat.reduceAdd, Nat.reduceSub, Nat.reduceLT, Nat.reduceLeDiff, Nat.lt_add_one, reduceCtorEq, if_true, if_false, ite_true, ite_false, Bool.not_true, Bool.not_false, Bool.true_or, Bool.false_or, Bool.or_false, Bool.or_true, Bool.and_true, Bool.true_and, Bool.false_and, Bool.and_false, setW]
/-! ### drawing -/
def D (ns : List Int) (a : Nat) (b c : Int) : Ob := .lst [.lst (ns.map W.int), .int a, .int b, .int c]
theorem draw_ok (n : Nat) (ns : List Int) (hl : ns.length ≤ 63) : callF Tt con fuel (n + 1) "_law_draw" [.lst (ns.map W.int)] [] = .ok (.ref 0) [D ns 0 0 17] := by
  rw [call_of t_draw]
  refine run_ret rfl ⟨rfl, by decide⟩ ?_
  have h2 : ns.length ≤ 16777216 := by omega
  simp [f__law_draw, exSs, exS, ev, evs, evo, evc, evAnd, evOr, evSrc, fin, bind_ok, of_ok, then_ok, still_ok, runFn, finFn, bindT, bindTs, look, lookO, truW, view, plOf, Pl.get, Pl.put, Pl.isLst, appOb, setOb, setOwn, isN, isB, Md.sub, Md.neg, binW, cmpW, ltW, gtW, leW, ixW, slW, intW, biW, clsW, isTy, rngW, seqW, Ob.w, wipeW, Tg.vars, Tg.varss, Option.map_some, Option.map_none, Option.bind_some, Option.bind_none, List.any_cons, List.any_nil, List.all_cons, List.all_nil, List.map_cons, List.map_nil, List.length_cons, List.length_nil, List.getElem?_cons_zero, List.getElem?_cons_succ, List.getElem?_nil, List.set_cons_zero, List.set_cons_succ, List.replicate, List.cons_append, List.nil_append, Nat.reduceAdd, Nat.reduceSub, Nat.reduceLT, Nat.reduceLeDiff, Nat.lt_add_one, reduceCtorEq, if_true, if_false, ite_true, ite_false, Bool.not_true, Bool.not_false, Bool.true_or, Bool.false_or, Bool.or_false, Bool.or_true, Bool.and_true, Bool.true_and, Bool.false_and, Bool.and_false, hz, h2, D]
theorem atI_2 {α : Type} {x y z : α} {xs : List α} : L2.atI (x :: y :: z :: xs) 2 = some z := atI_nat (j := 2) rfl
theorem atI_3 {α : Type} {x y z u : α} {xs : List α} : L2.atI (x :: y :: z :: u :: xs) 3 = some u := atI_nat (j := 3) rfl
theorem fmod_in {a m : Int} (h : 0 < m) : 0 ≤ a.fmod m ∧ a.fmod m < m := ⟨Int.fmod_nonneg_of_pos a h, Int.fmod_lt_of_pos a h⟩
theorem ix4_1 : L2.ixN 4 1 = some 1 := by decide
theorem ix4_2 : L2.ixN 4 2 = some 2 := by decide
theorem ix4_3 : L2.ixN 4 3 = some 3 := by decide
theorem next_ok (n : Nat) (ns : List Int) (a : Nat) (b c m : Int) (h0 : 0 < m) (h1 : m < 1000) : ∃ r a' b' c', callF Tt con fuel (n + 1) "_law_next" [.ref 0, .int m] [D ns a b c] = .ok (.int r) [D ns a' b' c'] ∧ 0 ≤ r ∧ r < m := by
  rw [call_of t_next]
  have m1 : ¬ m = 0 := by omega
  have m2 : m.natAbs < 1073741824 := by omega
  by_cases q : 0 < b
  · refine ⟨b.fmod m, a, b.fdiv m, c, run_ret rfl ⟨rfl, by decide⟩ ?_, fmod_in h0⟩
    simp [f__law_next, exSs, exS, ev, evs, evo, evc, evAnd, evOr, evSrc, fin, bind_ok, of_ok, then_ok, still_ok, runFn, finFn, bindT, bindTs, look, lookO, truW, view, plOf, Pl.get, Pl.put, Pl.isLst, appOb, setOb, setOwn, isN, isB, Md.sub, Md.neg, binW, cmpW, ltW, gtW, leW, ixW, slW, intW, biW, clsW, isTy, rngW, seqW, Ob.w, wipeW, Tg.vars, Tg.varss, Option.map_some, Option.map_none, Option.bind_some, Option.bind_none, List.any_cons, List.any_nil, List.all_cons, List.all_nil, List.map_cons, List.map_nil, List.length_cons, List.length_nil, List.getElem?_cons_zero, List.getElem?_cons_succ, List.getElem?_nil, List.set_cons_zero, List.set_cons_succ, List.replicate, List.cons_append, List.nil_append, Nat.reduceAdd, Nat.reduceSub, Nat.reduceLT, Nat.reduceLeDiff, Nat.lt_add_one, reduceCtorEq, if_true, if_false, ite_true, ite_false, Bool.not_true, Bool.not_false, Bool.true_or, Bool.false_or, Bool.or_false, Bool.or_true, Bool.and_true, Bool.true_and, Bool.false_and, Bool.and_false, D, atI_2, q, m1, m2, ix4_2]
  · by_cases q2 : a < ns.length
    · have e1 : L2.atI (ns.map W.int) (a : Int) = some (.int ns[a]) := atI_nat (by rw [List.getElem?_map, List.getElem?_eq_getElem q2]; rfl)
      generalize hc : (if ns[a] < 0 then -ns[a] else ns[a]) = cell
      have q3 : (a : Int) < (ns.length : Int) := by omega
      by_cases q4 : (1000000000000000000 : Int) ≤ cell
      · refine ⟨cell.fmod m, a + 1, cell.fdiv m, c, run_ret rfl ⟨rfl, by decide⟩ ?_, fmod_in h0⟩
        simp [f__law_next, exSs, exS, ev, evs, evo, evc, evAnd, evOr, evSrc, fin, bind_ok, of_ok, then_ok, still_ok, runFn, finFn, bindT, bindTs, look, lookO, truW, view, plOf, Pl.get, Pl.put, Pl.isLst, appOb, setOb, setOwn, isN, isB, Md.sub, Md.neg, binW, cmpW, ltW, gtW, leW, ixW, slW, intW, biW, clsW, isTy, rngW, seqW, Ob.w, wipeW, Tg.vars, Tg.varss, Option.map_some, Option.map_none, Option.bind_some, Option.bind_none, List.any_cons, List.any_nil, List.all_cons, List.all_nil, List.map_cons, List.map_nil, List.length_cons, List.length_nil, List.getElem?_cons_zero, List.getElem?_cons_succ, List.getElem?_nil, List.set_cons_zero, List.set_cons_succ, List.replicate, List.cons_append, List.nil_append, Nat.reduceAdd, Nat.reduceSub, Nat.reduceLT, Nat.reduceLeDiff, Nat.lt_add_one, reduceCtorEq, if_true, if_false, ite_true, ite_false, Bool.not_true, Bool.not_false, Bool.true_or, Bool.false_or, Bool.or_false, Bool.or_true, Bool.and_true, Bool.true_and, Bool.false_and, Bool.and_false, D, atI_0, atI_1, atI_2, atI_3, q, q2, q3, m1, m2, ix4_1, ix4_2, ix4_3, e1, hc, q4]
      · refine ⟨((((c * 48271 + cell + 11).fmod 2147483647 * 69621).fmod 2147483629).fdiv 7).fmod m, a + 1, b, (c * 48271 + cell + 11).fmod 2147483647, run_ret rfl ⟨rfl, by decide⟩ ?_, fmod_in h0⟩
        simp [f__law_next, exSs, exS, ev, evs, evo, evc, evAnd, evOr, evSrc, fin, bind_ok, of_ok, then_ok, still_ok, runFn, finFn, bindT, bindTs, look, lookO, truW, view, plOf, Pl.get, Pl.put, Pl.isLst, appOb, setOb, setOwn, isN, isB, Md.sub, Md.neg, binW, cmpW, ltW, gtW, leW, ixW, slW, intW, biW, clsW, isTy, rngW, seqW, Ob.w, wipeW, Tg.vars, Tg.varss, Option.map_some, Option.map_none, Option.bind_some, Option.bind_none, List.any_cons, List.any_nil, List.all_cons, List.all_nil, List.map_cons, List.map_nil, List.length_cons, List.length_nil, List.getElem?_cons_zero, List.getElem?_cons_succ, List.getElem?_nil, List.set_cons_zero, List.set_cons_succ, List.replicate, List.cons_append, List.nil_append, Nat.reduceAdd, Nat.reduceSub, Nat.reduceLT, Nat.reduceLeDiff, Nat.lt_add_one, reduceCtorEq, if_true, if_false, ite_true, ite_false, Bool.not_true, Bool.not_false, Bool.true_or, Bool.false_or, Bool.or_false, Bool.or_true, Bool.and_true, Bool.true_and, Bool.false_and, Bool.and_false, D, atI_0, atI_1, atI_2, atI_3, q, q2, q3, m1, m2, ix4_1, ix4_2, ix4_3, e1, hc, q4]
    · have q3 : ¬ (a : Int) < (ns.length : Int) := by omega
      refine ⟨((((c * 48271 + 12345).fmod 2147483647 * 69621).fmod 2147483629).fdiv 7).fmod m, a, b, (c * 48271 + 12345).fmod 2147483647, run_ret rfl ⟨rfl, by decide⟩ ?_, fmod_in h0⟩
      simp [f__law_next, exSs, exS, ev, evs, evo, evc, evAnd, evOr, evSrc, fin, bind_ok, of_ok, then_ok, still_ok, runFn, finFn, bindT, bindTs, look, lookO, truW, view, plOf, Pl.get, Pl.put, Pl.isLst, appOb, setOb, setOwn, isN, isB, Md.sub, Md.neg, binW, cmpW, ltW, gtW, leW, ixW, slW, intW, biW, clsW, isTy, rngW, seqW, Ob.w, wipeW, Tg.vars, Tg.varss, Option.map_some, Option.map_none, Option.bind_some, Option.bind_none, List.any_cons, List.any_nil, List.all_cons, List.all_nil, List.map_cons, List.map_nil, List.length_cons, List.length_nil, List.getElem?_cons_zero, List.getElem?_cons_succ, List.getElem?_nil, List.set_cons_zero, List.set_cons_succ, List.replicate, List.cons_append, List.nil_append, Nat.reduceAdd, Nat.reduceSub, Nat.reduceLT, Nat.reduceLeDiff, Nat.lt_add_one, reduceCtorEq, if_true, if_false, ite_true, ite_false, Bool.not_true, Bool.not_false, Bool.true_or, Bool.false_or, Bool.or_false, Bool.or_true, Bool.and_true, Bool.true_and, Bool.false_and, Bool.and_false, D, atI_0, atI_1, atI_2, atI_3, q, q2, q3, m1, m2, ix4_1, ix4_2, ix4_3]
end Bd
namespace Bd
open PySem PySem.Spec PyProof.Rows L2
variable {con : Str → Option W} {fuel : Nat}
/-! ### _law_heap -/
/-- a span as the law draws it -/
def okSp (s : Spn) : Prop := 0 ≤ s.1 ∧ s.1 < 20 ∧ (∀ y, s.2 = some y → s.1 ≤ y ∧ y < 25)
def pbody (n : Nat) : W → Env → Hw → Out := fun x σ h => match bindT (.var 2) x σ with
  | some σ => exSs ⟨callF Tt con fuel (n + 1), con, fuel⟩ [.asg (.var 3) (.call "_law_next" [(.var 0), (.int 20)]),
    .asg (.var 4) (.bin .add (.var 3) (.call "_law_next" [(.var 0), (.int 5)])),
    .app (.var 1) (.tup [(.var 3), (.ite (.cmp .eq (.call "_law_next" [(.var 0), (.int 7)]) (.int 0)) .non (.var 4))])] σ h
  | none => .bad
theorem pbody_ok (n : Nat) (ns : List Int) (a : Nat) (b c : Int) (x : W) (s2 s3 s4 : Sl) (fs : List Spn) (hl : fs.length < 1000) : ∃ (s : Spn) (a' : Nat) (b' c' : Int) (t3 t4 : Sl), okSp s ∧ pbody (con := con) (fuel := fuel) n x [.v (.ref 0), .own (.lst (fs.map sW)), s2, s3, s4] [D ns a b c] = .next [.v (.ref 0), .own (.lst ((fs ++ [s]).map sW)), .v x, t3, t4] [D ns a' b' c'] := by
  obtain ⟨r1, a1, b1, c1, e1, l1, u1⟩ := next_ok (con := con) (fuel := fuel) n ns a b c 20 (by decide) (by decide)
  obtain ⟨r2, a2, b2, c2, e2, l2, u2⟩ := next_ok (con := con) (fuel := fuel) n ns a1 b1 c1 5 (by decide) (by decide)
  obtain ⟨r3, a3, b3, c3, e3, l3, u3⟩ := next_ok (con := con) (fuel := fuel) n ns a2 b2 c2 7 (by decide) (by decide)
  have h2 : fs.length < 16777216 := by omega
  by_cases q : r3 = 0
  · refine ⟨(r1, none), a3, b3, c3, .v (.int r1), .v (.int (r1 + r2)), ⟨l1, u1, fun y e => by cases e⟩, ?_⟩
    subst q
    simp [pbody, exSs, exS, ev, evs, evo, evc, evAnd, evOr, evSrc, fin, bind_ok, of_ok, then_ok, still_ok, runFn, finFn, bindT, bindTs, look, lookO, truW, view, plOf, Pl.get, Pl.put, Pl.isLst, appOb, setOb, setOwn, isN, isB, Md.sub, Md.neg, binW, cmpW, ltW, gtW, leW, ixW, slW, intW, biW, clsW, isTy, rngW, seqW, Ob.w, wipeW, Tg.vars, Tg.varss, Option.map_some, Option.map_none, Option.bind_some, Option.bind_none, List.any_cons, List.any_nil, List.all_cons, List.all_nil, List.map_cons, List.map_nil, List.length_cons, List.length_nil, List.getElem?_cons_zero, List.getElem?_cons_succ, List.getElem?_nil, List.set_cons_zero, List.set_cons_succ, List.replicate, List.cons_append, List.nil_append, Nat.reduceAdd, Nat.reduceSub, Nat.reduceLT, Nat.reduceLeDiff, Nat.lt_add_one, reduceCtorEq, if_true, if_false, ite_true, ite_false, Bool.not_true, Bool.not_false, Bool.true_or, Bool.false_or, Bool.or_false, Bool.or_true, Bool.and_true, Bool.true_and, Bool.false_and, Bool.and_false, e1, e2, e3, hz, h2, eqW_int, sW, optW]
  · refine ⟨(r1, some (r1 + r2)), a3, b3, c3, .v (.int r1), .v (.int (r1 + r2)), ⟨l1, u1, fun y e => by cases e; exact ⟨by show r1 ≤ r1 + r2; omega, by omega⟩⟩, ?_⟩
    simp [pbody, exSs, exS, ev, evs, evo, evc, evAnd, evOr, evSrc, fin, bind_ok, of_ok, then_ok, still_ok, runFn, finFn, bindT, bindTs, look, lookO, truW, view, plOf, Pl.get, Pl.put, Pl.isLst, appOb, setOb, setOwn, isN, isB, Md.sub, Md.neg, binW, cmpW, ltW, gtW, leW, ixW, slW, intW, biW, clsW, isTy, rngW, seqW, Ob.w, wipeW, Tg.vars, Tg.varss, Option.map_some, Option.map_none, Option.bind_some, Option.bind_none, List.any_cons, List.any_nil, List.all_cons, List.all_nil, List.map_cons, List.map_nil, List.length_cons, List.length_nil, List.getElem?_cons_zero, List.getElem?_cons_succ, List.getElem?_nil, List.set_cons_zero, List.set_cons_succ, List.replicate, List.cons_append, List.nil_append, Nat.reduceAdd, Nat.reduceSub, Nat.reduceLT, Nat.reduceLeDiff, Nat.lt_add_one, reduceCtorEq, if_true, if_false, ite_true, ite_false, Bool.not_true, Bool.not_false, Bool.true_or, Bool.false_or, Bool.or_false, Bool.or_true, Bool.and_true, Bool.true_and, Bool.false_and, Bool.and_false, e1, e2, e3, hz, h2, eqW_int, sW, optW, q]
theorem ploop (n : Nat) (ns : List Int) : ∀ (xs : List W) (a : Nat) (b c : Int) (s2 s3 s4 : Sl) (fs : List Spn), fs.length + xs.length < 1000 → (∀ s ∈ fs, okSp s) → ∃ (gs : List Spn) (a' : Nat) (b' c' : Int) (t2 t3 t4 : Sl), (∀ s ∈ gs, okSp s) ∧ gs.length = fs.length + xs.length ∧
    forRun (pbody (con := con) (fuel := fuel) n) xs [.v (.ref 0), .own (.lst (fs.map sW)), s2, s3, s4] [D ns a b c] = .next [.v (.ref 0), .own (.lst (gs.map sW)), t2, t3, t4] [D ns a' b' c']
  | [], a, b, c, s2, s3, s4, fs, _, hf => ⟨fs, a, b, c, s2, s3, s4, hf, rfl, rfl⟩
  | x :: xs, a, b, c, s2, s3, s4, fs, hl, hf => by
    have hl : fs.length + (xs.length + 1) < 1000 := hl
    obtain ⟨s, a1, b1, c1, t3, t4, hs, e⟩ := pbody_ok (con := con) (fuel := fuel) n ns a b c x s2 s3 s4 fs (by omega)
    obtain ⟨gs, a2, b2, c2, u2, u3, u4, hg, hn, k⟩ := ploop n ns xs a1 b1 c1 (.v x) t3 t4 (fs ++ [s]) (by rw [List.length_append, List.length_cons, List.length_nil]; omega) (fun t ht => by
      rcases List.mem_append.mp ht with z | z
      · exact hf t z
      · rw [List.mem_singleton.mp z]; exact hs)
    refine ⟨gs, a2, b2, c2, u2, u3, u4, hg, ?_, for_cons e k⟩
    rw [hn, List.length_append, List.length_cons, List.length_nil, List.length_cons]
    omega
theorem heap_ok (n : Nat) (ns : List Int) (a : Nat) (b c : Int) : ∃ (gs : List Spn) (a' : Nat) (b' c' : Int), callF Tt con fuel (n + 2) "_law_heap" [.ref 0] [D ns a b c] = .ok (.lst (gs.map sW)) [D ns a' b' c'] ∧ (∀ s ∈ gs, okSp s) ∧ gs.length ≤ 5 := by
  rw [call_of t_heap]
  obtain ⟨r, a1, b1, c1, e1, l1, u1⟩ := next_ok (con := con) (fuel := fuel) n ns a b c 6 (by decide) (by decide)
  obtain ⟨gs, a2, b2, c2, t2, t3, t4, hg, hn, k⟩ := ploop (con := con) (fuel := fuel) n ns ((List.range r.toNat).map fun (j : Nat) => W.int (j : Int)) a1 b1 c1 .no .no .no [] (by simp; omega) (fun s hs => by cases hs)
  refine ⟨gs, a2, b2, c2, run_ret rfl ⟨rfl, by decide⟩ ?_, hg, by rw [hn]; simp; omega⟩
  refine seq_next (σ1 := [.v (.ref 0), .own (.lst []), .no, .no, .no]) (h1 := [D ns a b c]) (by simp [f__law_heap, exSs, exS, ev, evs, evo, evc, evAnd, evOr, evSrc, fin, bind_ok, of_ok, then_ok, still_ok, runFn, finFn, bindT, bindTs, look, lookO, truW, view, plOf, Pl.get, Pl.put, Pl.isLst, appOb, setOb, setOwn, isN, isB, Md.sub, Md.neg, binW, cmpW, ltW, gtW, leW, ixW, slW, intW, biW, clsW, isTy, rngW, seqW, Ob.w, wipeW, Tg.vars, Tg.varss, Option.map_some, Option.map_none, Option.bind_some, Option.bind_none, List.any_cons, List.any_nil, List.all_cons, List.all_nil, List.map_cons, List.map_nil, List.length_cons, List.length_nil, List.getElem?_cons_zero, List.getElem?_cons_succ, List.getElem?_nil, List.set_cons_zero, List.set_cons_succ, List.replicate, List.cons_append, List.nil_append, Nat.reduceAdd, Nat.reduceSub, Nat.reduceLT, Nat.reduceLeDiff, Nat.lt_add_one, reduceCtorEq, if_true, if_false, ite_true, ite_false, Bool.not_true, Bool.not_false, Bool.true_or, Bool.false_or, Bool.or_false, Bool.or_true, Bool.and_true, Bool.true_and, Bool.false_and, Bool.and_false, hz]) ?_
  have q1 : -4611686018427387904 ≤ r := by omega
  have q2 : r < 4611686018427387904 := by omega
  refine seq_next ((for_eq (ws := (List.range r.toNat).map fun (j : Nat) => W.int (j : Int)) (h1 := [D ns a1 b1 c1]) (by simp [exSs, exS, ev, evs, evo, evc, evAnd, evOr, evSrc, fin, bind_ok, of_ok, then_ok, still_ok, runFn, finFn, bindT, bindTs, look, lookO, truW, view, plOf, Pl.get, Pl.put, Pl.isLst, appOb, setOb, setOwn, isN, isB, Md.sub, Md.neg, binW, cmpW, ltW, gtW, leW, ixW, slW, intW, biW, clsW, isTy, rngW, seqW, Ob.w, wipeW, Tg.vars, Tg.varss, Option.map_some, Option.map_none, Option.bind_some, Option.bind_none, List.any_cons, List.any_nil, List.all_cons, List.all_nil, List.map_cons, List.map_nil, List.length_cons, List.length_nil, List.getElem?_cons_zero, List.getElem?_cons_succ, List.getElem?_nil, List.set_cons_zero, List.set_cons_succ, List.replicate, List.cons_append, List.nil_append, Nat.reduceAdd, Nat.reduceSub, Nat.reduceLT, Nat.reduceLeDiff, Nat.lt_add_one, reduceCtorEq, if_true, if_false, ite_true, ite_false, Bool.not_true, Bool.not_false, Bool.true_or, Bool.false_or, Bool.or_false, Bool.or_true, Bool.and_true, Bool.true_and, Bool.false_and, Bool.and_false, e1, q1, q2])).trans k) ?_
  simp [exSs, exS, ev, evs, evo, evc, evAnd, evOr, evSrc, fin, bind_ok, of_ok, then_ok, still_ok, runFn, finFn, bindT, bindTs, look, lookO, truW, view, plOf, Pl.get, Pl.put, Pl.isLst, appOb, setOb, setOwn, isN, isB, Md.sub, Md.neg, binW, cmpW, ltW, gtW, leW, ixW, slW, intW, biW, clsW, isTy, rngW, seqW, Ob.w, wipeW, Tg.vars, Tg.varss, Option.map_some, Option.map_none, Option.bind_some, Option.bind_none, List.any_cons, List.any_nil, List.all_cons, List.all_nil, List.map_cons, List.map_nil, List.length_cons, List.length_nil, List.getElem?_cons_zero, List.getElem?_cons_succ, List.getElem?_nil, List.set_cons_zero, List.set_cons_succ, List.replicate, List.cons_append, List.nil_append, Nat.reduceAdd, Nat.reduceSub, Nat.reduceLT, Nat.reduceLeDiff, Nat.lt_add_one, reduceCtorEq, if_true, if_false, ite_true, ite_false, Bool.not_true, Bool.not_false, Bool.true_or, Bool.false_or, Bool.or_false, Bool.or_true, Bool.and_true, Bool.true_and, Bool.false_and, Bool.and_false]
/-! ### _law_same -/
theorem eqW_bl (a b : Bool) : eqW (.bl a) (.bl b) = some (a == b) := by cases a <;> cases b <;> rfl
theorem same_num (n : Nat) (h : Hw) (a : Option Int) : callF Tt con fuel (n + 1) "_law_same" [optW a, optW a] h = .ok (.bl true) h := by
  rw [call_of t_same]
  cases a <;> simp [f__law_same, optW, exSs, exS, ev, evs, evo, evc, evAnd, evOr, evSrc, fin, bind_ok, of_ok, then_ok, still_ok, runFn, finFn, bindT, bindTs, look, lookO, truW, view, plOf, Pl.get, Pl.put, Pl.isLst, appOb, setOb, setOwn, isN, isB, Md.sub, Md.neg, binW, cmpW, ltW, gtW, leW, ixW, slW, intW, biW, clsW, isTy, rngW, seqW, Ob.w, wipeW, Tg.vars, Tg.varss, Option.map_some, Option.map_none, Option.bind_some, Option.bind_none, List.any_cons, List.any_nil, List.all_cons, List.all_nil, List.map_cons, List.map_nil, List.length_cons, List.length_nil, List.getElem?_cons_zero, List.getElem?_cons_succ, List.getElem?_nil, List.set_cons_zero, List.set_cons_succ, List.replicate, List.cons_append, List.nil_append, Nat.reduceAdd, Nat.reduceSub, Nat.reduceLT, Nat.reduceLeDiff, Nat.lt_add_one, reduceCtorEq, if_true, if_false, ite_true, ite_false, Bool.not_true, Bool.not_false, Bool.true_or, Bool.false_or, Bool.or_false, Bool.or_true, Bool.and_true, Bool.true_and, Bool.false_and, Bool.and_false, eqW_int, eqW_bl]
theorem same_bl (n : Nat) (h : Hw) (a : Bool) : callF Tt con fuel (n + 1) "_law_same" [.bl a, .bl a] h = .ok (.bl true) h := by
  rw [call_of t_same]
  simp [f__law_same, exSs, exS, ev, evs, evo, evc, evAnd, evOr, evSrc, fin, bind_ok, of_ok, then_ok, still_ok, runFn, finFn, bindT, bindTs, look, lookO, truW, view, plOf, Pl.get, Pl.put, Pl.isLst, appOb, setOb, setOwn, isN, isB, Md.sub, Md.neg, binW, cmpW, ltW, gtW, leW, ixW, slW, intW, biW, clsW, isTy, rngW, seqW, Ob.w, wipeW, Tg.vars, Tg.varss, Option.map_some, Option.map_none, Option.bind_some, Option.bind_none, List.any_cons, List.any_nil, List.all_cons, List.all_nil, List.map_cons, List.map_nil, List.length_cons, List.length_nil, List.getElem?_cons_zero, List.getElem?_cons_succ, List.getElem?_nil, List.set_cons_zero, List.set_cons_succ, List.replicate, List.cons_append, List.nil_append, Nat.reduceAdd, Nat.reduceSub, Nat.reduceLT, Nat.reduceLeDiff, Nat.lt_add_one, reduceCtorEq, if_true, if_false, ite_true, ite_false, Bool.not_true, Bool.not_false, Bool.true_or, Bool.false_or, Bool.or_false, Bool.or_true, Bool.and_true, Bool.true_and, Bool.false_and, Bool.and_false, eqW_bl]
theorem same_lc (n : Nat) (h : Hw) (ws : List W) (k : ∀ w ∈ ws, callF Tt con fuel n "_law_same" [w, w] h = .ok (.bl true) h) : lcRun (lcT ⟨callF Tt con fuel n, con, fuel⟩ [.v (.tup ws), .v (.tup ws), .no] (.call "_law_same" [(.ix (.var 0) (.var 2)), (.ix (.var 1) (.var 2))]) (.var 2) .none) ((List.range ws.length).map fun (j : Nat) => W.int (j : Int)) h = .ok ((List.range ws.length).map fun _ => .bl true) h := by
  have e := lc_ok (f := lcT ⟨callF Tt con fuel n, con, fuel⟩ [.v (.tup ws), .v (.tup ws), .no] (.call "_law_same" [(.ix (.var 0) (.var 2)), (.ix (.var 1) (.var 2))]) (.var 2) .none) (g := fun _ => some (.bl true)) (h := h) (ws := (List.range ws.length).map fun (j : Nat) => W.int (j : Int)) (fun w hw => by
    obtain ⟨j, hj, rfl⟩ := List.mem_map.mp hw
    have hj := List.mem_range.mp hj
    have e1 : L2.atI ws (j : Int) = some ws[j] := atI_nat (List.getElem?_eq_getElem hj)
    have e2 := k ws[j] (List.getElem_mem hj)
    simp [lcT, exSs, exS, ev, evs, evo, evc, evAnd, evOr, evSrc, fin, bind_ok, of_ok, then_ok, still_ok, runFn, finFn, bindT, bindTs, look, lookO, truW, view, plOf, Pl.get, Pl.put, Pl.isLst, appOb, setOb, setOwn, isN, isB, Md.sub, Md.neg, binW, cmpW, ltW, gtW, leW, ixW, slW, intW, biW, clsW, isTy, rngW, seqW, Ob.w, wipeW, Tg.vars, Tg.varss, Option.map_some, Option.map_none, Option.bind_some, Option.bind_none, List.any_cons, List.any_nil, List.all_cons, List.all_nil, List.map_cons, List.map_nil, List.length_cons, List.length_nil, List.getElem?_cons_zero, List.getElem?_cons_succ, List.getElem?_nil, List.set_cons_zero, List.set_cons_succ, List.replicate, List.cons_append, List.nil_append, Nat.reduceAdd, Nat.reduceSub, Nat.reduceLT, Nat.reduceLeDiff, Nat.lt_add_one, reduceCtorEq, if_true, if_false, ite_true, ite_false, Bool.not_true, Bool.not_false, Bool.true_or, Bool.false_or, Bool.or_false, Bool.or_true, Bool.and_true, Bool.true_and, Bool.false_and, Bool.and_false, e1, e2])
  rw [filterMap_some (fun _ => W.bl true), List.map_map] at e
  exact e
theorem same_all (l : List Nat) : biW .all [.lst (l.map fun _ => W.bl true)] = some (.bl true) := by
  have := bls_map (fun _ : Nat => true) l
  simp only [biW, this, Option.map_some]
  simp
theorem same_rng (n : Nat) (h : Hw) (ws : List W) (hl : ws.length < 1000) : evSrc ⟨callF Tt con fuel n, con, fuel⟩ [.v (.tup ws), .v (.tup ws), .no] (.rng [(.bi .len [(.var 1)])]) .opd h = .ok ((List.range ws.length).map fun (j : Nat) => W.int (j : Int)) h := by
  have e : rngW [.int (ws.length : Int)] = some ((List.range ws.length).map fun (j : Nat) => W.int (j : Int)) := by
    generalize hb : (ws.length : Int) = b
    have h1 : -(2 ^ 62) ≤ b ∧ b < 2 ^ 62 := by omega
    have h2 : b.toNat = ws.length := by omega
    show (if -(2 ^ 62) ≤ b ∧ b < 2 ^ 62 then some ((List.range b.toNat).map fun (k : Nat) => W.int (k : Int)) else none) = _
    rw [if_pos h1, h2]
  have e2 : ev ⟨callF Tt con fuel n, con, fuel⟩ [.v (.tup ws), .v (.tup ws), .no] (.bi .len [(.var 1)]) .opd h = .ok (.int (ws.length : Int)) h := ev_bi1 (by decide) (u := .tup ws) (h1 := h) rfl rfl
  show ((ev ⟨callF Tt con fuel n, con, fuel⟩ [.v (.tup ws), .v (.tup ws), .no] (.bi .len [(.var 1)]) .opd h).bind fun w h => (R.ok [] h).bind fun ws h => R.ok (w :: ws) h).bind (fun ws h => R.of (rngW ws) h) = _
  rw [e2, bind_ok, bind_ok, bind_ok, e]
  rfl
/-- two tuples, place by place the same -/
theorem same_tup (n : Nat) (h : Hw) (ws : List W) (hl : ws.length < 1000) (k : ∀ w ∈ ws, callF Tt con fuel n "_law_same" [w, w] h = .ok (.bl true) h) : callF Tt con fuel (n + 1) "_law_same" [.tup ws, .tup ws] h = .ok (.bl true) h := by
  rw [call_of t_same]
  refine run_ret rfl ⟨rfl, by decide⟩ ?_
  simp only [f__law_same, List.map_cons, List.map_nil, List.replicate, Nat.reduceSub, List.cons_append, List.nil_append]
  refine seq_ret (ite_t (h1 := h) (by simp [f__law_same, exSs, exS, ev, evs, evo, evc, evAnd, evOr, evSrc, fin, bind_ok, of_ok, then_ok, still_ok, runFn, finFn, bindT, bindTs, look, lookO, truW, view, plOf, Pl.get, Pl.put, Pl.isLst, appOb, setOb, setOwn, isN, isB, Md.sub, Md.neg, binW, cmpW, ltW, gtW, leW, ixW, slW, intW, biW, clsW, isTy, rngW, seqW, Ob.w, wipeW, Tg.vars, Tg.varss, Option.map_some, Option.map_none, Option.bind_some, Option.bind_none, List.any_cons, List.any_nil, List.all_cons, List.all_nil, List.map_cons, List.map_nil, List.length_cons, List.length_nil, List.getElem?_cons_zero, List.getElem?_cons_succ, List.getElem?_nil, List.set_cons_zero, List.set_cons_succ, List.replicate, List.cons_append, List.nil_append, Nat.reduceAdd, Nat.reduceSub, Nat.reduceLT, Nat.reduceLeDiff, Nat.lt_add_one, reduceCtorEq, if_true, if_false, ite_true, ite_false, Bool.not_true, Bool.not_false, Bool.true_or, Bool.false_or, Bool.or_false, Bool.or_true, Bool.and_true, Bool.true_and, Bool.false_and, Bool.and_false]) ?_)
  refine seq_next (σ1 := [.v (.tup ws), .v (.tup ws), .no]) (h1 := h) (by simp [f__law_same, exSs, exS, ev, evs, evo, evc, evAnd, evOr, evSrc, fin, bind_ok, of_ok, then_ok, still_ok, runFn, finFn, bindT, bindTs, look, lookO, truW, view, plOf, Pl.get, Pl.put, Pl.isLst, appOb, setOb, setOwn, isN, isB, Md.sub, Md.neg, binW, cmpW, ltW, gtW, leW, ixW, slW, intW, biW, clsW, isTy, rngW, seqW, Ob.w, wipeW, Tg.vars, Tg.varss, Option.map_some, Option.map_none, Option.bind_some, Option.bind_none, List.any_cons, List.any_nil, List.all_cons, List.all_nil, List.map_cons, List.map_nil, List.length_cons, List.length_nil, List.getElem?_cons_zero, List.getElem?_cons_succ, List.getElem?_nil, List.set_cons_zero, List.set_cons_succ, List.replicate, List.cons_append, List.nil_append, Nat.reduceAdd, Nat.reduceSub, Nat.reduceLT, Nat.reduceLeDiff, Nat.lt_add_one, reduceCtorEq, if_true, if_false, ite_true, ite_false, Bool.not_true, Bool.not_false, Bool.true_or, Bool.false_or, Bool.or_false, Bool.or_true, Bool.and_true, Bool.true_and, Bool.false_and, Bool.and_false, eqW_bl]) ?_
  refine seq_next (σ1 := [.v (.tup ws), .v (.tup ws), .no]) (h1 := h) (by simp [f__law_same, exSs, exS, ev, evs, evo, evc, evAnd, evOr, evSrc, fin, bind_ok, of_ok, then_ok, still_ok, runFn, finFn, bindT, bindTs, look, lookO, truW, view, plOf, Pl.get, Pl.put, Pl.isLst, appOb, setOb, setOwn, isN, isB, Md.sub, Md.neg, binW, cmpW, ltW, gtW, leW, ixW, slW, intW, biW, clsW, isTy, rngW, seqW, Ob.w, wipeW, Tg.vars, Tg.varss, Option.map_some, Option.map_none, Option.bind_some, Option.bind_none, List.any_cons, List.any_nil, List.all_cons, List.all_nil, List.map_cons, List.map_nil, List.length_cons, List.length_nil, List.getElem?_cons_zero, List.getElem?_cons_succ, List.getElem?_nil, List.set_cons_zero, List.set_cons_succ, List.replicate, List.cons_append, List.nil_append, Nat.reduceAdd, Nat.reduceSub, Nat.reduceLT, Nat.reduceLeDiff, Nat.lt_add_one, reduceCtorEq, if_true, if_false, ite_true, ite_false, Bool.not_true, Bool.not_false, Bool.true_or, Bool.false_or, Bool.or_false, Bool.or_true, Bool.and_true, Bool.true_and, Bool.false_and, Bool.and_false, eqW_int]) ?_
  refine seq_ret (ret_ok (ev_bi1 (by decide) (ev_lc (by decide) (same_rng n h ws hl) ?_ (same_lc n h ws k)) (same_all _)))
  rw [List.length_map, List.length_range, hz]
  exact Nat.le_of_lt (Nat.lt_of_lt_of_le hl (by omega))
theorem same_set (n : Nat) (h : Hw) (ss : List Spn) (hl : ss.length < 1000) : callF Tt con fuel (n + 3) "_law_same" [setW ss, setW ss] h = .ok (.bl true) h := by
  refine same_tup (n + 2) h _ (by simpa using hl) fun w hw => ?_
  obtain ⟨s, _, rfl⟩ := List.mem_map.mp hw
  refine same_tup (n + 1) h _ (by show 2 < 1000; omega) fun w hw => ?_
  rcases List.mem_cons.mp hw with rfl | hw
  · exact same_num n h (some s.1)
  · rcases List.mem_cons.mp hw with rfl | hw
    · exact same_num n h s.2
    · cases hw
end Bd
namespace Bd
open PySem PySem.Spec PyProof.Rows L2
variable {con : Str → Option W} {fuel : Nat}
/-! ### wrong things -/
def wr : List W := [.tup [.tup [.int 5, .int 4]], .tup [.tup [.int 0, .int 3], .tup [.int 4, .int 6]], .tup [.tup [.int 0, .non], .tup [.int 5, .int 6]], .tup [.tup [.bl true, .int 3]], .lst [.tup [.int 0, .int 1]],
  .tup [.tup [.int (-1), .int 2]], .tup [.tup [.int 3, .int 5], .tup [.int 0, .int 1]], .tup [.tup [.int 0, .int 1, .int 2]], .non, .tup [.int 0, .int 1], .tup [.tup [.int 0, .int 3], .tup [.int 2, .int 6]],
  .tup [.tup [.int 0, .str "3"]], .tup [.lst [.int 0, .int 3]], .tup [.tup [.int 0, .bl false]], .str "none", .tup [.tup [.non, .int 3]], .tup [.tup [.int 0, .int 3], .tup []]]
theorem wrong_ok (n : Nat) (ns : List Int) (a : Nat) (b c : Int) : ∃ w a' b' c', callF Tt con fuel (n + 2) "_law_wrong" [.ref 0] [D ns a b c] = .ok w [D ns a' b' c'] ∧ w ∈ wr := by
  rw [call_of t_wrong]
  obtain ⟨r, a1, b1, c1, e1, l1, u1⟩ := next_ok (con := con) (fuel := fuel) n ns a b c 17 (by decide) (by decide)
  have hr : r.toNat < wr.length := by show r.toNat < 17; omega
  have er : (r.toNat : Int) = r := by omega
  have e2 : L2.atI wr r = some wr[r.toNat] := by
    have := atI_nat (xs := wr) (List.getElem?_eq_getElem hr)
    rw [er] at this
    exact this
  refine ⟨wr[r.toNat], a1, b1, c1, run_ret rfl ⟨rfl, by decide⟩ ?_, List.getElem_mem hr⟩
  refine seq_next (σ1 := [.v (.ref 0), .v (.lst wr)]) (h1 := [D ns a b c]) (by simp [f__law_wrong, exSs, exS, ev, evs, evo, evc, evAnd, evOr, evSrc, fin, bind_ok, of_ok, then_ok, still_ok, runFn, finFn, bindT, bindTs, look, lookO, truW, view, plOf, Pl.get, Pl.put, Pl.isLst, appOb, setOb, setOwn, isN, isB, Md.sub, Md.neg, binW, cmpW, ltW, gtW, leW, ixW, slW, intW, biW, clsW, isTy, rngW, seqW, Ob.w, wipeW, Tg.vars, Tg.varss, Option.map_some, Option.map_none, Option.bind_some, Option.bind_none, List.any_cons, List.any_nil, List.all_cons, List.all_nil, List.map_cons, List.map_nil, List.length_cons, List.length_nil, List.getElem?_cons_zero, List.getElem?_cons_succ, List.getElem?_nil, List.set_cons_zero, List.set_cons_succ, List.replicate, List.cons_append, List.nil_append, Nat.reduceAdd, Nat.reduceSub, Nat.reduceLT, Nat.reduceLeDiff, Nat.lt_add_one, reduceCtorEq, if_true, if_false, ite_true, ite_false, Bool.not_true, Bool.not_false, Bool.true_or, Bool.false_or, Bool.or_false, Bool.or_true, Bool.and_true, Bool.true_and, Bool.false_and, Bool.and_false, hz, wr]) ?_
  have e3 : ev ⟨callF Tt con fuel (n + 1), con, fuel⟩ [.v (.ref 0), .v (.lst wr)] (.call "_law_next" [(.var 0), (.bi .len [(.var 1)])]) .opd [D ns a b c] = .ok (.int r) [D ns a1 b1 c1] := by
    have e4 : (W.int (wr.length : Int)) = .int 17 := rfl
    simp only [exSs, exS, ev, evs, evo, evc, evAnd, evOr, evSrc, fin, bind_ok, of_ok, then_ok, still_ok, runFn, finFn, bindT, bindTs, look, lookO, truW, view, plOf, Pl.get, Pl.put, Pl.isLst, appOb, setOb, setOwn, isN, isB, Md.sub, Md.neg, binW, cmpW, ltW, gtW, leW, ixW, slW, intW, biW, clsW, isTy, rngW, seqW, Ob.w, wipeW, Tg.vars, Tg.varss, Option.map_some, Option.map_none, Option.bind_some, Option.bind_none, List.any_cons, List.any_nil, List.all_cons, List.all_nil, List.map_cons, List.map_nil, List.length_cons, List.length_nil, List.getElem?_cons_zero, List.getElem?_cons_succ, List.getElem?_nil, List.set_cons_zero, List.set_cons_succ, List.replicate, List.cons_append, List.nil_append, Nat.reduceAdd, Nat.reduceSub, Nat.reduceLT, Nat.reduceLeDiff, Nat.lt_add_one, reduceCtorEq, if_true, if_false, ite_true, ite_false, Bool.not_true, Bool.not_false, Bool.true_or, Bool.false_or, Bool.or_false, Bool.or_true, Bool.and_true, Bool.true_and, Bool.false_and, Bool.and_false, e4]
    simp [exSs, exS, ev, evs, evo, evc, evAnd, evOr, evSrc, fin, bind_ok, of_ok, then_ok, still_ok, runFn, finFn, bindT, bindTs, look, lookO, truW, view, plOf, Pl.get, Pl.put, Pl.isLst, appOb, setOb, setOwn, isN, isB, Md.sub, Md.neg, binW, cmpW, ltW, gtW, leW, ixW, slW, intW, biW, clsW, isTy, rngW, seqW, Ob.w, wipeW, Tg.vars, Tg.varss, Option.map_some, Option.map_none, Option.bind_some, Option.bind_none, List.any_cons, List.any_nil, List.all_cons, List.all_nil, List.map_cons, List.map_nil, List.length_cons, List.length_nil, List.getElem?_cons_zero, List.getElem?_cons_succ, List.getElem?_nil, List.set_cons_zero, List.set_cons_succ, List.replicate, List.cons_append, List.nil_append, Nat.reduceAdd, Nat.reduceSub, Nat.reduceLT, Nat.reduceLeDiff, Nat.lt_add_one, reduceCtorEq, if_true, if_false, ite_true, ite_false, Bool.not_true, Bool.not_false, Bool.true_or, Bool.false_or, Bool.or_false, Bool.or_true, Bool.and_true, Bool.true_and, Bool.false_and, Bool.and_false, e1]
  refine seq_ret (ret_ok ?_)
  simp only [exSs, exS, ev, evs, evo, evc, evAnd, evOr, evSrc, fin, bind_ok, of_ok, then_ok, still_ok, runFn, finFn, bindT, bindTs, look, lookO, truW, view, plOf, Pl.get, Pl.put, Pl.isLst, appOb, setOb, setOwn, isN, isB, Md.sub, Md.neg, binW, cmpW, ltW, gtW, leW, ixW, slW, intW, biW, clsW, isTy, rngW, seqW, Ob.w, wipeW, Tg.vars, Tg.varss, Option.map_some, Option.map_none, Option.bind_some, Option.bind_none, List.any_cons, List.any_nil, List.all_cons, List.all_nil, List.map_cons, List.map_nil, List.length_cons, List.length_nil, List.getElem?_cons_zero, List.getElem?_cons_succ, List.getElem?_nil, List.set_cons_zero, List.set_cons_succ, List.replicate, List.cons_append, List.nil_append, Nat.reduceAdd, Nat.reduceSub, Nat.reduceLT, Nat.reduceLeDiff, Nat.lt_add_one, reduceCtorEq, if_true, if_false, ite_true, ite_false, Bool.not_true, Bool.not_false, Bool.true_or, Bool.false_or, Bool.or_false, Bool.or_true, Bool.and_true, Bool.true_and, Bool.false_and, Bool.and_false] at e3 ⊢
  simp only [e3, exSs, exS, ev, evs, evo, evc, evAnd, evOr, evSrc, fin, bind_ok, of_ok, then_ok, still_ok, runFn, finFn, bindT, bindTs, look, lookO, truW, view, plOf, Pl.get, Pl.put, Pl.isLst, appOb, setOb, setOwn, isN, isB, Md.sub, Md.neg, binW, cmpW, ltW, gtW, leW, ixW, slW, intW, biW, clsW, isTy, rngW, seqW, Ob.w, wipeW, Tg.vars, Tg.varss, Option.map_some, Option.map_none, Option.bind_some, Option.bind_none, List.any_cons, List.any_nil, List.all_cons, List.all_nil, List.map_cons, List.map_nil, List.length_cons, List.length_nil, List.getElem?_cons_zero, List.getElem?_cons_succ, List.getElem?_nil, List.set_cons_zero, List.set_cons_succ, List.replicate, List.cons_append, List.nil_append, Nat.reduceAdd, Nat.reduceSub, Nat.reduceLT, Nat.reduceLeDiff, Nat.lt_add_one, reduceCtorEq, if_true, if_false, ite_true, ite_false, Bool.not_true, Bool.not_false, Bool.true_or, Bool.false_or, Bool.or_false, Bool.or_true, Bool.and_true, Bool.true_and, Bool.false_and, Bool.and_false, e2]
theorem wrong_no (n : Nat) (h : Hw) (w : W) (hw : w ∈ wr) : callF Tt con fuel (n + 2) "is_set" [w] h = .ok (.bl false) h := by
  rw [call_of t_is_set]
  have q1 : ∀ ws h, callF Tt con fuel (n + 1) "is_tuple" ws h = runFn ⟨callF Tt con fuel n, con, fuel⟩ f_is_tuple ws h := fun ws h => call_of t_is_tuple
  have q2 : ∀ ws h, callF Tt con fuel (n + 1) "is_number" ws h = runFn ⟨callF Tt con fuel n, con, fuel⟩ f_is_number ws h := fun ws h => call_of t_is_number
  simp only [wr, List.mem_cons, List.not_mem_nil, or_false] at hw
  rcases hw with rfl | rfl | rfl | rfl | rfl | rfl | rfl | rfl | rfl | rfl | rfl | rfl | rfl | rfl | rfl | rfl | rfl
  all_goals simp [f_is_set, f_is_tuple, f_is_number, q1, q2, forRun, exSs, exS, ev, evs, evo, evc, evAnd, evOr, evSrc, fin, bind_ok, of_ok, then_ok, still_ok, runFn, finFn, bindT, bindTs, look, lookO, truW, view, plOf, Pl.get, Pl.put, Pl.isLst, appOb, setOb, setOwn, isN, isB, Md.sub, Md.neg, binW, cmpW, ltW, gtW, leW, ixW, slW, intW, biW, clsW, isTy, rngW, seqW, Ob.w, wipeW, Tg.vars, Tg.varss, Option.map_some, Option.map_none, Option.bind_some, Option.bind_none, List.any_cons, List.any_nil, List.all_cons, List.all_nil, List.map_cons, List.map_nil, List.length_cons, List.length_nil, List.getElem?_cons_zero, List.getElem?_cons_succ, List.getElem?_nil, List.set_cons_zero, List.set_cons_succ, List.replicate, List.cons_append, List.nil_append, Nat.reduceAdd, Nat.reduceSub, Nat.reduceLT, Nat.reduceLeDiff, Nat.lt_add_one, reduceCtorEq, if_true, if_false, ite_true, ite_false, Bool.not_true, Bool.not_false, Bool.true_or, Bool.false_or, Bool.or_false, Bool.or_true, Bool.and_true, Bool.true_and, Bool.false_and, Bool.and_false]
end Bd
/-! Sets of numbers: plain law. -/
namespace Bd
open PySem PySem.Spec PyProof.Rows L2
def has (ss : List Spn) (x : Int) : Bool := ss.any (inS x)
/-- a span that holds something, from 0 on -/
def okS (s : Spn) : Prop := 0 ≤ s.1 ∧ ∀ y, s.2 = some y → s.1 ≤ y
theorem inS_t {x : Int} {s : Spn} : inS x s = true ↔ s.1 ≤ x ∧ ∀ y, s.2 = some y → x ≤ y := by
  obtain ⟨l, o⟩ := s
  cases o with
  | none => simp [inS]
  | some y => simp [inS]
theorem okSet_low : ∀ {b : Int} {ss : List Spn} {x : Int}, okSet (some b) ss → has ss x = true → b ≤ x
  | b, [], x, _, h => by simp [has] at h
  | b, (l, none) :: r, x, k, h => by
    obtain ⟨k1, k2⟩ := k
    cases r with
    | nil =>
      simp [has, inS] at h
      omega
    | cons s r => exact k2.elim
  | b, (l, some y) :: r, x, k, h => by
    obtain ⟨k1, k2, k3⟩ := k
    simp only [has, List.any_cons, Bool.or_eq_true] at h
    rcases h with h | h
    · have := (inS_t.mp h).1
      show b ≤ x
      have : l ≤ x := this
      omega
    · have := okSet_low k3 h
      omega
/-- sets that hold the same are the same -/
theorem okSet_uniq : ∀ {b : Int} {ss ts : List Spn}, okSet (some b) ss → okSet (some b) ts → (∀ x, has ss x = has ts x) → ss = ts
  | b, [], [], _, _, _ => rfl
  | b, [], (l, o) :: ts, _, k, h => by
    have := h l
    have e : has ((l, o) :: ts) l = true := by
      cases o with
      | none => simp [has, inS]
      | some y => simp [has, inS, k.2.1]
    rw [e] at this
    simp [has] at this
  | b, (l, o) :: ss, [], k, _, h => by
    have := h l
    have e : has ((l, o) :: ss) l = true := by
      cases o with
      | none => simp [has, inS]
      | some y => simp [has, inS, k.2.1]
    rw [e] at this
    simp [has] at this
  | b, (l, o) :: ss, (m, p) :: ts, k, k', h => by
    have lowS : ∀ {l : Int} {o : Option Int} {r : List Spn} {x : Int}, okSet (some b) ((l, o) :: r) → has ((l, o) :: r) x = true → l ≤ x := fun {l o r x} k q => by
      cases o with
      | none => exact okSet_low (b := l) (ss := (l, none) :: r) ⟨Int.le_refl _, k.2⟩ q
      | some y => exact okSet_low (b := l) (ss := (l, some y) :: r) ⟨Int.le_refl _, k.2⟩ q
    have firstS : ∀ {l : Int} {o : Option Int} {r : List Spn}, okSet (some b) ((l, o) :: r) → has ((l, o) :: r) l = true := fun {l o r} k => by
      cases o with
      | none => simp [has, inS]
      | some y => simp [has, inS, k.2.1]
    have e1 : l = m := by
      have h1 := lowS k' (by rw [← h]; exact firstS k)
      have h2 := lowS k (by rw [h]; exact firstS k')
      omega
    subst e1
    cases o with
    | none =>
      cases p with
      | none =>
        cases ss with
        | nil =>
          cases ts with
          | nil => rfl
          | cons t ts => exact k'.2.elim
        | cons s ss => exact k.2.elim
      | some z =>
        exfalso
        have h1 := h (z + 1)
        have e : has ((l, none) :: ss) (z + 1) = true := by
          have := k'.2.1
          simp [has, inS]
          exact .inl (by omega)
        rw [e] at h1
        have h1 := h1.symm
        simp only [has, List.any_cons, Bool.or_eq_true] at h1
        rcases h1 with h1 | h1
        · have := (inS_t.mp h1).2 z rfl
          omega
        · have := okSet_low k'.2.2 h1
          omega
    | some y =>
      cases p with
      | none =>
        exfalso
        have h1 := h (y + 1)
        have e : has ((l, none) :: ts) (y + 1) = true := by
          have := k.2.1
          simp [has, inS]
          exact .inl (by omega)
        rw [e] at h1
        simp only [has, List.any_cons, Bool.or_eq_true] at h1
        rcases h1 with h1 | h1
        · have := (inS_t.mp h1).2 y rfl
          omega
        · have := okSet_low k.2.2 h1
          omega
      | some z =>
        have end_ : ∀ {y z : Int} {ss ts : List Spn}, okSet (some b) ((l, some y) :: ss) → okSet (some b) ((l, some z) :: ts) → (∀ x, has ((l, some y) :: ss) x = has ((l, some z) :: ts) x) → z ≤ y := fun {y z ss ts} k k' h => by
          by_cases q : z ≤ y
          · exact q
          · exfalso
            have h1 := h (y + 1)
            have e : has ((l, some z) :: ts) (y + 1) = true := by
              have := k.2.1
              simp [has, inS]
              exact .inl (by omega)
            rw [e] at h1
            simp only [has, List.any_cons, Bool.or_eq_true] at h1
            rcases h1 with h1 | h1
            · have := (inS_t.mp h1).2 y rfl
              omega
            · have := okSet_low k.2.2 h1
              omega
        have e2 : y = z := by
          have h1 := end_ k k' h
          have h2 := end_ k' k fun x => (h x).symm
          omega
        subst e2
        rw [okSet_uniq k.2.2 k'.2.2 fun x => ?_]
        have h1 := h x
        simp only [has, List.any_cons] at h1 ⊢
        cases q : inS x (l, some y) with
        | false => simpa [q] using h1
        | true =>
          have hx := (inS_t.mp q).2 y rfl
          have a1 : ss.any (inS x) = false := by
            cases q2 : ss.any (inS x) with
            | false => rfl
            | true => have := okSet_low k.2.2 q2; omega
          have a2 : ts.any (inS x) = false := by
            cases q2 : ts.any (inS x) with
            | false => rfl
            | true => have := okSet_low k'.2.2 q2; omega
          rw [a1, a2]
end Bd
/-! set_of: the set of what its spans hold. -/
namespace Bd
open PySem PySem.Spec PyProof.Rows L2
theorem okSet_snoc {l s : Spn} (ap : apart l.2 s.1 = true) (ks : okS s) : ∀ {b : Int} {gs : List Spn}, okSet (some b) (gs ++ [l]) → okSet (some b) (gs ++ [l] ++ [s])
  | b, [], k => by
    obtain ⟨l1, l2⟩ := l
    obtain ⟨s1, s2⟩ := s
    cases l2 with
    | none => cases ap
    | some a =>
      have ap : a + 1 < s1 := of_decide_eq_true ap
      have k : b ≤ l1 ∧ l1 ≤ a ∧ True := k
      cases s2 with
      | none => exact ⟨k.1, k.2.1, by show a + 2 ≤ s1; omega, trivial⟩
      | some y => exact ⟨k.1, k.2.1, by show a + 2 ≤ s1; omega, ks.2 y rfl, trivial⟩
  | b, (g, none) :: gs, k => by
    have := k.2
    cases gs with
    | nil => exact this.elim
    | cons _ _ => exact this.elim
  | b, (g, some y) :: gs, k => ⟨k.1, k.2.1, okSet_snoc ap ks k.2.2⟩
theorem okSet_last {l s : Spn} (h : l.1 ≤ s.1) (ks : okS s) : ∀ {b : Int} {gs : List Spn}, okSet (some b) (gs ++ [l]) → okSet (some b) (gs ++ [(l.1, later l.2 s.2)])
  | b, [], k => by
    obtain ⟨l1, l2⟩ := l
    obtain ⟨s1, s2⟩ := s
    cases l2 with
    | none => exact ⟨k.1, trivial⟩
    | some a =>
      cases s2 with
      | none => exact ⟨k.1, trivial⟩
      | some y => exact ⟨k.1, by have := k.2.1; show l1 ≤ max a y; omega, trivial⟩
  | b, (g, none) :: gs, k => by
    have := k.2
    cases gs with
    | nil => exact this.elim
    | cons _ _ => exact this.elim
  | b, (g, some y) :: gs, k => ⟨k.1, k.2.1, okSet_last h ks k.2.2⟩
theorem inS_later {l s : Spn} (h : l.1 ≤ s.1) (ap : apart l.2 s.1 = false) (x : Int) : inS x (l.1, later l.2 s.2) = (inS x l || inS x s) := by
  obtain ⟨l1, l2⟩ := l
  obtain ⟨s1, s2⟩ := s
  have h : l1 ≤ s1 := h
  rw [Bool.eq_iff_iff, Bool.or_eq_true, inS_t, inS_t, inS_t]
  cases l2 with
  | none =>
    simp only [later]
    constructor
    · intro q; exact .inl ⟨q.1, fun y e => nomatch e⟩
    · rintro (q | q)
      · exact ⟨q.1, fun y e => nomatch e⟩
      · exact ⟨by show l1 ≤ x; have : s1 ≤ x := q.1; omega, fun y e => nomatch e⟩
  | some a =>
    have ap : ¬ (a + 1 < s1) := of_decide_eq_false ap
    cases s2 with
    | none =>
      simp only [later]
      constructor
      · intro q
        by_cases q2 : x ≤ a
        · exact .inl ⟨q.1, fun y e => by cases e; exact q2⟩
        · exact .inr ⟨by show s1 ≤ x; omega, fun y e => nomatch e⟩
      · rintro (q | q)
        · exact ⟨q.1, fun y e => nomatch e⟩
        · exact ⟨by show l1 ≤ x; have : s1 ≤ x := q.1; omega, fun y e => nomatch e⟩
    | some y =>
      simp only [later]
      constructor
      · intro q
        have q3 := q.2 _ rfl
        by_cases q2 : x ≤ a
        · exact .inl ⟨q.1, fun y e => by cases e; exact q2⟩
        · exact .inr ⟨by show s1 ≤ x; omega, fun z e => by cases e; omega⟩
      · rintro (q | q)
        · have q3 := q.2 _ rfl
          exact ⟨q.1, fun z e => by cases e; omega⟩
        · have q3 := q.2 _ rfl
          exact ⟨by show l1 ≤ x; have : s1 ≤ x := q.1; omega, fun z e => by cases e; omega⟩
theorem has_app (a b : List Spn) (x : Int) : has (a ++ b) x = (has a x || has b x) := List.any_append
theorem has_one (s : Spn) (x : Int) : has [s] x = inS x s := by simp [has]
theorem fold_ok : ∀ (rest fs : List Spn), rest.Pairwise (fun a b => a.1 ≤ b.1) → okSet (some 0) fs → (∀ l, fs.getLast? = some l → ∀ s ∈ rest, l.1 ≤ s.1) → (∀ s ∈ rest, okS s) → okSet (some 0) (rest.foldl mstep fs) ∧ ∀ x, has (rest.foldl mstep fs) x = (has fs x || has rest x)
  | [], fs, _, k, _, _ => ⟨k, fun x => by simp [has]⟩
  | s :: rest, fs, pw, k, hl, hs => by
    obtain ⟨p1, p2⟩ := List.pairwise_cons.mp pw
    have ks := hs s (List.mem_cons_self ..)
    have hs2 := fun t ht => hs t (List.mem_cons_of_mem _ ht)
    have one : okSet (some 0) (mstep fs s) ∧ (∀ l, (mstep fs s).getLast? = some l → ∀ t ∈ rest, l.1 ≤ t.1) ∧ ∀ x, has (mstep fs s) x = (has fs x || inS x s) := by
      rcases List.eq_nil_or_concat fs with rfl | ⟨gs, l, rfl⟩
      · obtain ⟨s1, s2⟩ := s
        refine ⟨?_, fun l e t ht => ?_, fun x => by simp [mstep, has]⟩
        · cases s2 with
          | none => exact ⟨ks.1, trivial⟩
          | some y => exact ⟨ks.1, ks.2 y rfl, trivial⟩
        · have e : some (s1, s2) = some l := e
          cases e
          exact p1 t ht
      · rw [List.concat_eq_append] at k hl ⊢
        have hls : l.1 ≤ s.1 := hl l (by simp) s (List.mem_cons_self ..)
        cases ap : apart l.2 s.1 with
        | true =>
          have e : mstep (gs ++ [l]) s = gs ++ [l] ++ [s] := by simp [mstep, ap]
          rw [e]
          refine ⟨okSet_snoc ap ks k, fun l' e' t ht => ?_, fun x => by rw [has_app, has_one]⟩
          have e' : some s = some l' := by rw [← e']; simp
          cases e'
          exact p1 t ht
        | false =>
          have e : mstep (gs ++ [l]) s = gs ++ [(l.1, later l.2 s.2)] := by simp [mstep, ap]
          rw [e]
          refine ⟨okSet_last hls ks k, fun l' e' t ht => ?_, fun x => ?_⟩
          · have e' : some (l.1, later l.2 s.2) = some l' := by rw [← e']; simp
            cases e'
            exact Int.le_trans hls (p1 t ht)
          · rw [has_app, has_app, has_one, has_one, inS_later hls ap, Bool.or_assoc]
    obtain ⟨o1, o2, o3⟩ := one
    obtain ⟨f1, f2⟩ := fold_ok rest (mstep fs s) p2 o1 o2 hs2
    refine ⟨f1, fun x => ?_⟩
    rw [List.foldl_cons, f2, o3]
    simp [has, Bool.or_assoc]
theorem setOf_ok (ss : List Spn) (h : ∀ s ∈ ss, okS s) : okSet (some 0) (setOf ss) ∧ ∀ x, has (setOf ss) x = has ss x := by
  have perm : (sortS ss).Perm ss := List.mergeSort_perm _ _
  have pw : (sortS ss).Pairwise (fun a b => a.1 ≤ b.1) := by
    have := List.pairwise_mergeSort (le := fun a b : Spn => decide (a.1 ≤ b.1)) (fun a b c h1 h2 => by simp at h1 h2 ⊢; omega) (fun a b => by simp; omega) ss
    exact this.imp fun h => by simpa using h
  obtain ⟨f1, f2⟩ := fold_ok (sortS ss) [] pw trivial (fun l e => by cases e) (fun s hs => h s (perm.mem_iff.mp hs))
  refine ⟨f1, fun x => ?_⟩
  show has ((sortS ss).foldl mstep []) x = _
  rw [f2]
  have : has (sortS ss) x = has ss x := by
    unfold has
    rw [Bool.eq_iff_iff, List.any_eq_true, List.any_eq_true]
    exact ⟨fun ⟨s, a, b⟩ => ⟨s, perm.mem_iff.mp a, b⟩, fun ⟨s, a, b⟩ => ⟨s, perm.mem_iff.mpr a, b⟩⟩
  rw [this]
  simp [has]
end Bd
/-! what _law_told gives -/
namespace Bd
open PySem PySem.Spec PyProof.Rows L2
theorem okSet_add {lo : Int} {o : Option Int} (ho : ∀ y, o = some y → lo ≤ y) : ∀ {b : Int} {fs : List Spn}, okSet (some b) fs → b ≤ lo → (∀ x, has fs x = true → x + 2 ≤ lo) → okSet (some b) (fs ++ [(lo, o)])
  | b, [], _, hb, _ => by
    cases o with
    | none => exact ⟨hb, trivial⟩
    | some y => exact ⟨hb, ho y rfl, trivial⟩
  | b, (l, none) :: fs, k, hb, h => by
    exfalso
    have := h (max l lo) (by simp [has, inS]; exact .inl (by omega))
    omega
  | b, (l, some y) :: fs, k, hb, h => by
    have h1 := h y (by have := k.2.1; simp [has, inS]; exact .inl this)
    exact ⟨k.1, k.2.1, okSet_add ho k.2.2 h1 fun x hx => h x (by simp only [has, List.any_cons] at hx ⊢; rw [hx, Bool.or_true])⟩
structure TI (P : Int → Bool) (k : Nat) : Prop where
  ok : okSet (some 0) (tld P k).1
  run : P ((k : Int) - 1) = true → 0 ≤ (tld P k).2 ∧ (tld P k).2 ≤ (k : Int) - 1 ∧ (∀ x, (tld P k).2 ≤ x → x ≤ (k : Int) - 1 → P x = true) ∧ P ((tld P k).2 - 1) = false
  mem : ∀ x, has (tld P k).1 x = true ↔ 0 ≤ x ∧ x < (if P ((k : Int) - 1) = true ∧ P k = true then (tld P k).2 else (k : Int)) ∧ P x = true
/-- one number on, whatever stands at the end of what is appended -/
theorem ti_run {P : Int → Bool} {k : Nat} (t : TI P k) (hP : P (-1) = false) (pk : P k = true) : 0 ≤ (tld P (k + 1)).2 ∧ (tld P (k + 1)).2 ≤ (k : Int) ∧ (∀ x, (tld P (k + 1)).2 ≤ x → x ≤ (k : Int) → P x = true) ∧ P ((tld P (k + 1)).2 - 1) = false ∧ ∀ x, has (tld P k).1 x = true ↔ 0 ≤ x ∧ x < (tld P (k + 1)).2 ∧ P x = true := by
  rw [tld_succ]
  cases pm : P ((k : Int) - 1) with
  | true =>
    obtain ⟨r1, r2, r3, r4⟩ := t.run pm
    have hm := t.mem
    rw [if_pos ⟨pm, pk⟩] at hm
    simp only [pk, Bool.not_true, Bool.and_false, Bool.false_eq_true, if_false]
    refine ⟨r1, by omega, fun x h1 h2 => ?_, r4, hm⟩
    by_cases q : x = k
    · rw [q]; exact pk
    · exact r3 x h1 (by omega)
  | false =>
    have hm := t.mem
    rw [if_neg (by rw [pm]; simp)] at hm
    simp only [pk, Bool.not_false, Bool.and_self, if_true]
    refine ⟨by omega, Int.le_refl _, fun x h1 h2 => ?_, pm, hm⟩
    have : x = k := by omega
    rw [this]; exact pk
theorem ti {P : Int → Bool} (hP : P (-1) = false) : ∀ k : Nat, k ≤ 40 → TI P k
  | 0, _ => by
    have e : ((0 : Nat) : Int) - 1 = -1 := rfl
    refine ⟨trivial, fun h => ?_, fun x => ?_⟩
    · rw [e, hP] at h; cases h
    · rw [if_neg (by rw [e, hP]; simp)]
      constructor
      · intro h; simp [has, tld] at h
      · intro h; exfalso; have h1 := h.1; have h2 := h.2.1; omega
  | k + 1, hk => by
    have t := ti hP k (by omega)
    have ck : ((k + 1 : Nat) : Int) - 1 = (k : Int) := by omega
    have ck2 : ((k + 1 : Nat) : Int) = (k : Int) + 1 := by omega
    cases pk : P k with
    | false =>
      have e1 : (tld P (k + 1)).1 = (tld P k).1 := by rw [tld_succ]; simp [pk]
      refine ⟨by rw [e1]; exact t.ok, fun h => ?_, fun x => ?_⟩
      · rw [ck, pk] at h; cases h
      · rw [e1, t.mem, ck, if_neg (by rw [pk]; simp), if_neg (by rw [pk]; simp), ck2]
        constructor
        · rintro ⟨h1, h2, h3⟩; exact ⟨h1, by omega, h3⟩
        · rintro ⟨h1, h2, h3⟩
          refine ⟨h1, ?_, h3⟩
          by_cases q : x = k
          · rw [q, pk] at h3; cases h3
          · omega
    | true =>
      obtain ⟨r1, r2, r3, r4, hm⟩ := ti_run t hP pk
      cases pn : P ((k : Int) + 1) with
      | true =>
        have e1 : (tld P (k + 1)).1 = (tld P k).1 := by rw [tld_succ]; simp [pk, pn]
        refine ⟨by rw [e1]; exact t.ok, fun _ => by rw [ck]; exact ⟨r1, r2, r3, r4⟩, fun x => ?_⟩
        rw [e1, hm, ck, ck2, if_pos ⟨pk, pn⟩]
      | false =>
        have e1 : (tld P (k + 1)).1 = (tld P k).1 ++ [((tld P (k + 1)).2, some (k : Int))] := by
          have hk2 : ¬ k = 40 := by omega
          rw [tld_succ]
          simp [pk, pn, hk2]
        have low : ∀ x, has (tld P k).1 x = true → x + 2 ≤ (tld P (k + 1)).2 := fun x hx => by
          obtain ⟨h1, h2, h3⟩ := (hm x).mp hx
          by_cases q : x = (tld P (k + 1)).2 - 1
          · rw [q, r4] at h3; cases h3
          · omega
        refine ⟨?_, fun _ => by rw [ck]; exact ⟨r1, r2, r3, r4⟩, fun x => ?_⟩
        · rw [e1]
          exact okSet_add (fun y e => by cases e; exact r2) t.ok r1 low
        · rw [e1, has_app, Bool.or_eq_true, has_one, inS_t, hm, ck, ck2, if_neg (by rw [pn]; simp)]
          constructor
          · rintro (⟨h1, h2, h3⟩ | ⟨h1, h2⟩)
            · exact ⟨h1, by omega, h3⟩
            · have h2 := h2 _ rfl
              have h1 : (tld P (k + 1)).2 ≤ x := h1
              exact ⟨by omega, by omega, r3 x h1 h2⟩
          · rintro ⟨h1, h2, h3⟩
            by_cases q : x < (tld P (k + 1)).2
            · exact .inl ⟨h1, q, h3⟩
            · exact .inr ⟨by show (tld P (k + 1)).2 ≤ x; omega, fun y e => by cases e; omega⟩
theorem told_set {P : Int → Bool} (hP : P (-1) = false) (h41 : P 41 = false) : okSet (some 0) (tld P 41).1 ∧ ∀ x, has (tld P 41).1 x = true ↔ (0 ≤ x ∧ x ≤ 40 ∧ P x = true) ∨ (40 < x ∧ P 40 = true) := by
  have t := ti hP 40 (Nat.le_refl _)
  have ck : ((40 : Nat) : Int) = 40 := rfl
  cases pk : P (40 : Int) with
  | false =>
    have e1 : (tld P 41).1 = (tld P 40).1 := by rw [tld_succ]; simp [pk]
    refine ⟨by rw [e1]; exact t.ok, fun x => ?_⟩
    rw [e1, t.mem, ck, if_neg (by rw [pk]; simp)]
    constructor
    · rintro ⟨h1, h2, h3⟩; exact .inl ⟨h1, by omega, h3⟩
    · rintro (⟨h1, h2, h3⟩ | ⟨_, h⟩)
      · refine ⟨h1, ?_, h3⟩
        by_cases q : x = 40
        · rw [q, pk] at h3; cases h3
        · omega
      · cases h
  | true =>
    obtain ⟨r1, r2, r3, r4, hm⟩ := ti_run (k := 40) t hP pk
    have e1 : (tld P 41).1 = (tld P 40).1 ++ [((tld P 41).2, none)] := by
      rw [tld_succ]
      simp [pk, h41]
    have r2 : (tld P 41).2 ≤ 40 := r2
    have low : ∀ x, has (tld P 40).1 x = true → x + 2 ≤ (tld P 41).2 := fun x hx => by
      obtain ⟨h1, h2, h3⟩ := (hm x).mp hx
      have h2 : x < (tld P 41).2 := h2
      have r4 : P ((tld P 41).2 - 1) = false := r4
      by_cases q : x = (tld P 41).2 - 1
      · rw [q, r4] at h3; cases h3
      · omega
    refine ⟨by rw [e1]; exact okSet_add (o := none) (fun y e => by cases e) t.ok r1 low, fun x => ?_⟩
    rw [e1, has_app, Bool.or_eq_true, has_one, inS_t, hm]
    constructor
    · rintro (⟨h1, h2, h3⟩ | ⟨h1, _⟩)
      · have h2 : x < (tld P 41).2 := h2
        exact .inl ⟨h1, by omega, h3⟩
      · have h1 : (tld P 41).2 ≤ x := h1
        have r1 : 0 ≤ (tld P 41).2 := r1
        by_cases q : x ≤ 40
        · exact .inl ⟨by omega, q, r3 x h1 q⟩
        · exact .inr ⟨by omega, rfl⟩
    · rintro (⟨h1, h2, h3⟩ | ⟨h1, _⟩)
      · by_cases q : x < (tld P 41).2
        · exact .inl ⟨h1, q, h3⟩
        · exact .inr ⟨by show (tld P 41).2 ≤ x; omega, fun y e => nomatch e⟩
      · exact .inr ⟨by show (tld P 41).2 ≤ x; omega, fun y e => nomatch e⟩
end Bd
/-! the sums that k01 asks -/
namespace Bd
open PySem PySem.Spec PyProof.Rows L2
theorem okSp_S {s : Spn} (h : okSp s) : okS s := ⟨h.1, fun y e => (h.2.2 y e).1⟩
/-- far out a drawn heap holds all or nothing -/
theorem heap_far {A : List Spn} (h : ∀ s ∈ A, okSp s) {x : Int} (hx : 40 ≤ x) : has A x = has A 40 := by
  unfold has
  rw [Bool.eq_iff_iff, List.any_eq_true, List.any_eq_true]
  constructor
  · rintro ⟨s, hs, hi⟩
    refine ⟨s, hs, inS_t.mpr ⟨?_, fun y e => ?_⟩⟩
    · have := (h s hs).2.1; omega
    · have h1 := ((h s hs).2.2 y e).2
      have h2 := (inS_t.mp hi).2 y e
      omega
  · rintro ⟨s, hs, hi⟩
    refine ⟨s, hs, inS_t.mpr ⟨?_, fun y e => ?_⟩⟩
    · have := (h s hs).2.1; omega
    · have h1 := ((h s hs).2.2 y e).2
      have h2 := (inS_t.mp hi).2 y e
      omega
theorem heap_neg {A : List Spn} (h : ∀ s ∈ A, okS s) {x : Int} (hx : x < 0) : has A x = false := by
  unfold has
  rw [List.any_eq_false]
  intro s hs hi
  have h1 := (inS_t.mp hi).1
  have h2 := (h s hs).1
  omega
/-- a set from spans, told from a list of numbers -/
theorem set_told {ss : List Spn} (hs : ∀ s ∈ ss, okS s) {L : List Int} (hL : ∀ x, x ∈ L ↔ 0 ≤ x ∧ x ≤ 40 ∧ has ss x = true) (far : ∀ x, 40 ≤ x → has ss x = has ss 40) : setOf ss = (tld (fun x => decide (x ∈ L)) 41).1 := by
  obtain ⟨k1, k2⟩ := setOf_ok ss hs
  obtain ⟨t1, t2⟩ := told_set (P := fun x => decide (x ∈ L)) (decide_eq_false fun z => by have := ((hL _).mp z).1; omega) (decide_eq_false fun z => by have := ((hL _).mp z).2.1; omega)
  refine okSet_uniq k1 t1 fun x => ?_
  rw [k2, Bool.eq_iff_iff, t2]
  simp only [decide_eq_true_eq, hL]
  by_cases q : x ≤ 40
  · by_cases q2 : 0 ≤ x
    · constructor
      · intro h; exact .inl ⟨q2, q, q2, q, h⟩
      · rintro (⟨_, _, _, _, h⟩ | ⟨h, _⟩)
        · exact h
        · omega
    · constructor
      · intro h; rw [heap_neg hs (by omega)] at h; cases h
      · rintro (⟨h, _⟩ | ⟨h, _⟩) <;> omega
  · rw [far x (by omega)]
    constructor
    · intro h; exact .inr ⟨by omega, by omega, by omega, h⟩
    · rintro (⟨_, h, _⟩ | ⟨_, _, _, h⟩)
      · omega
      · exact h
theorem okSet_S : ∀ {b : Int} {ss : List Spn}, 0 ≤ b → okSet (some b) ss → ∀ s ∈ ss, okS s
  | b, [], _, _, s, hs => by cases hs
  | b, (l, none) :: r, hb, k, s, hs => by
    rcases List.mem_cons.mp hs with rfl | hs
    · exact ⟨by have := k.1; show 0 ≤ l; omega, fun y e => nomatch e⟩
    · have := k.2
      cases r with
      | nil => cases hs
      | cons _ _ => exact this.elim
  | b, (l, some y) :: r, hb, k, s, hs => by
    have h1 := k.1
    have h2 := k.2.1
    rcases List.mem_cons.mp hs with rfl | hs
    · exact ⟨by show 0 ≤ l; omega, fun z e => by cases e; exact h2⟩
    · exact okSet_S (by omega) k.2.2 s hs
def fitB (a b : Spn) : Bool := match earlier a.2 b.2 with
  | none => true
  | some y => decide (max a.1 b.1 ≤ y)
theorem pairS_eq (a b : Spn) : pairS a b = if fitB a b = true then some (max a.1 b.1, earlier a.2 b.2) else none := rfl
theorem fitB_t {a b : Spn} : fitB a b = true ↔ ∀ y, earlier a.2 b.2 = some y → max a.1 b.1 ≤ y := by
  unfold fitB
  cases earlier a.2 b.2 with
  | none => simp
  | some z => simp
theorem pairS_ok {a b p : Spn} (ha : okS a) (hb : okS b) (h : pairS a b = some p) : okS p := by
  rw [pairS_eq] at h
  split at h
  · rename_i c
    cases h
    exact ⟨by have := ha.1; show 0 ≤ max a.1 b.1; omega, fun y e => fitB_t.mp c y e⟩
  · cases h
theorem earlier_t {a b : Option Int} {x : Int} : (∀ y, earlier a b = some y → x ≤ y) ↔ (∀ y, a = some y → x ≤ y) ∧ (∀ y, b = some y → x ≤ y) := by
  cases a with
  | none => cases b <;> simp [earlier]
  | some a =>
    cases b with
    | none => simp [earlier]
    | some b =>
      simp only [earlier, Option.some.injEq, forall_eq']
      omega
theorem pairS_in {a b : Spn} {x : Int} : (∃ p, pairS a b = some p ∧ inS x p = true) ↔ inS x a = true ∧ inS x b = true := by
  rw [inS_t, inS_t]
  constructor
  · rintro ⟨p, h1, h2⟩
    rw [pairS_eq] at h1
    split at h1
    · cases h1
      obtain ⟨h3, h4⟩ := inS_t.mp h2
      have h3 : max a.1 b.1 ≤ x := h3
      have h4 := earlier_t.mp h4
      exact ⟨⟨by omega, h4.1⟩, by omega, h4.2⟩
    · cases h1
  · rintro ⟨⟨h1, h2⟩, h3, h4⟩
    have h5 := earlier_t.mpr ⟨h2, h4⟩
    have c : fitB a b = true := fitB_t.mpr fun y e => by have := h5 y e; omega
    exact ⟨_, by rw [pairS_eq, if_pos c], inS_t.mpr ⟨by show max a.1 b.1 ≤ x; omega, h5⟩⟩
theorem meetP_has (xs ys : List Spn) (x : Int) : has (meetP xs ys) x = (has xs x && has ys x) := by
  unfold has
  rw [Bool.eq_iff_iff, Bool.and_eq_true, List.any_eq_true, List.any_eq_true, List.any_eq_true]
  constructor
  · rintro ⟨p, hp, hi⟩
    obtain ⟨a, ha, hp⟩ := List.mem_flatMap.mp hp
    obtain ⟨b, hb, hp⟩ := List.mem_filterMap.mp hp
    obtain ⟨h1, h2⟩ := pairS_in.mp ⟨p, hp, hi⟩
    exact ⟨⟨a, ha, h1⟩, b, hb, h2⟩
  · rintro ⟨⟨a, ha, h1⟩, b, hb, h2⟩
    obtain ⟨p, hp, hi⟩ := pairS_in.mpr ⟨h1, h2⟩
    exact ⟨p, List.mem_flatMap.mpr ⟨a, ha, List.mem_filterMap.mpr ⟨b, hb, hp⟩⟩, hi⟩
theorem meetP_S {xs ys : List Spn} (hx : ∀ s ∈ xs, okS s) (hy : ∀ s ∈ ys, okS s) : ∀ s ∈ meetP xs ys, okS s := fun s hs => by
  obtain ⟨a, ha, hp⟩ := List.mem_flatMap.mp hs
  obtain ⟨b, hb, hp⟩ := List.mem_filterMap.mp hp
  exact pairS_ok (hx a ha) (hy b hb) hp
theorem preS_has (st l x : Int) : has (preS st l) x = true ↔ st ≤ x ∧ x < l := by
  unfold preS
  split
  · rw [has_one, inS_t]
    constructor
    · intro h; have := h.2 _ rfl; have h1 : st ≤ x := h.1; omega
    · intro h; exact ⟨h.1, fun y e => by cases e; omega⟩
  · simp [has]; omega
/-- the rest: what a set does not hold -/
theorem restS_has : ∀ {ss : List Spn} {b st : Int}, okSet (some b) ss → st ≤ b → ∀ x, has (restS st ss) x = true ↔ st ≤ x ∧ has ss x = false
  | [], b, st, _, _, x => by
    rw [show restS st [] = [(st, none)] from rfl, has_one, inS_t]
    constructor
    · intro h; exact ⟨h.1, rfl⟩
    · intro h; exact ⟨h.1, fun y e => nomatch e⟩
  | (l, none) :: r, b, st, k, hb, x => by
    have hr : r = [] := by
      have := k.2
      cases r with
      | nil => rfl
      | cons _ _ => exact this.elim
    subst hr
    rw [show restS st [(l, none)] = preS st l from rfl, preS_has, has_one, ← Bool.not_eq_true, inS_t]
    constructor
    · intro h; exact ⟨h.1, fun z => by have z1 : l ≤ x := z.1; omega⟩
    · intro h
      refine ⟨h.1, ?_⟩
      by_cases q : x < l
      · exact q
      · exact absurd ⟨by show l ≤ x; omega, fun y e => nomatch e⟩ h.2
  | (l, some y) :: r, b, st, k, hb, x => by
    have k1 := k.1
    have k2 := k.2.1
    rw [show restS st ((l, some y) :: r) = preS st l ++ restS (y + 1) r from rfl, has_app, Bool.or_eq_true, preS_has, restS_has k.2.2 (by omega)]
    have e : has ((l, some y) :: r) x = (inS x (l, some y) || has r x) := rfl
    rw [e, Bool.or_eq_false_iff]
    have hi : inS x (l, some y) = false ↔ ¬ (l ≤ x ∧ x ≤ y) := by
      rw [← Bool.not_eq_true, inS_t]
      constructor
      · intro h z; exact h ⟨z.1, fun w e => by cases e; exact z.2⟩
      · intro h z; exact h ⟨z.1, z.2 _ rfl⟩
    rw [hi]
    constructor
    · rintro (h | h)
      · refine ⟨h.1, by omega, ?_⟩
        cases q : has r x with
        | false => rfl
        | true => have := okSet_low k.2.2 q; omega
      · exact ⟨by omega, by omega, h.2⟩
    · rintro ⟨h1, h2, h3⟩
      by_cases q : x < l
      · exact .inl ⟨h1, q⟩
      · exact .inr ⟨by omega, h3⟩
theorem restS_S : ∀ {ss : List Spn} {b st : Int}, okSet (some b) ss → st ≤ b → 0 ≤ st → ∀ s ∈ restS st ss, okS s
  | [], b, st, _, _, h0, s, hs => by
    rw [List.mem_singleton.mp hs]
    exact ⟨h0, fun y e => nomatch e⟩
  | (l, none) :: r, b, st, k, hb, h0, s, hs => by
    have hs : s ∈ preS st l := hs
    unfold preS at hs
    split at hs
    · rw [List.mem_singleton.mp hs]
      exact ⟨h0, fun y e => by cases e; show st ≤ l - 1; omega⟩
    · cases hs
  | (l, some y) :: r, b, st, k, hb, h0, s, hs => by
    have k1 := k.1
    have k2 := k.2.1
    rcases List.mem_append.mp (show s ∈ preS st l ++ restS (y + 1) r from hs) with hs | hs
    · unfold preS at hs
      split at hs
      · rw [List.mem_singleton.mp hs]
        exact ⟨h0, fun y e => by cases e; show st ≤ l - 1; omega⟩
      · cases hs
    · exact restS_S k.2.2 (by omega) (by omega) s hs
end Bd
namespace Bd
open PySem PySem.Spec PyProof.Rows L2
variable {con : Str → Option W} {fuel : Nat}
theorem asg_ok {C : Ctx} {t : Tg} {e : E} {σ σ1 : Env} {h h1 : Hw} {w : W} (k : ev C σ e .val h = .ok w h1) (b : bindT t w σ = some σ1) : exS C (.asg t e) σ h = .next σ1 h1 := by
  rw [exS, k]
  show (match bindT t w σ with
    | some σ => Out.next σ h1
    | none => .bad) = _
  rw [b]
def nums : List Int := (List.range 41).map fun (k : Nat) => (k : Int)
theorem mem_nums {x : Int} : x ∈ nums ↔ 0 ≤ x ∧ x ≤ 40 := by
  unfold nums
  rw [List.mem_map]
  constructor
  · rintro ⟨k, hk, rfl⟩
    have := List.mem_range.mp hk
    omega
  · intro h
    exact ⟨x.toNat, List.mem_range.mpr (by omega), by omega⟩
theorem nums_W : ((List.range 41).map fun (k : Nat) => W.int (k : Int)) = nums.map W.int := by
  unfold nums
  rw [List.map_map]
  rfl
def inI (A : List Spn) : List Int := nums.filter (has A)
theorem filt_map (p : Int → Bool) : ∀ l : List Int, (l.map W.int).filterMap (fun w => match w with
    | .int x => if p x then some (W.int x) else none
    | _ => none) = (l.filter p).map W.int
  | [] => rfl
  | x :: l => by
    rw [List.map_cons, List.filterMap_cons, List.filter_cons, filt_map p l]
    cases q : p x <;> simp [q]
theorem rng41 {C : Ctx} {σ : Env} {h : Hw} : evSrc C σ (.rng [(.int 41)]) .opd h = .ok (nums.map W.int) h := by
  rw [← nums_W]
  simp [exSs, exS, ev, evs, evo, evc, evAnd, evOr, evSrc, fin, bind_ok, of_ok, then_ok, still_ok, runFn, finFn, bindT, bindTs, look, lookO, truW, view, plOf, Pl.get, Pl.put, Pl.isLst, appOb, setOb, setOwn, isN, isB, Md.sub, Md.neg, binW, cmpW, ltW, gtW, leW, ixW, slW, intW, biW, clsW, isTy, rngW, seqW, Ob.w, wipeW, Tg.vars, Tg.varss, Option.map_some, Option.map_none, Option.bind_some, Option.bind_none, List.any_cons, List.any_nil, List.all_cons, List.all_nil, List.map_cons, List.map_nil, List.length_cons, List.length_nil, List.getElem?_cons_zero, List.getElem?_cons_succ, List.getElem?_nil, List.set_cons_zero, List.set_cons_succ, List.replicate, List.cons_append, List.nil_append, Nat.reduceAdd, Nat.reduceSub, Nat.reduceLT, Nat.reduceLeDiff, Nat.lt_add_one, reduceCtorEq, if_true, if_false, ite_true, ite_false, Bool.not_true, Bool.not_false, Bool.true_or, Bool.false_or, Bool.or_false, Bool.or_true, Bool.and_true, Bool.true_and, Bool.false_and, Bool.and_false]
theorem in_lc (n : Nat) (h : Hw) (A : List Spn) (hl : A.length < 1000) (s0 s1 s2 s3 s4 s5 s6 s7 s8 s9 s11 : Sl) : ev ⟨callF Tt con fuel (n + 1), con, fuel⟩ [s0, s1, s2, s3, s4, s5, s6, s7, s8, s9, .v (.lst (A.map sW)), s11] (.lc (.var 9) (.var 9) (.rng [(.int 41)]) (.some (.call "_law_in" [(.var 10), (.var 9)]))) .val h = .ok (.lst ((inI A).map W.int)) h := by
  refine ev_lc (by decide) rng41 (by rw [List.length_map]; show nums.length ≤ _; decide) ?_
  unfold inI
  rw [← filt_map]
  refine lc_ok fun w hw => ?_
  obtain ⟨x, _, rfl⟩ := List.mem_map.mp hw
  have e := in_ok (con := con) (fuel := fuel) n h A x hl
  have e2 : A.any (inS x) = has A x := rfl
  rw [e2] at e
  cases q : has A x <;> simp [lcT, exSs, exS, ev, evs, evo, evc, evAnd, evOr, evSrc, fin, bind_ok, of_ok, then_ok, still_ok, runFn, finFn, bindT, bindTs, look, lookO, truW, view, plOf, Pl.get, Pl.put, Pl.isLst, appOb, setOb, setOwn, isN, isB, Md.sub, Md.neg, binW, cmpW, ltW, gtW, leW, ixW, slW, intW, biW, clsW, isTy, rngW, seqW, Ob.w, wipeW, Tg.vars, Tg.varss, Option.map_some, Option.map_none, Option.bind_some, Option.bind_none, List.any_cons, List.any_nil, List.all_cons, List.all_nil, List.map_cons, List.map_nil, List.length_cons, List.length_nil, List.getElem?_cons_zero, List.getElem?_cons_succ, List.getElem?_nil, List.set_cons_zero, List.set_cons_succ, List.replicate, List.cons_append, List.nil_append, Nat.reduceAdd, Nat.reduceSub, Nat.reduceLT, Nat.reduceLeDiff, Nat.lt_add_one, reduceCtorEq, if_true, if_false, ite_true, ite_false, Bool.not_true, Bool.not_false, Bool.true_or, Bool.false_or, Bool.or_false, Bool.or_true, Bool.and_true, Bool.true_and, Bool.false_and, Bool.and_false, e, q]
theorem holds_loop (n : Nat) (h : Hw) (S : W) (A sA : List Spn) (hl : A.length < 1000) (hs : ∀ x, has sA x = has A x) (k : Int) (heaps sets : List W) (e1 : L2.atI sets k = some (setW sA)) (e2 : L2.atI heaps k = some (.lst (A.map sW))) (s4 s6 s7 s8 s10 s11 : Sl) : ∀ (xs : List Int) (s9 : Sl), ∃ t9, forRun (fun x σ h => match bindT (.var 9) x σ with
    | some σ => exSs ⟨callF Tt con fuel (n + 2), con, fuel⟩ [.ite (.not (.call "_law_same" [(.call "holds" [(.ix (.var 3) (.var 5)), (.var 9)]), (.call "_law_in" [(.ix (.var 2) (.var 5)), (.var 9)])])) [
        .ret (.bl false)] []] σ h
    | none => .bad) (xs.map W.int) [.v S, .v (.ref 0), .v (.lst heaps), .v (.lst sets), s4, .v (.int k), s6, s7, s8, s9, s10, s11] h = .next [.v S, .v (.ref 0), .v (.lst heaps), .v (.lst sets), s4, .v (.int k), s6, s7, s8, t9, s10, s11] h
  | [], s9 => ⟨s9, rfl⟩
  | x :: xs, s9 => by
    obtain ⟨t9, k9⟩ := holds_loop n h S A sA hl hs k heaps sets e1 e2 s4 s6 s7 s8 s10 s11 xs (.v (.int x))
    refine ⟨t9, for_cons (σ1 := [.v S, .v (.ref 0), .v (.lst heaps), .v (.lst sets), s4, .v (.int k), s6, s7, s8, .v (.int x), s10, s11]) (h1 := h) ?_ k9⟩
    have a1 : callF Tt con fuel (n + 2) "holds" [setW sA, .int x] h = .ok (.bl (has A x)) h := by
      rw [← hs x]; exact holds_ok (n + 1) h sA x
    have a2 : callF Tt con fuel (n + 2) "_law_in" [.lst (A.map sW), .int x] h = .ok (.bl (has A x)) h := in_ok (n + 1) h A x hl
    have a3 := same_bl (con := con) (fuel := fuel) (n + 1) h (has A x)
    simp [exSs, exS, ev, evs, evo, evc, evAnd, evOr, evSrc, fin, bind_ok, of_ok, then_ok, still_ok, runFn, finFn, bindT, bindTs, look, lookO, truW, view, plOf, Pl.get, Pl.put, Pl.isLst, appOb, setOb, setOwn, isN, isB, Md.sub, Md.neg, binW, cmpW, ltW, gtW, leW, ixW, slW, intW, biW, clsW, isTy, rngW, seqW, Ob.w, wipeW, Tg.vars, Tg.varss, Option.map_some, Option.map_none, Option.bind_some, Option.bind_none, List.any_cons, List.any_nil, List.all_cons, List.all_nil, List.map_cons, List.map_nil, List.length_cons, List.length_nil, List.getElem?_cons_zero, List.getElem?_cons_succ, List.getElem?_nil, List.set_cons_zero, List.set_cons_succ, List.replicate, List.cons_append, List.nil_append, Nat.reduceAdd, Nat.reduceSub, Nat.reduceLT, Nat.reduceLeDiff, Nat.lt_add_one, reduceCtorEq, if_true, if_false, ite_true, ite_false, Bool.not_true, Bool.not_false, Bool.true_or, Bool.false_or, Bool.or_false, Bool.or_true, Bool.and_true, Bool.true_and, Bool.false_and, Bool.and_false, e1, e2, a1, a2, a3]
end Bd
namespace Bd
open PySem PySem.Spec PyProof.Rows L2
variable {con : Str → Option W} {fuel : Nat}
/-! ### == of sets -/
def optD : Option Int → PyData
  | none => .none
  | some i => .int i
def sD (s : Spn) : PyData := .tuple [.int s.1, optD s.2]
theorem toPy_sets : ∀ ss : List Spn, toPys (ss.map sW) = some (ss.map sD)
  | [] => rfl
  | (l, o) :: ss => by
    rw [List.map_cons]
    unfold toPys
    rw [toPy_sets ss]
    cases o <;> rfl
theorem eqv_sets : ∀ ss : List Spn, PyData.eqvAll (ss.map sD) (ss.map sD) = true
  | [] => by simp [PyData.eqvAll]
  | (l, o) :: ss => by
    rw [List.map_cons]
    have := eqv_sets ss
    cases o <;> simp [PyData.eqvAll, sD, optD, PyData.eqv, this]
theorem depth_sets : ∀ ss : List Spn, PyData.depthAll (ss.map sD) ≤ 1
  | [] => by simp [PyData.depthAll]
  | (l, o) :: ss => by
    rw [List.map_cons]
    have := depth_sets ss
    cases o <;> simp [PyData.depthAll, sD, optD, PyData.depth, this]
theorem eqW_set (ss : List Spn) : eqW (setW ss) (setW ss) = some true := by
  have e : toPy (setW ss) = some (.tuple (ss.map sD)) := by
    show (toPys (ss.map sW)).map PyData.tuple = _
    rw [toPy_sets]
    rfl
  have d : (PyData.tuple (ss.map sD)).depth ≤ 64 := by
    have := depth_sets ss
    simp only [PyData.depth]
    omega
  unfold eqW
  rw [e]
  show (if (PyData.tuple (ss.map sD)).depth ≤ 64 ∧ (PyData.tuple (ss.map sD)).depth ≤ 64 then some (PyData.eqv (.tuple (ss.map sD)) (.tuple (ss.map sD))) else none) = _
  rw [if_pos ⟨d, d⟩]
  congr 1
  rw [PyData.eqv]
  exact eqv_sets ss
end Bd
namespace Bd
open PySem PySem.Spec PyProof.Rows L2
variable {con : Str → Option W} {fuel : Nat}
theorem hz9 : sizeLine = 16777216 := by decide
theorem setOf_len5 {A : List Spn} (h : A.length ≤ 5) : (setOf A).length ≤ 5 := Nat.le_trans (setOf_len A) h
/-- the three asked of a wrong thing -/
theorem wrong_turn (n : Nat) (ns : List Int) (a : Nat) (b c : Int) (σ : Env) (h1 : σ[1]? = some (.v (.ref 0))) (x : W) (h11 : 11 < σ.length) (hne : (wipeW σ [11])[1]? = some (.v (.ref 0))) : ∃ a' b' c', lcT ⟨callF Tt con fuel (n + 2), con, fuel⟩ σ (.notb (.call "is_set" [(.call "_law_wrong" [(.var 1)])]) false) (.var 11) .none x [D ns a b c] = .ok (some (.bl false)) [D ns a' b' c'] := by
  obtain ⟨w, a', b', c', e1, e2⟩ := wrong_ok (con := con) (fuel := fuel) n ns a b c
  have e3 := wrong_no (con := con) (fuel := fuel) n [D ns a' b' c'] w e2
  refine ⟨a', b', c', ?_⟩
  have hl : 11 < (wipeW σ [11]).length := by simpa [wipeW] using h11
  have e4 : ((wipeW σ [11]).set 11 (.v x))[1]? = some (.v (.ref 0)) := by
    rw [List.getElem?_set_ne (by decide)]
    exact hne
  unfold lcT
  have eb : bindT (.var 11) x (wipeW σ (Tg.var 11).vars) = some ((wipeW σ [11]).set 11 (.v x)) := by
    show (if 11 < (wipeW σ [11]).length then some ((wipeW σ [11]).set 11 (.v x)) else none) = _
    rw [if_pos hl]
  rw [eb]
  simp [exSs, exS, ev, evs, evo, evc, evAnd, evOr, evSrc, fin, bind_ok, of_ok, then_ok, still_ok, runFn, finFn, bindT, bindTs, look, lookO, truW, view, plOf, Pl.get, Pl.put, Pl.isLst, appOb, setOb, setOwn, isN, isB, Md.sub, Md.neg, binW, cmpW, ltW, gtW, leW, ixW, slW, intW, biW, clsW, isTy, rngW, seqW, Ob.w, wipeW, Tg.vars, Tg.varss, Option.map_some, Option.map_none, Option.bind_some, Option.bind_none, List.any_cons, List.any_nil, List.all_cons, List.all_nil, List.map_cons, List.map_nil, List.length_cons, List.length_nil, List.getElem?_cons_zero, List.getElem?_cons_succ, List.getElem?_nil, List.set_cons_zero, List.set_cons_succ, List.replicate, List.cons_append, List.nil_append, Nat.reduceAdd, Nat.reduceSub, Nat.reduceLT, Nat.reduceLeDiff, Nat.lt_add_one, reduceCtorEq, if_true, if_false, ite_true, ite_false, Bool.not_true, Bool.not_false, Bool.true_or, Bool.false_or, Bool.or_false, Bool.or_true, Bool.and_true, Bool.true_and, Bool.false_and, Bool.and_false, e4, h1, e1, e3]
def lbody (n : Nat) : W → Env → Hw → Out := fun x σ h => match bindT (.var 5) x σ with
  | some σ => exSs ⟨callF Tt con fuel (n + 2), con, fuel⟩ [.ite (.or [(.not (.isi (.ix (.var 3) (.var 5)) [.tuple])), (.cmp .ne (.ix (.var 3) (.var 5)) (.call "_law_told" [(.ix (.var 4) (.var 5))])), (.notb (.call "is_set" [(.ix (.var 3) (.var 5))]) true)]) [
      .ret (.bl false)] [],
    .for_ (.var 9) (.of (.bin .add (.lrng [(.int 41)]) (.lst [(.int 1000)]))) [
      .ite (.not (.call "_law_same" [(.call "holds" [(.ix (.var 3) (.var 5)), (.var 9)]), (.call "_law_in" [(.ix (.var 2) (.var 5)), (.var 9)])])) [
        .ret (.bl false)] []]] σ h
  | none => .bad
theorem lst41 {C : Ctx} {σ : Env} {h : Hw} : evSrc C σ (.of (.bin .add (.lrng [(.int 41)]) (.lst [(.int 1000)]))) .val h = .ok ((nums ++ [1000]).map W.int) h := by
  rw [List.map_append, ← nums_W]
  simp [exSs, exS, ev, evs, evo, evc, evAnd, evOr, evSrc, fin, bind_ok, of_ok, then_ok, still_ok, runFn, finFn, bindT, bindTs, look, lookO, truW, view, plOf, Pl.get, Pl.put, Pl.isLst, appOb, setOb, setOwn, isN, isB, Md.sub, Md.neg, binW, cmpW, ltW, gtW, leW, ixW, slW, intW, biW, clsW, isTy, rngW, seqW, Ob.w, wipeW, Tg.vars, Tg.varss, Option.map_some, Option.map_none, Option.bind_some, Option.bind_none, List.any_cons, List.any_nil, List.all_cons, List.all_nil, List.map_cons, List.map_nil, List.length_cons, List.length_nil, List.getElem?_cons_zero, List.getElem?_cons_succ, List.getElem?_nil, List.set_cons_zero, List.set_cons_succ, List.replicate, List.cons_append, List.nil_append, Nat.reduceAdd, Nat.reduceSub, Nat.reduceLT, Nat.reduceLeDiff, Nat.lt_add_one, reduceCtorEq, if_true, if_false, ite_true, ite_false, Bool.not_true, Bool.not_false, Bool.true_or, Bool.false_or, Bool.or_false, Bool.or_true, Bool.and_true, Bool.true_and, Bool.false_and, Bool.and_false, hz]
theorem turn_ok (n : Nat) (h : Hw) (S : W) (A : List Spn) (hl : A.length < 1000) (hs : ∀ x, has (setOf A) x = has A x) (ks : okSet (some 0) (setOf A)) (tA : setOf A = (tld (fun x => decide (x ∈ inI A)) 41).1) (neg : (-1 : Int) ∉ inI A) (k : Int) (heaps sets ins : List W) (e1 : L2.atI sets k = some (setW (setOf A))) (e2 : L2.atI heaps k = some (.lst (A.map sW)))
    (e3 : L2.atI ins k = some (.lst ((inI A).map W.int))) (s5 s6 s7 s8 s9 s10 s11 : Sl) : ∃ t9, lbody (con := con) (fuel := fuel) n (.int k) [.v S, .v (.ref 0), .v (.lst heaps), .v (.lst sets), .v (.lst ins), s5, s6, s7, s8, s9, s10, s11] h = .next [.v S, .v (.ref 0), .v (.lst heaps), .v (.lst sets), .v (.lst ins), .v (.int k), s6, s7, s8, t9, s10, s11] h := by
  obtain ⟨t9, e⟩ := holds_loop (con := con) (fuel := fuel) n h S A (setOf A) hl hs k heaps sets e1 e2 (.v (.lst ins)) s6 s7 s8 s10 s11 (nums ++ [1000]) s9
  refine ⟨t9, ?_⟩
  have eb : bindT (.var 5) (.int k) [.v S, .v (.ref 0), .v (.lst heaps), .v (.lst sets), .v (.lst ins), s5, s6, s7, s8, s9, s10, s11] = some [.v S, .v (.ref 0), .v (.lst heaps), .v (.lst sets), .v (.lst ins), .v (.int k), s6, s7, s8, s9, s10, s11] := by simp [exSs, exS, ev, evs, evo, evc, evAnd, evOr, evSrc, fin, bind_ok, of_ok, then_ok, still_ok, runFn, finFn, bindT, bindTs, look, lookO, truW, view, plOf, Pl.get, Pl.put, Pl.isLst, appOb, setOb, setOwn, isN, isB, Md.sub, Md.neg, binW, cmpW, ltW, gtW, leW, ixW, slW, intW, biW, clsW, isTy, rngW, seqW, Ob.w, wipeW, Tg.vars, Tg.varss, Option.map_some, Option.map_none, Option.bind_some, Option.bind_none, List.any_cons, List.any_nil, List.all_cons, List.all_nil, List.map_cons, List.map_nil, List.length_cons, List.length_nil, List.getElem?_cons_zero, List.getElem?_cons_succ, List.getElem?_nil, List.set_cons_zero, List.set_cons_succ, List.replicate, List.cons_append, List.nil_append, Nat.reduceAdd, Nat.reduceSub, Nat.reduceLT, Nat.reduceLeDiff, Nat.lt_add_one, reduceCtorEq, if_true, if_false, ite_true, ite_false, Bool.not_true, Bool.not_false, Bool.true_or, Bool.false_or, Bool.or_false, Bool.or_true, Bool.and_true, Bool.true_and, Bool.false_and, Bool.and_false]
  unfold lbody
  rw [eb]
  have a1 : callF Tt con fuel (n + 2) "_law_told" [.lst ((inI A).map W.int)] h = .ok (setW (setOf A)) h := by
    rw [tA]; exact told_ok (n + 1) h (inI A) neg
  have a2 : callF Tt con fuel (n + 2) "is_set" [setW (setOf A)] h = .ok (.bl true) h := is_set_ok n h (setOf A) ks
  have a3 := eqW_set (setOf A)
  refine seq_next (σ1 := [.v S, .v (.ref 0), .v (.lst heaps), .v (.lst sets), .v (.lst ins), .v (.int k), s6, s7, s8, s9, s10, s11]) (h1 := h) (ite_f (h1 := h) ?_ (by simp [exSs, exS, ev, evs, evo, evc, evAnd, evOr, evSrc, fin, bind_ok, of_ok, then_ok, still_ok, runFn, finFn, bindT, bindTs, look, lookO, truW, view, plOf, Pl.get, Pl.put, Pl.isLst, appOb, setOb, setOwn, isN, isB, Md.sub, Md.neg, binW, cmpW, ltW, gtW, leW, ixW, slW, intW, biW, clsW, isTy, rngW, seqW, Ob.w, wipeW, Tg.vars, Tg.varss, Option.map_some, Option.map_none, Option.bind_some, Option.bind_none, List.any_cons, List.any_nil, List.all_cons, List.all_nil, List.map_cons, List.map_nil, List.length_cons, List.length_nil, List.getElem?_cons_zero, List.getElem?_cons_succ, List.getElem?_nil, List.set_cons_zero, List.set_cons_succ, List.replicate, List.cons_append, List.nil_append, Nat.reduceAdd, Nat.reduceSub, Nat.reduceLT, Nat.reduceLeDiff, Nat.lt_add_one, reduceCtorEq, if_true, if_false, ite_true, ite_false, Bool.not_true, Bool.not_false, Bool.true_or, Bool.false_or, Bool.or_false, Bool.or_true, Bool.and_true, Bool.true_and, Bool.false_and, Bool.and_false])) ?_
  · unfold setW at *
    simp [exSs, exS, ev, evs, evo, evc, evAnd, evOr, evSrc, fin, bind_ok, of_ok, then_ok, still_ok, runFn, finFn, bindT, bindTs, look, lookO, truW, view, plOf, Pl.get, Pl.put, Pl.isLst, appOb, setOb, setOwn, isN, isB, Md.sub, Md.neg, binW, cmpW, ltW, gtW, leW, ixW, slW, intW, biW, clsW, isTy, rngW, seqW, Ob.w, wipeW, Tg.vars, Tg.varss, Option.map_some, Option.map_none, Option.bind_some, Option.bind_none, List.any_cons, List.any_nil, List.all_cons, List.all_nil, List.map_cons, List.map_nil, List.length_cons, List.length_nil, List.getElem?_cons_zero, List.getElem?_cons_succ, List.getElem?_nil, List.set_cons_zero, List.set_cons_succ, List.replicate, List.cons_append, List.nil_append, Nat.reduceAdd, Nat.reduceSub, Nat.reduceLT, Nat.reduceLeDiff, Nat.lt_add_one, reduceCtorEq, if_true, if_false, ite_true, ite_false, Bool.not_true, Bool.not_false, Bool.true_or, Bool.false_or, Bool.or_false, Bool.or_true, Bool.and_true, Bool.true_and, Bool.false_and, Bool.and_false, e1, e3, a1, a2, a3]
  · refine seq_next ((for_eq lst41).trans e) ?_
    simp [exSs, exS, ev, evs, evo, evc, evAnd, evOr, evSrc, fin, bind_ok, of_ok, then_ok, still_ok, runFn, finFn, bindT, bindTs, look, lookO, truW, view, plOf, Pl.get, Pl.put, Pl.isLst, appOb, setOb, setOwn, isN, isB, Md.sub, Md.neg, binW, cmpW, ltW, gtW, leW, ixW, slW, intW, biW, clsW, isTy, rngW, seqW, Ob.w, wipeW, Tg.vars, Tg.varss, Option.map_some, Option.map_none, Option.bind_some, Option.bind_none, List.any_cons, List.any_nil, List.all_cons, List.all_nil, List.map_cons, List.map_nil, List.length_cons, List.length_nil, List.getElem?_cons_zero, List.getElem?_cons_succ, List.getElem?_nil, List.set_cons_zero, List.set_cons_succ, List.replicate, List.cons_append, List.nil_append, Nat.reduceAdd, Nat.reduceSub, Nat.reduceLT, Nat.reduceLeDiff, Nat.lt_add_one, reduceCtorEq, if_true, if_false, ite_true, ite_false, Bool.not_true, Bool.not_false, Bool.true_or, Bool.false_or, Bool.or_false, Bool.or_true, Bool.and_true, Bool.true_and, Bool.false_and, Bool.and_false]
theorem rng3 {C : Ctx} {σ : Env} {h : Hw} : evSrc C σ (.rng [(.int 3)]) .opd h = .ok [.int 0, .int 1, .int 2] h := by
  simp [exSs, exS, ev, evs, evo, evc, evAnd, evOr, evSrc, fin, bind_ok, of_ok, then_ok, still_ok, runFn, finFn, bindT, bindTs, look, lookO, truW, view, plOf, Pl.get, Pl.put, Pl.isLst, appOb, setOb, setOwn, isN, isB, Md.sub, Md.neg, binW, cmpW, ltW, gtW, leW, ixW, slW, intW, biW, clsW, isTy, rngW, seqW, Ob.w, wipeW, Tg.vars, Tg.varss, Option.map_some, Option.map_none, Option.bind_some, Option.bind_none, List.any_cons, List.any_nil, List.all_cons, List.all_nil, List.map_cons, List.map_nil, List.length_cons, List.length_nil, List.getElem?_cons_zero, List.getElem?_cons_succ, List.getElem?_nil, List.set_cons_zero, List.set_cons_succ, List.replicate, List.cons_append, List.nil_append, Nat.reduceAdd, Nat.reduceSub, Nat.reduceLT, Nat.reduceLeDiff, Nat.lt_add_one, reduceCtorEq, if_true, if_false, ite_true, ite_false, Bool.not_true, Bool.not_false, Bool.true_or, Bool.false_or, Bool.or_false, Bool.or_true, Bool.and_true, Bool.true_and, Bool.false_and, Bool.and_false]
  rfl
theorem tst_bi {C : Ctx} {τ : Env} {b : Bi} {x : E} {h h1 : Hw} {w : W} {v : Bool} (k : ev C τ (.bi b [x]) .opd h = .ok w h1) (t : truW (view h1 w) = some v) : ev C τ (.bi b [x]) .tst h = .ok (.bl v) h1 := by
  have e : ev C τ (.bi b [x]) .tst h = (ev C τ (.bi b [x]) .opd h).bind fun u h => .of ((truW (view h u)).map .bl) h := rfl
  rw [e, k, bind_ok, t]
  rfl
/-- one item of a comprehension, no condition -/
theorem lcT_one {C : Ctx} {τ τ' : Env} {e : E} {t : Tg} {x w : W} {h h1 : Hw} (b : bindT t x (wipeW τ t.vars) = some τ') (k : ev C τ' e .val h = .ok w h1) : lcT C τ e t .none x h = .ok (some w) h1 := by
  unfold lcT
  rw [b]
  show ((R.ok true h).still.bind fun k h => if k then (ev C τ' e .val h).still.bind fun y h => .ok (some y) h else .ok none h) = _
  rw [still_ok, bind_ok, if_pos rfl, k]
  rfl
theorem lc_two {f : W → Hw → R (Option W)} {x y u v : W} {h h1 h2 : Hw} (e1 : f x h = .ok (some u) h1) (e2 : f y h1 = .ok (some v) h2) : lcRun f [x, y] h = .ok [u, v] h2 := by
  rw [lcRun_cons, e1, bind_ok, lcRun_cons, e2, bind_ok]
  rfl
theorem lc_three {f : W → Hw → R (Option W)} {x y z u v t : W} {h h1 h2 h3 : Hw} (e1 : f x h = .ok (some u) h1) (e2 : f y h1 = .ok (some v) h2) (e3 : f z h2 = .ok (some t) h3) : lcRun f [x, y, z] h = .ok [u, v, t] h3 := by
  rw [lcRun_cons, e1, bind_ok, lcRun_cons, e2, bind_ok, lcRun_cons, e3, bind_ok]
  rfl
/-- numbers that are kept -/
theorem lc_filt {C : Ctx} {τ : Env} {c : E} {L : List Int} {p : Int → Bool} {h : Hw} (hs : ∀ x : Int, lcT C τ (.var 9) (.var 9) (.some c) (.int x) h = .ok (if p x then some (.int x) else none) h) : lcRun (lcT C τ (.var 9) (.var 9) (.some c)) (L.map W.int) h = .ok ((L.filter p).map W.int) h := by
  rw [← filt_map]
  refine lc_ok fun w hw => ?_
  obtain ⟨x, _, rfl⟩ := List.mem_map.mp hw
  exact hs x
theorem len_nums (l : List Int) (h : l.length ≤ 41) : (l.map W.int).length ≤ sizeLine := by
  rw [List.length_map, hz]
  omega
theorem nums_len : nums.length ≤ 41 := by decide
/-- all of the law -/
theorem law_ok (n : Nat) (ns : List Int) (hl : ns.length ≤ 63) : ∃ h', callF Tt con fuel (n + 10) "law" [.lst (ns.map W.int)] [] = .ok (.bl true) h' := by
  rw [call_of t_law]
  obtain ⟨A, a1, b1, c1, eA, hA, lA⟩ := heap_ok (con := con) (fuel := fuel) (n + 7) ns 0 0 17
  obtain ⟨B, a2, b2, c2, eB, hB, lB⟩ := heap_ok (con := con) (fuel := fuel) (n + 7) ns a1 b1 c1
  have sA : ∀ s ∈ A, okS s := fun s hs => okSp_S (hA s hs)
  have sB : ∀ s ∈ B, okS s := fun s hs => okSp_S (hB s hs)
  obtain ⟨kA, mA⟩ := setOf_ok A sA
  obtain ⟨kB, mB⟩ := setOf_ok B sB
  have lSA := setOf_len5 lA
  have lSB := setOf_len5 lB
  have fA : ∀ x, 40 ≤ x → has A x = has A 40 := fun x hx => heap_far hA hx
  have fB : ∀ x, 40 ≤ x → has B x = has B 40 := fun x hx => heap_far hB hx
  have inA : ∀ x, x ∈ inI A ↔ 0 ≤ x ∧ x ≤ 40 ∧ has A x = true := fun x => by unfold inI; rw [List.mem_filter, mem_nums, and_assoc]
  have inB : ∀ x, x ∈ inI B ↔ 0 ≤ x ∧ x ≤ 40 ∧ has B x = true := fun x => by unfold inI; rw [List.mem_filter, mem_nums, and_assoc]
  have oA := okSet_S (Int.le_refl 0) kA
  have oB := okSet_S (Int.le_refl 0) kB
  -- what is told
  have tA : setOf A = (tld (fun x => decide (x ∈ inI A)) 41).1 := set_told sA inA fA
  have tB : setOf B = (tld (fun x => decide (x ∈ inI B)) 41).1 := set_told sB inB fB
  have tJ : setOf (setOf A ++ setOf B) = (tld (fun x => decide (x ∈ nums.filter fun x => decide (x ∈ inI A) || decide (x ∈ inI B))) 41).1 :=
    set_told (fun s hs => (List.mem_append.mp hs).elim (oA s) (oB s)) (fun x => by
      rw [List.mem_filter, mem_nums, has_app, mA, mB, Bool.or_eq_true, Bool.or_eq_true, decide_eq_true_eq, decide_eq_true_eq, inA, inB]
      constructor
      · rintro ⟨⟨h1, h2⟩, h | h⟩
        · exact ⟨h1, h2, .inl h.2.2⟩
        · exact ⟨h1, h2, .inr h.2.2⟩
      · rintro ⟨h1, h2, h | h⟩
        · exact ⟨⟨h1, h2⟩, .inl ⟨h1, h2, h⟩⟩
        · exact ⟨⟨h1, h2⟩, .inr ⟨h1, h2, h⟩⟩) (fun x hx => by rw [has_app, has_app, mA, mB, mA, mB, fA x hx, fB x hx])
  have tM : setOf (meetP (setOf A) (setOf B)) = (tld (fun x => decide (x ∈ nums.filter fun x => decide (x ∈ inI A) && decide (x ∈ inI B))) 41).1 :=
    set_told (meetP_S oA oB) (fun x => by
      rw [List.mem_filter, mem_nums, meetP_has, mA, mB, Bool.and_eq_true, Bool.and_eq_true, decide_eq_true_eq, decide_eq_true_eq, inA, inB]
      constructor
      · rintro ⟨⟨h1, h2⟩, h, h'⟩; exact ⟨h1, h2, h.2.2, h'.2.2⟩
      · rintro ⟨h1, h2, h, h'⟩; exact ⟨⟨h1, h2⟩, ⟨h1, h2, h⟩, h1, h2, h'⟩) (fun x hx => by rw [meetP_has, meetP_has, mA, mB, mA, mB, fA x hx, fB x hx])
  have hR : ∀ x, 0 ≤ x → has (restS 0 (setOf B)) x = !has B x := fun x hx => by
    rw [Bool.eq_iff_iff, restS_has kB (Int.le_refl 0), mB, Bool.not_eq_true']
    exact ⟨fun h => h.2, fun h => ⟨hx, h⟩⟩
  have tW : setOf (meetP (setOf A) (restS 0 (setOf B))) = (tld (fun x => decide (x ∈ (inI A).filter fun x => !decide (x ∈ inI B))) 41).1 :=
    set_told (meetP_S oA (restS_S kB (Int.le_refl 0) (Int.le_refl 0))) (fun x => by
      rw [List.mem_filter, inA, meetP_has, mA, Bool.and_eq_true, Bool.not_eq_true', decide_eq_false_iff_not, inB]
      constructor
      · rintro ⟨⟨h1, h2, h⟩, h'⟩
        refine ⟨h1, h2, h, ?_⟩
        rw [hR x h1]
        cases q : has B x with
        | false => rfl
        | true => exact absurd ⟨h1, h2, q⟩ h'
      · rintro ⟨h1, h2, h, h'⟩
        rw [hR x h1] at h'
        exact ⟨⟨h1, h2, h⟩, fun z => by rw [z.2.2] at h'; cases h'⟩) (fun x hx => by rw [meetP_has, meetP_has, mA, mA, hR x (by omega), hR 40 (by omega), fA x hx, fB x hx])
  have negA : (-1 : Int) ∉ inI A := fun z => by have := ((inA _).mp z).1; omega
  have negB : (-1 : Int) ∉ inI B := fun z => by have := ((inB _).mp z).1; omega
  have lI : ∀ X : List Spn, (inI X).length ≤ 41 := fun X => Nat.le_trans (List.length_filter_le _ _) nums_len
  obtain ⟨t9, k0⟩ := turn_ok (con := con) (fuel := fuel) (n + 7) [D ns a2 b2 c2] (.lst (ns.map W.int)) A (by omega) mA kA tA negA 0 [.lst (A.map sW), .lst (B.map sW)] [setW (setOf A), setW (setOf B)] [.lst ((inI A).map W.int), .lst ((inI B).map W.int)] atI_0 atI_0 atI_0 .no .no .no .no .no .no .no
  obtain ⟨u9, k1⟩ := turn_ok (con := con) (fuel := fuel) (n + 7) [D ns a2 b2 c2] (.lst (ns.map W.int)) B (by omega) mB kB tB negB 1 [.lst (A.map sW), .lst (B.map sW)] [setW (setOf A), setW (setOf B)] [.lst ((inI A).map W.int), .lst ((inI B).map W.int)] atI_1 atI_1 atI_1 (.v (.int 0)) .no .no .no t9 .no .no
  let LB := nums.filter fun x => decide (x ∈ inI A) && decide (x ∈ inI B)
  let LO := nums.filter fun x => decide (x ∈ inI A) || decide (x ∈ inI B)
  let LF := (inI A).filter fun x => !decide (x ∈ inI B)
  have wt := fun (x : W) a b c => wrong_turn (con := con) (fuel := fuel) (n + 7) ns a b c [.v (.lst (ns.map W.int)), .v (.ref 0), .v (.lst [.lst (A.map sW), .lst (B.map sW)]), .v (.lst [setW (setOf A), setW (setOf B)]), .v (.lst [.lst ((inI A).map W.int), .lst ((inI B).map W.int)]), .v (.int 1), .v (.lst (LB.map W.int)), .v (.lst (LO.map W.int)), .v (.lst (LF.map W.int)), u9, .no, .no] rfl x (by simp) (by simp [wipeW])
  obtain ⟨a3, b3, c3, w1⟩ := wt (.int 0) a2 b2 c2
  obtain ⟨a4, b4, c4, w2⟩ := wt (.int 1) a3 b3 c3
  obtain ⟨a5, b5, c5, w3⟩ := wt (.int 2) a4 b4 c4
  have cdraw : callF Tt con fuel (n + 9) "_law_draw" [.lst (ns.map W.int)] [] = .ok (.ref 0) [D ns 0 0 17] := draw_ok (n + 8) ns hl
  have eA : callF Tt con fuel (n + 9) "_law_heap" [.ref 0] [D ns 0 0 17] = .ok (.lst (A.map sW)) [D ns a1 b1 c1] := eA
  have eB : callF Tt con fuel (n + 9) "_law_heap" [.ref 0] [D ns a1 b1 c1] = .ok (.lst (B.map sW)) [D ns a2 b2 c2] := eB
  have eSA : callF Tt con fuel (n + 9) "set_of" [.lst (A.map sW)] [D ns a2 b2 c2] = .ok (setW (setOf A)) [D ns a2 b2 c2] := set_of_ok (n + 7) _ A (by omega)
  have eSB : callF Tt con fuel (n + 9) "set_of" [.lst (B.map sW)] [D ns a2 b2 c2] = .ok (setW (setOf B)) [D ns a2 b2 c2] := set_of_ok (n + 7) _ B (by omega)
  refine ⟨[D ns a5 b5 c5], run_ret rfl ⟨rfl, by decide⟩ ?_⟩
  refine seq_next (σ1 := [.v (.lst (ns.map W.int)), .v (.ref 0), .no, .no, .no, .no, .no, .no, .no, .no, .no, .no]) (h1 := [D ns 0 0 17]) (by simp [f_law, exSs, exS, ev, evs, evo, evc, evAnd, evOr, evSrc, fin, bind_ok, of_ok, then_ok, still_ok, runFn, finFn, bindT, bindTs, look, lookO, truW, view, plOf, Pl.get, Pl.put, Pl.isLst, appOb, setOb, setOwn, isN, isB, Md.sub, Md.neg, binW, cmpW, ltW, gtW, leW, ixW, slW, intW, biW, clsW, isTy, rngW, seqW, Ob.w, wipeW, Tg.vars, Tg.varss, Option.map_some, Option.map_none, Option.bind_some, Option.bind_none, List.any_cons, List.any_nil, List.all_cons, List.all_nil, List.map_cons, List.map_nil, List.length_cons, List.length_nil, List.getElem?_cons_zero, List.getElem?_cons_succ, List.getElem?_nil, List.set_cons_zero, List.set_cons_succ, List.replicate, List.cons_append, List.nil_append, Nat.reduceAdd, Nat.reduceSub, Nat.reduceLT, Nat.reduceLeDiff, Nat.lt_add_one, reduceCtorEq, if_true, if_false, ite_true, ite_false, Bool.not_true, Bool.not_false, Bool.true_or, Bool.false_or, Bool.or_false, Bool.or_true, Bool.and_true, Bool.true_and, Bool.false_and, Bool.and_false, cdraw]) ?_
  refine seq_next (σ1 := [.v (.lst (ns.map W.int)), .v (.ref 0), .v (.lst [.lst (A.map sW), .lst (B.map sW)]), .no, .no, .no, .no, .no, .no, .no, .no, .no]) (h1 := [D ns a2 b2 c2]) (by simp [exSs, exS, ev, evs, evo, evc, evAnd, evOr, evSrc, fin, bind_ok, of_ok, then_ok, still_ok, runFn, finFn, bindT, bindTs, look, lookO, truW, view, plOf, Pl.get, Pl.put, Pl.isLst, appOb, setOb, setOwn, isN, isB, Md.sub, Md.neg, binW, cmpW, ltW, gtW, leW, ixW, slW, intW, biW, clsW, isTy, rngW, seqW, Ob.w, wipeW, Tg.vars, Tg.varss, Option.map_some, Option.map_none, Option.bind_some, Option.bind_none, List.any_cons, List.any_nil, List.all_cons, List.all_nil, List.map_cons, List.map_nil, List.length_cons, List.length_nil, List.getElem?_cons_zero, List.getElem?_cons_succ, List.getElem?_nil, List.set_cons_zero, List.set_cons_succ, List.replicate, List.cons_append, List.nil_append, Nat.reduceAdd, Nat.reduceSub, Nat.reduceLT, Nat.reduceLeDiff, Nat.lt_add_one, reduceCtorEq, if_true, if_false, ite_true, ite_false, Bool.not_true, Bool.not_false, Bool.true_or, Bool.false_or, Bool.or_false, Bool.or_true, Bool.and_true, Bool.true_and, Bool.false_and, Bool.and_false, eA, eB, hz]) ?_
  refine seq_next (σ1 := [.v (.lst (ns.map W.int)), .v (.ref 0), .v (.lst [.lst (A.map sW), .lst (B.map sW)]), .v (.lst [setW (setOf A), setW (setOf B)]), .no, .no, .no, .no, .no, .no, .no, .no]) (h1 := [D ns a2 b2 c2]) (asg_ok (w := .lst [setW (setOf A), setW (setOf B)]) (ev_lc (by decide) (ws := [.lst (A.map sW), .lst (B.map sW)]) (h1 := [D ns a2 b2 c2]) (by simp [exSs, exS, ev, evs, evo, evc, evAnd, evOr, evSrc, fin, bind_ok, of_ok, then_ok, still_ok, runFn, finFn, bindT, bindTs, look, lookO, truW, view, plOf, Pl.get, Pl.put, Pl.isLst, appOb, setOb, setOwn, isN, isB, Md.sub, Md.neg, binW, cmpW, ltW, gtW, leW, ixW, slW, intW, biW, clsW, isTy, rngW, seqW, Ob.w, wipeW, Tg.vars, Tg.varss, Option.map_some, Option.map_none, Option.bind_some, Option.bind_none, List.any_cons, List.any_nil, List.all_cons, List.all_nil, List.map_cons, List.map_nil, List.length_cons, List.length_nil, List.getElem?_cons_zero, List.getElem?_cons_succ, List.getElem?_nil, List.set_cons_zero, List.set_cons_succ, List.replicate, List.cons_append, List.nil_append, Nat.reduceAdd, Nat.reduceSub, Nat.reduceLT, Nat.reduceLeDiff, Nat.lt_add_one, reduceCtorEq, if_true, if_false, ite_true, ite_false, Bool.not_true, Bool.not_false, Bool.true_or, Bool.false_or, Bool.or_false, Bool.or_true, Bool.and_true, Bool.true_and, Bool.false_and, Bool.and_false]) (by show 2 ≤ sizeLine; rw [hz]; decide) (lc_two (h1 := [D ns a2 b2 c2]) (lcT_one (τ' := [.v (.lst (ns.map W.int)), .v (.ref 0), .v (.lst [.lst (A.map sW), .lst (B.map sW)]), .no, .no, .no, .no, .no, .no, .no, .v (.lst (A.map sW)), .no]) (by simp [exSs, exS, ev, evs, evo, evc, evAnd, evOr, evSrc, fin, bind_ok, of_ok, then_ok, still_ok, runFn, finFn, bindT, bindTs, look, lookO, truW, view, plOf, Pl.get, Pl.put, Pl.isLst, appOb, setOb, setOwn, isN, isB, Md.sub, Md.neg, binW, cmpW, ltW, gtW, leW, ixW, slW, intW, biW, clsW, isTy, rngW, seqW, Ob.w, wipeW, Tg.vars, Tg.varss, Option.map_some, Option.map_none, Option.bind_some, Option.bind_none, List.any_cons, List.any_nil, List.all_cons, List.all_nil, List.map_cons, List.map_nil, List.length_cons, List.length_nil, List.getElem?_cons_zero, List.getElem?_cons_succ, List.getElem?_nil, List.set_cons_zero, List.set_cons_succ, List.replicate, List.cons_append, List.nil_append, Nat.reduceAdd, Nat.reduceSub, Nat.reduceLT, Nat.reduceLeDiff, Nat.lt_add_one, reduceCtorEq, if_true, if_false, ite_true, ite_false, Bool.not_true, Bool.not_false, Bool.true_or, Bool.false_or, Bool.or_false, Bool.or_true, Bool.and_true, Bool.true_and, Bool.false_and, Bool.and_false]) (by simp [exSs, exS, ev, evs, evo, evc, evAnd, evOr, evSrc, fin, bind_ok, of_ok, then_ok, still_ok, runFn, finFn, bindT, bindTs, look, lookO, truW, view, plOf, Pl.get, Pl.put, Pl.isLst, appOb, setOb, setOwn, isN, isB, Md.sub, Md.neg, binW, cmpW, ltW, gtW, leW, ixW, slW, intW, biW, clsW, isTy, rngW, seqW, Ob.w, wipeW, Tg.vars, Tg.varss, Option.map_some, Option.map_none, Option.bind_some, Option.bind_none, List.any_cons, List.any_nil, List.all_cons, List.all_nil, List.map_cons, List.map_nil, List.length_cons, List.length_nil, List.getElem?_cons_zero, List.getElem?_cons_succ, List.getElem?_nil, List.set_cons_zero, List.set_cons_succ, List.replicate, List.cons_append, List.nil_append, Nat.reduceAdd, Nat.reduceSub, Nat.reduceLT, Nat.reduceLeDiff, Nat.lt_add_one, reduceCtorEq, if_true, if_false, ite_true, ite_false, Bool.not_true, Bool.not_false, Bool.true_or, Bool.false_or, Bool.or_false, Bool.or_true, Bool.and_true, Bool.true_and, Bool.false_and, Bool.and_false, eSA])) (lcT_one (τ' := [.v (.lst (ns.map W.int)), .v (.ref 0), .v (.lst [.lst (A.map sW), .lst (B.map sW)]), .no, .no, .no, .no, .no, .no, .no, .v (.lst (B.map sW)), .no]) (by simp [exSs, exS, ev, evs, evo, evc, evAnd, evOr, evSrc, fin, bind_ok, of_ok, then_ok, still_ok, runFn, finFn, bindT, bindTs, look, lookO, truW, view, plOf, Pl.get, Pl.put, Pl.isLst, appOb, setOb, setOwn, isN, isB, Md.sub, Md.neg, binW, cmpW, ltW, gtW, leW, ixW, slW, intW, biW, clsW, isTy, rngW, seqW, Ob.w, wipeW, Tg.vars, Tg.varss, Option.map_some, Option.map_none, Option.bind_some, Option.bind_none, List.any_cons, List.any_nil, List.all_cons, List.all_nil, List.map_cons, List.map_nil, List.length_cons, List.length_nil, List.getElem?_cons_zero, List.getElem?_cons_succ, List.getElem?_nil, List.set_cons_zero, List.set_cons_succ, List.replicate, List.cons_append, List.nil_append, Nat.reduceAdd, Nat.reduceSub, Nat.reduceLT, Nat.reduceLeDiff, Nat.lt_add_one, reduceCtorEq, if_true, if_false, ite_true, ite_false, Bool.not_true, Bool.not_false, Bool.true_or, Bool.false_or, Bool.or_false, Bool.or_true, Bool.and_true, Bool.true_and, Bool.false_and, Bool.and_false]) (by simp [exSs, exS, ev, evs, evo, evc, evAnd, evOr, evSrc, fin, bind_ok, of_ok, then_ok, still_ok, runFn, finFn, bindT, bindTs, look, lookO, truW, view, plOf, Pl.get, Pl.put, Pl.isLst, appOb, setOb, setOwn, isN, isB, Md.sub, Md.neg, binW, cmpW, ltW, gtW, leW, ixW, slW, intW, biW, clsW, isTy, rngW, seqW, Ob.w, wipeW, Tg.vars, Tg.varss, Option.map_some, Option.map_none, Option.bind_some, Option.bind_none, List.any_cons, List.any_nil, List.all_cons, List.all_nil, List.map_cons, List.map_nil, List.length_cons, List.length_nil, List.getElem?_cons_zero, List.getElem?_cons_succ, List.getElem?_nil, List.set_cons_zero, List.set_cons_succ, List.replicate, List.cons_append, List.nil_append, Nat.reduceAdd, Nat.reduceSub, Nat.reduceLT, Nat.reduceLeDiff, Nat.lt_add_one, reduceCtorEq, if_true, if_false, ite_true, ite_false, Bool.not_true, Bool.not_false, Bool.true_or, Bool.false_or, Bool.or_false, Bool.or_true, Bool.and_true, Bool.true_and, Bool.false_and, Bool.and_false, eSB])))) (by simp [exSs, exS, ev, evs, evo, evc, evAnd, evOr, evSrc, fin, bind_ok, of_ok, then_ok, still_ok, runFn, finFn, bindT, bindTs, look, lookO, truW, view, plOf, Pl.get, Pl.put, Pl.isLst, appOb, setOb, setOwn, isN, isB, Md.sub, Md.neg, binW, cmpW, ltW, gtW, leW, ixW, slW, intW, biW, clsW, isTy, rngW, seqW, Ob.w, wipeW, Tg.vars, Tg.varss, Option.map_some, Option.map_none, Option.bind_some, Option.bind_none, List.any_cons, List.any_nil, List.all_cons, List.all_nil, List.map_cons, List.map_nil, List.length_cons, List.length_nil, List.getElem?_cons_zero, List.getElem?_cons_succ, List.getElem?_nil, List.set_cons_zero, List.set_cons_succ, List.replicate, List.cons_append, List.nil_append, Nat.reduceAdd, Nat.reduceSub, Nat.reduceLT, Nat.reduceLeDiff, Nat.lt_add_one, reduceCtorEq, if_true, if_false, ite_true, ite_false, Bool.not_true, Bool.not_false, Bool.true_or, Bool.false_or, Bool.or_false, Bool.or_true, Bool.and_true, Bool.true_and, Bool.false_and, Bool.and_false])) ?_
  refine seq_next (σ1 := [.v (.lst (ns.map W.int)), .v (.ref 0), .v (.lst [.lst (A.map sW), .lst (B.map sW)]), .v (.lst [setW (setOf A), setW (setOf B)]), .v (.lst [.lst ((inI A).map W.int), .lst ((inI B).map W.int)]), .no, .no, .no, .no, .no, .no, .no]) (h1 := [D ns a2 b2 c2]) (asg_ok (w := .lst [.lst ((inI A).map W.int), .lst ((inI B).map W.int)]) (ev_lc (by decide) (ws := [.lst (A.map sW), .lst (B.map sW)]) (h1 := [D ns a2 b2 c2]) (by simp [exSs, exS, ev, evs, evo, evc, evAnd, evOr, evSrc, fin, bind_ok, of_ok, then_ok, still_ok, runFn, finFn, bindT, bindTs, look, lookO, truW, view, plOf, Pl.get, Pl.put, Pl.isLst, appOb, setOb, setOwn, isN, isB, Md.sub, Md.neg, binW, cmpW, ltW, gtW, leW, ixW, slW, intW, biW, clsW, isTy, rngW, seqW, Ob.w, wipeW, Tg.vars, Tg.varss, Option.map_some, Option.map_none, Option.bind_some, Option.bind_none, List.any_cons, List.any_nil, List.all_cons, List.all_nil, List.map_cons, List.map_nil, List.length_cons, List.length_nil, List.getElem?_cons_zero, List.getElem?_cons_succ, List.getElem?_nil, List.set_cons_zero, List.set_cons_succ, List.replicate, List.cons_append, List.nil_append, Nat.reduceAdd, Nat.reduceSub, Nat.reduceLT, Nat.reduceLeDiff, Nat.lt_add_one, reduceCtorEq, if_true, if_false, ite_true, ite_false, Bool.not_true, Bool.not_false, Bool.true_or, Bool.false_or, Bool.or_false, Bool.or_true, Bool.and_true, Bool.true_and, Bool.false_and, Bool.and_false]) (by show 2 ≤ sizeLine; rw [hz]; decide) (lc_two (h1 := [D ns a2 b2 c2]) (lcT_one (τ' := [.v (.lst (ns.map W.int)), .v (.ref 0), .v (.lst [.lst (A.map sW), .lst (B.map sW)]), .v (.lst [setW (setOf A), setW (setOf B)]), .no, .no, .no, .no, .no, .no, .v (.lst (A.map sW)), .no]) (by simp [exSs, exS, ev, evs, evo, evc, evAnd, evOr, evSrc, fin, bind_ok, of_ok, then_ok, still_ok, runFn, finFn, bindT, bindTs, look, lookO, truW, view, plOf, Pl.get, Pl.put, Pl.isLst, appOb, setOb, setOwn, isN, isB, Md.sub, Md.neg, binW, cmpW, ltW, gtW, leW, ixW, slW, intW, biW, clsW, isTy, rngW, seqW, Ob.w, wipeW, Tg.vars, Tg.varss, Option.map_some, Option.map_none, Option.bind_some, Option.bind_none, List.any_cons, List.any_nil, List.all_cons, List.all_nil, List.map_cons, List.map_nil, List.length_cons, List.length_nil, List.getElem?_cons_zero, List.getElem?_cons_succ, List.getElem?_nil, List.set_cons_zero, List.set_cons_succ, List.replicate, List.cons_append, List.nil_append, Nat.reduceAdd, Nat.reduceSub, Nat.reduceLT, Nat.reduceLeDiff, Nat.lt_add_one, reduceCtorEq, if_true, if_false, ite_true, ite_false, Bool.not_true, Bool.not_false, Bool.true_or, Bool.false_or, Bool.or_false, Bool.or_true, Bool.and_true, Bool.true_and, Bool.false_and, Bool.and_false]) (in_lc (n + 8) _ A (by omega) _ _ _ _ _ _ _ _ _ _ _)) (lcT_one (τ' := [.v (.lst (ns.map W.int)), .v (.ref 0), .v (.lst [.lst (A.map sW), .lst (B.map sW)]), .v (.lst [setW (setOf A), setW (setOf B)]), .no, .no, .no, .no, .no, .no, .v (.lst (B.map sW)), .no]) (by simp [exSs, exS, ev, evs, evo, evc, evAnd, evOr, evSrc, fin, bind_ok, of_ok, then_ok, still_ok, runFn, finFn, bindT, bindTs, look, lookO, truW, view, plOf, Pl.get, Pl.put, Pl.isLst, appOb, setOb, setOwn, isN, isB, Md.sub, Md.neg, binW, cmpW, ltW, gtW, leW, ixW, slW, intW, biW, clsW, isTy, rngW, seqW, Ob.w, wipeW, Tg.vars, Tg.varss, Option.map_some, Option.map_none, Option.bind_some, Option.bind_none, List.any_cons, List.any_nil, List.all_cons, List.all_nil, List.map_cons, List.map_nil, List.length_cons, List.length_nil, List.getElem?_cons_zero, List.getElem?_cons_succ, List.getElem?_nil, List.set_cons_zero, List.set_cons_succ, List.replicate, List.cons_append, List.nil_append, Nat.reduceAdd, Nat.reduceSub, Nat.reduceLT, Nat.reduceLeDiff, Nat.lt_add_one, reduceCtorEq, if_true, if_false, ite_true, ite_false, Bool.not_true, Bool.not_false, Bool.true_or, Bool.false_or, Bool.or_false, Bool.or_true, Bool.and_true, Bool.true_and, Bool.false_and, Bool.and_false]) (in_lc (n + 8) _ B (by omega) _ _ _ _ _ _ _ _ _ _ _)))) (by simp [exSs, exS, ev, evs, evo, evc, evAnd, evOr, evSrc, fin, bind_ok, of_ok, then_ok, still_ok, runFn, finFn, bindT, bindTs, look, lookO, truW, view, plOf, Pl.get, Pl.put, Pl.isLst, appOb, setOb, setOwn, isN, isB, Md.sub, Md.neg, binW, cmpW, ltW, gtW, leW, ixW, slW, intW, biW, clsW, isTy, rngW, seqW, Ob.w, wipeW, Tg.vars, Tg.varss, Option.map_some, Option.map_none, Option.bind_some, Option.bind_none, List.any_cons, List.any_nil, List.all_cons, List.all_nil, List.map_cons, List.map_nil, List.length_cons, List.length_nil, List.getElem?_cons_zero, List.getElem?_cons_succ, List.getElem?_nil, List.set_cons_zero, List.set_cons_succ, List.replicate, List.cons_append, List.nil_append, Nat.reduceAdd, Nat.reduceSub, Nat.reduceLT, Nat.reduceLeDiff, Nat.lt_add_one, reduceCtorEq, if_true, if_false, ite_true, ite_false, Bool.not_true, Bool.not_false, Bool.true_or, Bool.false_or, Bool.or_false, Bool.or_true, Bool.and_true, Bool.true_and, Bool.false_and, Bool.and_false])) ?_
  refine seq_next ((for_eq (ws := [.int 0, .int 1]) (h1 := [D ns a2 b2 c2]) (by simp [exSs, exS, ev, evs, evo, evc, evAnd, evOr, evSrc, fin, bind_ok, of_ok, then_ok, still_ok, runFn, finFn, bindT, bindTs, look, lookO, truW, view, plOf, Pl.get, Pl.put, Pl.isLst, appOb, setOb, setOwn, isN, isB, Md.sub, Md.neg, binW, cmpW, ltW, gtW, leW, ixW, slW, intW, biW, clsW, isTy, rngW, seqW, Ob.w, wipeW, Tg.vars, Tg.varss, Option.map_some, Option.map_none, Option.bind_some, Option.bind_none, List.any_cons, List.any_nil, List.all_cons, List.all_nil, List.map_cons, List.map_nil, List.length_cons, List.length_nil, List.getElem?_cons_zero, List.getElem?_cons_succ, List.getElem?_nil, List.set_cons_zero, List.set_cons_succ, List.replicate, List.cons_append, List.nil_append, Nat.reduceAdd, Nat.reduceSub, Nat.reduceLT, Nat.reduceLeDiff, Nat.lt_add_one, reduceCtorEq, if_true, if_false, ite_true, ite_false, Bool.not_true, Bool.not_false, Bool.true_or, Bool.false_or, Bool.or_false, Bool.or_true, Bool.and_true, Bool.true_and, Bool.false_and, Bool.and_false]; rfl)).trans (for_cons k0 (for_cons k1 rfl))) ?_
  refine seq_next (σ1 := [.v (.lst (ns.map W.int)), .v (.ref 0), .v (.lst [.lst (A.map sW), .lst (B.map sW)]), .v (.lst [setW (setOf A), setW (setOf B)]), .v (.lst [.lst ((inI A).map W.int), .lst ((inI B).map W.int)]), .v (.int 1), .v (.lst (LB.map W.int)), .no, .no, u9, .no, .no]) (h1 := [D ns a2 b2 c2]) (asg_ok (w := .lst (LB.map W.int)) (ev_lc (by decide) rng41 (len_nums _ nums_len) (lc_filt (p := fun x => decide (x ∈ inI A) && decide (x ∈ inI B)) fun x => ?_)) (by simp [exSs, exS, ev, evs, evo, evc, evAnd, evOr, evSrc, fin, bind_ok, of_ok, then_ok, still_ok, runFn, finFn, bindT, bindTs, look, lookO, truW, view, plOf, Pl.get, Pl.put, Pl.isLst, appOb, setOb, setOwn, isN, isB, Md.sub, Md.neg, binW, cmpW, ltW, gtW, leW, ixW, slW, intW, biW, clsW, isTy, rngW, seqW, Ob.w, wipeW, Tg.vars, Tg.varss, Option.map_some, Option.map_none, Option.bind_some, Option.bind_none, List.any_cons, List.any_nil, List.all_cons, List.all_nil, List.map_cons, List.map_nil, List.length_cons, List.length_nil, List.getElem?_cons_zero, List.getElem?_cons_succ, List.getElem?_nil, List.set_cons_zero, List.set_cons_succ, List.replicate, List.cons_append, List.nil_append, Nat.reduceAdd, Nat.reduceSub, Nat.reduceLT, Nat.reduceLeDiff, Nat.lt_add_one, reduceCtorEq, if_true, if_false, ite_true, ite_false, Bool.not_true, Bool.not_false, Bool.true_or, Bool.false_or, Bool.or_false, Bool.or_true, Bool.and_true, Bool.true_and, Bool.false_and, Bool.and_false])) ?_
  · by_cases q1 : x ∈ inI A <;> by_cases q2 : x ∈ inI B <;> simp [lcT, exSs, exS, ev, evs, evo, evc, evAnd, evOr, evSrc, fin, bind_ok, of_ok, then_ok, still_ok, runFn, finFn, bindT, bindTs, look, lookO, truW, view, plOf, Pl.get, Pl.put, Pl.isLst, appOb, setOb, setOwn, isN, isB, Md.sub, Md.neg, binW, cmpW, ltW, gtW, leW, ixW, slW, intW, biW, clsW, isTy, rngW, seqW, Ob.w, wipeW, Tg.vars, Tg.varss, Option.map_some, Option.map_none, Option.bind_some, Option.bind_none, List.any_cons, List.any_nil, List.all_cons, List.all_nil, List.map_cons, List.map_nil, List.length_cons, List.length_nil, List.getElem?_cons_zero, List.getElem?_cons_succ, List.getElem?_nil, List.set_cons_zero, List.set_cons_succ, List.replicate, List.cons_append, List.nil_append, Nat.reduceAdd, Nat.reduceSub, Nat.reduceLT, Nat.reduceLeDiff, Nat.lt_add_one, reduceCtorEq, if_true, if_false, ite_true, ite_false, Bool.not_true, Bool.not_false, Bool.true_or, Bool.false_or, Bool.or_false, Bool.or_true, Bool.and_true, Bool.true_and, Bool.false_and, Bool.and_false, atI_0, atI_1, inW_ints, q1, q2]
  refine seq_next (σ1 := [.v (.lst (ns.map W.int)), .v (.ref 0), .v (.lst [.lst (A.map sW), .lst (B.map sW)]), .v (.lst [setW (setOf A), setW (setOf B)]), .v (.lst [.lst ((inI A).map W.int), .lst ((inI B).map W.int)]), .v (.int 1), .v (.lst (LB.map W.int)), .v (.lst (LO.map W.int)), .no, u9, .no, .no]) (h1 := [D ns a2 b2 c2]) (asg_ok (w := .lst (LO.map W.int)) (ev_lc (by decide) rng41 (len_nums _ nums_len) (lc_filt (p := fun x => decide (x ∈ inI A) || decide (x ∈ inI B)) fun x => ?_)) (by simp [exSs, exS, ev, evs, evo, evc, evAnd, evOr, evSrc, fin, bind_ok, of_ok, then_ok, still_ok, runFn, finFn, bindT, bindTs, look, lookO, truW, view, plOf, Pl.get, Pl.put, Pl.isLst, appOb, setOb, setOwn, isN, isB, Md.sub, Md.neg, binW, cmpW, ltW, gtW, leW, ixW, slW, intW, biW, clsW, isTy, rngW, seqW, Ob.w, wipeW, Tg.vars, Tg.varss, Option.map_some, Option.map_none, Option.bind_some, Option.bind_none, List.any_cons, List.any_nil, List.all_cons, List.all_nil, List.map_cons, List.map_nil, List.length_cons, List.length_nil, List.getElem?_cons_zero, List.getElem?_cons_succ, List.getElem?_nil, List.set_cons_zero, List.set_cons_succ, List.replicate, List.cons_append, List.nil_append, Nat.reduceAdd, Nat.reduceSub, Nat.reduceLT, Nat.reduceLeDiff, Nat.lt_add_one, reduceCtorEq, if_true, if_false, ite_true, ite_false, Bool.not_true, Bool.not_false, Bool.true_or, Bool.false_or, Bool.or_false, Bool.or_true, Bool.and_true, Bool.true_and, Bool.false_and, Bool.and_false])) ?_
  · by_cases q1 : x ∈ inI A <;> by_cases q2 : x ∈ inI B <;> simp [lcT, exSs, exS, ev, evs, evo, evc, evAnd, evOr, evSrc, fin, bind_ok, of_ok, then_ok, still_ok, runFn, finFn, bindT, bindTs, look, lookO, truW, view, plOf, Pl.get, Pl.put, Pl.isLst, appOb, setOb, setOwn, isN, isB, Md.sub, Md.neg, binW, cmpW, ltW, gtW, leW, ixW, slW, intW, biW, clsW, isTy, rngW, seqW, Ob.w, wipeW, Tg.vars, Tg.varss, Option.map_some, Option.map_none, Option.bind_some, Option.bind_none, List.any_cons, List.any_nil, List.all_cons, List.all_nil, List.map_cons, List.map_nil, List.length_cons, List.length_nil, List.getElem?_cons_zero, List.getElem?_cons_succ, List.getElem?_nil, List.set_cons_zero, List.set_cons_succ, List.replicate, List.cons_append, List.nil_append, Nat.reduceAdd, Nat.reduceSub, Nat.reduceLT, Nat.reduceLeDiff, Nat.lt_add_one, reduceCtorEq, if_true, if_false, ite_true, ite_false, Bool.not_true, Bool.not_false, Bool.true_or, Bool.false_or, Bool.or_false, Bool.or_true, Bool.and_true, Bool.true_and, Bool.false_and, Bool.and_false, atI_0, atI_1, inW_ints, q1, q2]
  refine seq_next (σ1 := [.v (.lst (ns.map W.int)), .v (.ref 0), .v (.lst [.lst (A.map sW), .lst (B.map sW)]), .v (.lst [setW (setOf A), setW (setOf B)]), .v (.lst [.lst ((inI A).map W.int), .lst ((inI B).map W.int)]), .v (.int 1), .v (.lst (LB.map W.int)), .v (.lst (LO.map W.int)), .v (.lst (LF.map W.int)), u9, .no, .no]) (h1 := [D ns a2 b2 c2]) (asg_ok (w := .lst (LF.map W.int)) (ev_lc (by decide) (ws := (inI A).map W.int) (h1 := [D ns a2 b2 c2]) (by simp [exSs, exS, ev, evs, evo, evc, evAnd, evOr, evSrc, fin, bind_ok, of_ok, then_ok, still_ok, runFn, finFn, bindT, bindTs, look, lookO, truW, view, plOf, Pl.get, Pl.put, Pl.isLst, appOb, setOb, setOwn, isN, isB, Md.sub, Md.neg, binW, cmpW, ltW, gtW, leW, ixW, slW, intW, biW, clsW, isTy, rngW, seqW, Ob.w, wipeW, Tg.vars, Tg.varss, Option.map_some, Option.map_none, Option.bind_some, Option.bind_none, List.any_cons, List.any_nil, List.all_cons, List.all_nil, List.map_cons, List.map_nil, List.length_cons, List.length_nil, List.getElem?_cons_zero, List.getElem?_cons_succ, List.getElem?_nil, List.set_cons_zero, List.set_cons_succ, List.replicate, List.cons_append, List.nil_append, Nat.reduceAdd, Nat.reduceSub, Nat.reduceLT, Nat.reduceLeDiff, Nat.lt_add_one, reduceCtorEq, if_true, if_false, ite_true, ite_false, Bool.not_true, Bool.not_false, Bool.true_or, Bool.false_or, Bool.or_false, Bool.or_true, Bool.and_true, Bool.true_and, Bool.false_and, Bool.and_false, atI_0]) (len_nums _ (lI A)) (lc_filt (p := fun x => !decide (x ∈ inI B)) fun x => ?_)) (by simp [exSs, exS, ev, evs, evo, evc, evAnd, evOr, evSrc, fin, bind_ok, of_ok, then_ok, still_ok, runFn, finFn, bindT, bindTs, look, lookO, truW, view, plOf, Pl.get, Pl.put, Pl.isLst, appOb, setOb, setOwn, isN, isB, Md.sub, Md.neg, binW, cmpW, ltW, gtW, leW, ixW, slW, intW, biW, clsW, isTy, rngW, seqW, Ob.w, wipeW, Tg.vars, Tg.varss, Option.map_some, Option.map_none, Option.bind_some, Option.bind_none, List.any_cons, List.any_nil, List.all_cons, List.all_nil, List.map_cons, List.map_nil, List.length_cons, List.length_nil, List.getElem?_cons_zero, List.getElem?_cons_succ, List.getElem?_nil, List.set_cons_zero, List.set_cons_succ, List.replicate, List.cons_append, List.nil_append, Nat.reduceAdd, Nat.reduceSub, Nat.reduceLT, Nat.reduceLeDiff, Nat.lt_add_one, reduceCtorEq, if_true, if_false, ite_true, ite_false, Bool.not_true, Bool.not_false, Bool.true_or, Bool.false_or, Bool.or_false, Bool.or_true, Bool.and_true, Bool.true_and, Bool.false_and, Bool.and_false])) ?_
  · by_cases q2 : x ∈ inI B <;> simp [lcT, exSs, exS, ev, evs, evo, evc, evAnd, evOr, evSrc, fin, bind_ok, of_ok, then_ok, still_ok, runFn, finFn, bindT, bindTs, look, lookO, truW, view, plOf, Pl.get, Pl.put, Pl.isLst, appOb, setOb, setOwn, isN, isB, Md.sub, Md.neg, binW, cmpW, ltW, gtW, leW, ixW, slW, intW, biW, clsW, isTy, rngW, seqW, Ob.w, wipeW, Tg.vars, Tg.varss, Option.map_some, Option.map_none, Option.bind_some, Option.bind_none, List.any_cons, List.any_nil, List.all_cons, List.all_nil, List.map_cons, List.map_nil, List.length_cons, List.length_nil, List.getElem?_cons_zero, List.getElem?_cons_succ, List.getElem?_nil, List.set_cons_zero, List.set_cons_succ, List.replicate, List.cons_append, List.nil_append, Nat.reduceAdd, Nat.reduceSub, Nat.reduceLT, Nat.reduceLeDiff, Nat.lt_add_one, reduceCtorEq, if_true, if_false, ite_true, ite_false, Bool.not_true, Bool.not_false, Bool.true_or, Bool.false_or, Bool.or_false, Bool.or_true, Bool.and_true, Bool.true_and, Bool.false_and, Bool.and_false, atI_1, inW_ints, q2]
  have nB : (-1 : Int) ∉ LB := fun z => by have := (mem_nums.mp (List.mem_filter.mp z).1).1; omega
  have nO : (-1 : Int) ∉ LO := fun z => by have := (mem_nums.mp (List.mem_filter.mp z).1).1; omega
  have nF : (-1 : Int) ∉ LF := fun z => negA (List.mem_filter.mp z).1
  have j1 : ∀ h, callF Tt con fuel (n + 9) "join" [setW (setOf A), setW (setOf B)] h = .ok (setW (setOf (setOf A ++ setOf B))) h := fun h => join_ok (n + 6) h _ _ (by omega) (by omega)
  have j2 : ∀ h, callF Tt con fuel (n + 9) "_law_told" [.lst (LO.map W.int)] h = .ok (setW (setOf (setOf A ++ setOf B))) h := fun h => by rw [tJ]; exact told_ok (n + 8) h LO nO
  have l1 : (setOf (setOf A ++ setOf B)).length < 1000 := by have := setOf_len (setOf A ++ setOf B); rw [List.length_append] at this; omega
  have j3 : ∀ h, callF Tt con fuel (n + 9) "_law_same" [setW (setOf (setOf A ++ setOf B)), setW (setOf (setOf A ++ setOf B))] h = .ok (.bl true) h := fun h => same_set (n + 6) h _ l1
  have m1 : ∀ h, callF Tt con fuel (n + 9) "meet" [setW (setOf A), setW (setOf B)] h = .ok (setW (setOf (meetP (setOf A) (setOf B)))) h := fun h => meet_ok (n + 6) h _ _ (by omega) (by omega)
  have m2 : ∀ h, callF Tt con fuel (n + 9) "_law_told" [.lst (LB.map W.int)] h = .ok (setW (setOf (meetP (setOf A) (setOf B)))) h := fun h => by rw [tM]; exact told_ok (n + 8) h LB nB
  have l2 : (setOf (meetP (setOf A) (setOf B))).length < 1000 := by have := setOf_len (meetP (setOf A) (setOf B)); have := meetP_len (setOf B) (by omega) (setOf A); omega
  have m3 : ∀ h, callF Tt con fuel (n + 9) "_law_same" [setW (setOf (meetP (setOf A) (setOf B))), setW (setOf (meetP (setOf A) (setOf B)))] h = .ok (.bl true) h := fun h => same_set (n + 6) h _ l2
  have r1 := restS_len (setOf B) 0
  have w4 : ∀ h, callF Tt con fuel (n + 9) "without" [setW (setOf A), setW (setOf B)] h = .ok (setW (setOf (meetP (setOf A) (restS 0 (setOf B))))) h := fun h => without_ok (n + 5) h _ _ (by omega) (by omega)
  have w5 : ∀ h, callF Tt con fuel (n + 9) "_law_told" [.lst (LF.map W.int)] h = .ok (setW (setOf (meetP (setOf A) (restS 0 (setOf B))))) h := fun h => by rw [tW]; exact told_ok (n + 8) h LF nF
  have l3 : (setOf (meetP (setOf A) (restS 0 (setOf B)))).length < 1000 := by have := setOf_len (meetP (setOf A) (restS 0 (setOf B))); have := meetP_len (restS 0 (setOf B)) (by omega) (setOf A); omega
  have w6 : ∀ h, callF Tt con fuel (n + 9) "_law_same" [setW (setOf (meetP (setOf A) (restS 0 (setOf B)))), setW (setOf (meetP (setOf A) (restS 0 (setOf B))))] h = .ok (.bl true) h := fun h => same_set (n + 6) h _ l3
  refine seq_next (σ1 := [.v (.lst (ns.map W.int)), .v (.ref 0), .v (.lst [.lst (A.map sW), .lst (B.map sW)]), .v (.lst [setW (setOf A), setW (setOf B)]), .v (.lst [.lst ((inI A).map W.int), .lst ((inI B).map W.int)]), .v (.int 1), .v (.lst (LB.map W.int)), .v (.lst (LO.map W.int)), .v (.lst (LF.map W.int)), u9, .no, .no]) (h1 := [D ns a2 b2 c2]) (ite_f (h1 := [D ns a2 b2 c2]) (by simp [exSs, exS, ev, evs, evo, evc, evAnd, evOr, evSrc, fin, bind_ok, of_ok, then_ok, still_ok, runFn, finFn, bindT, bindTs, look, lookO, truW, view, plOf, Pl.get, Pl.put, Pl.isLst, appOb, setOb, setOwn, isN, isB, Md.sub, Md.neg, binW, cmpW, ltW, gtW, leW, ixW, slW, intW, biW, clsW, isTy, rngW, seqW, Ob.w, wipeW, Tg.vars, Tg.varss, Option.map_some, Option.map_none, Option.bind_some, Option.bind_none, List.any_cons, List.any_nil, List.all_cons, List.all_nil, List.map_cons, List.map_nil, List.length_cons, List.length_nil, List.getElem?_cons_zero, List.getElem?_cons_succ, List.getElem?_nil, List.set_cons_zero, List.set_cons_succ, List.replicate, List.cons_append, List.nil_append, Nat.reduceAdd, Nat.reduceSub, Nat.reduceLT, Nat.reduceLeDiff, Nat.lt_add_one, reduceCtorEq, if_true, if_false, ite_true, ite_false, Bool.not_true, Bool.not_false, Bool.true_or, Bool.false_or, Bool.or_false, Bool.or_true, Bool.and_true, Bool.true_and, Bool.false_and, Bool.and_false, atI_0, atI_1, j1, j2, j3, m1, m2, m3]) (by simp [exSs, exS, ev, evs, evo, evc, evAnd, evOr, evSrc, fin, bind_ok, of_ok, then_ok, still_ok, runFn, finFn, bindT, bindTs, look, lookO, truW, view, plOf, Pl.get, Pl.put, Pl.isLst, appOb, setOb, setOwn, isN, isB, Md.sub, Md.neg, binW, cmpW, ltW, gtW, leW, ixW, slW, intW, biW, clsW, isTy, rngW, seqW, Ob.w, wipeW, Tg.vars, Tg.varss, Option.map_some, Option.map_none, Option.bind_some, Option.bind_none, List.any_cons, List.any_nil, List.all_cons, List.all_nil, List.map_cons, List.map_nil, List.length_cons, List.length_nil, List.getElem?_cons_zero, List.getElem?_cons_succ, List.getElem?_nil, List.set_cons_zero, List.set_cons_succ, List.replicate, List.cons_append, List.nil_append, Nat.reduceAdd, Nat.reduceSub, Nat.reduceLT, Nat.reduceLeDiff, Nat.lt_add_one, reduceCtorEq, if_true, if_false, ite_true, ite_false, Bool.not_true, Bool.not_false, Bool.true_or, Bool.false_or, Bool.or_false, Bool.or_true, Bool.and_true, Bool.true_and, Bool.false_and, Bool.and_false])) ?_
  refine seq_next (σ1 := [.v (.lst (ns.map W.int)), .v (.ref 0), .v (.lst [.lst (A.map sW), .lst (B.map sW)]), .v (.lst [setW (setOf A), setW (setOf B)]), .v (.lst [.lst ((inI A).map W.int), .lst ((inI B).map W.int)]), .v (.int 1), .v (.lst (LB.map W.int)), .v (.lst (LO.map W.int)), .v (.lst (LF.map W.int)), u9, .no, .no]) (h1 := [D ns a5 b5 c5]) (ite_f (h1 := [D ns a5 b5 c5]) ?_ (by simp [exSs, exS, ev, evs, evo, evc, evAnd, evOr, evSrc, fin, bind_ok, of_ok, then_ok, still_ok, runFn, finFn, bindT, bindTs, look, lookO, truW, view, plOf, Pl.get, Pl.put, Pl.isLst, appOb, setOb, setOwn, isN, isB, Md.sub, Md.neg, binW, cmpW, ltW, gtW, leW, ixW, slW, intW, biW, clsW, isTy, rngW, seqW, Ob.w, wipeW, Tg.vars, Tg.varss, Option.map_some, Option.map_none, Option.bind_some, Option.bind_none, List.any_cons, List.any_nil, List.all_cons, List.all_nil, List.map_cons, List.map_nil, List.length_cons, List.length_nil, List.getElem?_cons_zero, List.getElem?_cons_succ, List.getElem?_nil, List.set_cons_zero, List.set_cons_succ, List.replicate, List.cons_append, List.nil_append, Nat.reduceAdd, Nat.reduceSub, Nat.reduceLT, Nat.reduceLeDiff, Nat.lt_add_one, reduceCtorEq, if_true, if_false, ite_true, ite_false, Bool.not_true, Bool.not_false, Bool.true_or, Bool.false_or, Bool.or_false, Bool.or_true, Bool.and_true, Bool.true_and, Bool.false_and, Bool.and_false])) ?_
  · exact tst_bi (ev_bi1 (by decide) (ev_lc (by decide) (ws := [.int 0, .int 1, .int 2]) (h1 := [D ns a2 b2 c2]) rng3 (by show 3 ≤ sizeLine; rw [hz]; decide) (lc_three w1 w2 w3)) rfl) rfl
  exact seq_ret (ret_ok (by simp [exSs, exS, ev, evs, evo, evc, evAnd, evOr, evSrc, fin, bind_ok, of_ok, then_ok, still_ok, runFn, finFn, bindT, bindTs, look, lookO, truW, view, plOf, Pl.get, Pl.put, Pl.isLst, appOb, setOb, setOwn, isN, isB, Md.sub, Md.neg, binW, cmpW, ltW, gtW, leW, ixW, slW, intW, biW, clsW, isTy, rngW, seqW, Ob.w, wipeW, Tg.vars, Tg.varss, Option.map_some, Option.map_none, Option.bind_some, Option.bind_none, List.any_cons, List.any_nil, List.all_cons, List.all_nil, List.map_cons, List.map_nil, List.length_cons, List.length_nil, List.getElem?_cons_zero, List.getElem?_cons_succ, List.getElem?_nil, List.set_cons_zero, List.set_cons_succ, List.replicate, List.cons_append, List.nil_append, Nat.reduceAdd, Nat.reduceSub, Nat.reduceLT, Nat.reduceLeDiff, Nat.lt_add_one, reduceCtorEq, if_true, if_false, ite_true, ite_false, Bool.not_true, Bool.not_false, Bool.true_or, Bool.false_or, Bool.or_false, Bool.or_true, Bool.and_true, Bool.true_and, Bool.false_and, Bool.and_false, atI_0, atI_1, w4, w5, w6]))
end Bd
namespace Bd
open PySem PySem.Spec PyProof.Rows L2
theorem main : ∀ ns : List Int, ns.length ≤ 63 → ∃ h', callF (tabOf ds) (conOf cs) 1000 60 d_law.nm [.lst (ns.map .int)] [] = .ok (.bl true) h' := fun ns hl => law_ok (con := conOf cs) (fuel := 1000) 50 ns hl
theorem all_cons {α : Type} {p : α → Prop} {a : α} {l : List α} (h : p a) (t : ∀ x ∈ l, p x) : ∀ x ∈ a :: l, p x := List.forall_mem_cons.mpr ⟨h, t⟩
theorem hb : ∀ d ∈ ds, d.bnd := all_cons b_is_number (all_cons b_is_tuple (all_cons b_is_set (all_cons b_set_of (all_cons b_join (all_cons b_meet (all_cons b_without (all_cons b_holds (all_cons b__is_apart (all_cons b__later (all_cons b__earlier (all_cons b__rest (all_cons b__law_draw (all_cons b__law_next (all_cons b__law_same (all_cons b__law_heap (all_cons b__law_in (all_cons b__law_told (all_cons b__law_wrong (all_cons b_law (fun _ h => nomatch h))))))))))))))))))))
theorem hk : ∀ d ∈ ds, dfB nms d = true := all_cons k_is_number (all_cons k_is_tuple (all_cons k_is_set (all_cons k_set_of (all_cons k_join (all_cons k_meet (all_cons k_without (all_cons k_holds (all_cons k__is_apart (all_cons k__later (all_cons k__earlier (all_cons k__rest (all_cons k__law_draw (all_cons k__law_next (all_cons k__law_same (all_cons k__law_heap (all_cons k__law_in (all_cons k__law_told (all_cons k__law_wrong (all_cons k_law (fun _ h => nomatch h))))))))))))))))))))
abbrev Rw : PySem.W.OpenRow := PySem.W.OpenLaw.row PySem.Challenge.rw_boundlands_k01_sets_of_numbers
abbrev Hk : PySem.W.Hook := He.hookX 4 (faOf ds cs) (fnOf ds) [] (tfOf ds) unB
def ob (s : PySem.W.SharedT) : He.AlX := He.obsX 4 (faOf ds cs) (fnOf ds) [] (tfOf ds) unB (HandSHeadRun.getT s)
theorem ob_eq (s : PySem.W.SharedT) : ob s = Hk.obs s.abs := He.obsX_eq (HandSHeadRun.getT_eq s)
theorem run (w : World) : HandSHeadRun.RunEq Rw (PySem.W.view Rw.prog [22]) Hk ob 4000 ["is_number", "is_tuple", "is_set", "set_of", "join", "meet", "without", "holds", "_is_apart", "_later", "_earlier", "_rest", "_law_draw", "_law_next", "_law_same", "_law_heap", "_law_in", "_law_told", "_law_wrong"] w := by
  intro os
  kernel_rfl
end Bd
open PySem PySem.W PySem.Calls PyProof.Rows
theorem PySem.Challenge.cw_boundlands_k01_sets_of_numbers_holds : PySem.Challenge.rw_boundlands_k01_sets_of_numbers.Holds := by
  w_on; o_law
  refine HandSHeadRun.head_any (r := OpenLaw.row PySem.Challenge.rw_boundlands_k01_sets_of_numbers) (q := view (OpenLaw.row PySem.Challenge.rw_boundlands_k01_sets_of_numbers).prog [22]) (H := Bd.Hk) (ob := Bd.ob) (M := 4000) (loose := ["is_number", "is_tuple", "is_set", "set_of", "join", "meet", "without", "holds", "_is_apart", "_later", "_earlier", "_rest", "_law_draw", "_law_next", "_law_same", "_law_heap", "_law_in", "_law_told", "_law_wrong"]) (d := HandSHeadRun.topDef (OpenLaw.row PySem.Challenge.rw_boundlands_k01_sets_of_numbers).prog 22) (kwd := []) Bd.ob_eq
    (by kernel_rfl) (fun s => by kernel_rfl) Bd.run (by kernel_rfl) (by kernel_rfl) (by kernel_rfl) (by rfl) (by first | assumption | decide +kernel) (by decide +kernel) ⟨rfl, rfl, rfl, rfl, rfl, by decide +kernel⟩ ?hw ?hc
  case hw => w_witness2
  case hc =>
    refine LamX.walk_ofTsE (l := PySem.Challenge.rw_boundlands_k01_sets_of_numbers) (n := 63) (k := 60) (x := "script") (CX := L2.CX (PySem.Challenge.rw_boundlands_k01_sets_of_numbers).prog) rfl (by decide) (by kernel_rfl) ⟨rfl, by decide, by decide⟩ ?F (fun w _ _ _ _ z => Bd.law_cx (P := (PySem.Challenge.rw_boundlands_k01_sets_of_numbers).prog) (w := w) _ _ _ _ z)
    intro w mg fa h Y G hmg0
    obtain ⟨K, KX, c⟩ := Y
    have e : (HandSHeadRun.topDef (OpenLaw.row PySem.Challenge.rw_boundlands_k01_sets_of_numbers).prog 22).name = ("law" : PySem.Str) := by kernel_rfl
    rw [e] at hmg0
    exact ⟨K, KX, Bd.law_facts (dl := Bd.d_law) KX G c (by decide +kernel) (by decide +kernel) (by decide +kernel) Bd.hb Bd.hk (List.mem_cons_of_mem _ (List.mem_cons_of_mem _ (List.mem_cons_of_mem _ (List.mem_cons_of_mem _ (List.mem_cons_of_mem _ (List.mem_cons_of_mem _ (List.mem_cons_of_mem _ (List.mem_cons_of_mem _ (List.mem_cons_of_mem _ (List.mem_cons_of_mem _ (List.mem_cons_of_mem _ (List.mem_cons_of_mem _ (List.mem_cons_of_mem _ (List.mem_cons_of_mem _ (List.mem_cons_of_mem _ (List.mem_cons_of_mem _ (List.mem_cons_of_mem _ (List.mem_cons_of_mem _ (List.mem_cons_of_mem _ (List.mem_cons_self)))))))))))))))))))) rfl hmg0 Bd.main⟩
