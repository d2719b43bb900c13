import PyProof.Rows.All
import Wide.All
import OpenK.AllK
import Wide.FinOn
import KE.DataEq
import PyProof.ReprReads
import HandS.List
import HandS.Text
import KE.SortData
import HandS.ForMost
import HandS.Exc
import HandS.ExcOwn
import HandS.TryOnly
import HandS.WordsExc
import HandS.TupAny
import HandS.Wide
import HandS.Star
import HandS.Property
import HandS.IsInst
import HandS.Style
import HandS.FStr
import HandS.Comp
import HandS.Iter
import HandS.Defaults
import OpenK.KOps
import HandS.Zip
import HandS.Conv
import HandS.EndBits
import HandS.HeadHook1
import HandS.HeadHook2
import HandS.Head2
import HandS.HeadNt
import KE.KStateDown
import Lean
import HandS.Head0
import HandS.Head1
import PySem.Challenge.RW_closedroads_k20_whole_steady_by_hand
set_option Elab.async false
set_option linter.all false
set_option maxRecDepth 100000
set_option maxHeartbeats 0
namespace Z
open PySem

/-- data that never change: numbers, texts, tuples, lists that are no longer written, the script, made instances (class, attributes), objects that change (by number), functions -/
inductive P where
  | non | bl (b : Bool) | int (i : Int) | str (s : Str)
  | tup (xs : List P) | lst (xs : List P) | scr (xs : List P)
  | ins (c : Nat) (fs : List P)
  | obj (n : Nat)
  | fn (f : Nat)

/-- what a name may hold: data, a list that may still be written, an instance that is being made -/
inductive W where
  | p (x : P)
  | cel (n : Nat)
  | own (c : Nat) (fs : List P)

/-- a list that may be written; frozen: handed on as data -/
structure Cell where
  xs : List P
  fro : Bool

structure Sto where
  ls : List Cell
  ob : List (Nat × List P)

abbrev Env := List (Option W)

inductive Res (α : Type) where
  | ok (a : α) (st : Sto)
  | exc (c : Nat) (fs : List P) (st : Sto)
  | no

def Res.bind {α β : Type} (r : Res α) (f : α → Sto → Res β) : Res β := match r with
  | .ok a st => f a st
  | .exc c fs st => .exc c fs st
  | .no => .no

def ofO {α : Type} (o : Option α) (st : Sto) : Res α := match o with
  | some a => .ok a st
  | none => .no

mutual
def P.toD : P → Option PyData
  | .non => some .none
  | .bl b => some (.bool b)
  | .int i => some (.int i)
  | .str s => some (.str s)
  | .tup xs => match P.toDs xs with
    | some ds => some (.tuple ds)
    | none => none
  | .lst xs => match P.toDs xs with
    | some ds => some (.list ds)
    | none => none
  | .scr _ => none
  | .ins _ _ => none
  | .obj _ => none
  | .fn _ => none
def P.toDs : List P → Option (List PyData)
  | [] => some []
  | x :: xs => match P.toD x with
    | some d => match P.toDs xs with
      | some ds => some (d :: ds)
      | none => none
    | none => none
end

/-- read only -/
def peek (st : Sto) : W → Option P
  | .p x => some x
  | .cel n => match st.ls[n]? with
    | some c => some (.lst c.xs)
    | none => none
  | .own _ _ => none
/-- read for good: the list may no longer be written -/
def keep (st : Sto) : W → Res P
  | .p x => .ok x st
  | .cel n => match st.ls[n]? with
    | some c => .ok (.lst c.xs) { st with ls := st.ls.set n { c with fro := true } }
    | none => .no
  | .own _ _ => .no
def keeps : List W → Sto → Res (List P)
  | [], st => .ok [] st
  | w :: ws, st => (keep st w).bind fun x st1 => (keeps ws st1).bind fun xs st2 => .ok (x :: xs) st2
def peeks (st : Sto) : List W → Option (List P)
  | [] => some []
  | w :: ws => match peek st w with
    | some x => match peeks st ws with
      | some xs => some (x :: xs)
      | none => none
    | none => none
/-- a new list that may be written -/
def newC (xs : List P) (st : Sto) : Res W := .ok (.cel st.ls.length) { st with ls := st.ls ++ [⟨xs, false⟩] }
def mkL (c : Bool) (xs : List P) (st : Sto) : Res W := if c then newC xs st else .ok (.p (.lst xs)) st
/-- the list at n is written -/
def wrt (n : Nat) (f : List P → Option (List P × P)) (st : Sto) : Res W := match st.ls[n]? with
  | some c => if c.fro then .no else match f c.xs with
    | some (ys, r) => .ok (.p r) { st with ls := st.ls.set n ⟨ys, false⟩ }
    | none => .no
  | none => .no

inductive Op | add | sub | mul | fdiv | mod | pow
inductive Cp | eq | ne | lt | le | gt | ge | isn | notn | inn | nin
/-- built-in functions -/
inductive Bi | len | abs | int | str | bool | repr | min1 | max1 | min2 | max2 | sum | all | any | tuple | list | sorted | setl
/-- methods of texts -/
inductive Sm | split | join | count | replace | upper | index
/-- methods of lists that are written -/
inductive Lm | append | pop | popi | extend

def lim (n : Nat) : Bool := Nat.ble n 16777216
def smallI (i : Int) : Bool := Nat.blt i.natAbs 18446744073709551616

/-- below 2 ^ 8900 -/
def wid (i : Int) : Bool := Nat.blt i.natAbs (2 ^ 8900)
def opP : Op → P → P → Option P
  | .add, .int a, .int b => some (.int (a + b))
  | .add, .str a, .str b => if lim (a.length + b.length) then some (.str (a ++ b)) else none
  | .add, .tup a, .tup b => if lim (a.length + b.length) then some (.tup (a ++ b)) else none
  | .add, .lst a, .lst b => if lim (a.length + b.length) then some (.lst (a ++ b)) else none
  | .sub, .int a, .int b => some (.int (a - b))
  | .mul, .int a, .int b => if smallI a || smallI b || (wid a && wid b) then some (.int (a * b)) else none
  | .fdiv, .int a, .int b => if b == 0 then none else if Nat.blt b.natAbs 1073741824 then some (.int (a.fdiv b)) else if decide (0 < b) && wid b then some (.int (a.fdiv b)) else none
  | .mod, .int a, .int b => if b == 0 then none else some (.int (a.fmod b))
  | .pow, .int a, .int b => if decide (0 ≤ b) && decide (b ≤ 1000000) && smallI a then some (.int (a ^ b.toNat)) else none
  | _, _, _ => none

def eqP (a b : P) : Option Bool := match a.toD, b.toD with
  | some x, some y => if x.plain && y.plain && Nat.ble x.depth 60 then some (PyData.eqv x y) else none
  | _, _ => none
def eqAny (x : P) (ys : List P) : Option Bool := match x.toD, P.toDs ys with
  | some d, some ds => if d.plain && PyData.plainAll ds && Nat.ble d.depth 60 then some (ds.any fun e => PyData.eqv e d) else none
  | _, _ => none
/-- one text in another one -/
def inStr (a b : Str) : Bool := !(Builtin.Str.occurrences b a 0 b.length 1).isEmpty
def ltStr (a b : Str) : Bool := decide (a.cps.toList < b.cps.toList)
def isNon : P → Bool
  | .non => true
  | _ => false
def intsP : List P → Option (List Int)
  | [] => some []
  | .int b :: xs => match intsP xs with
    | some bs => some (b :: bs)
    | none => none
  | _ => none
/-- tuples of numbers, one ahead of the other -/
def ltT (a b : List P) : Option Bool := match intsP a, intsP b with
  | some ns, some ms => some (HT.lexLt ns ms)
  | _, _ => none
def cpP : Cp → P → P → Option Bool
  | .eq, a, b => eqP a b
  | .ne, a, b => (eqP a b).map (!·)
  | .lt, .int a, .int b => some (decide (a < b))
  | .le, .int a, .int b => some (decide (a ≤ b))
  | .gt, .int a, .int b => some (decide (b < a))
  | .ge, .int a, .int b => some (decide (b ≤ a))
  | .lt, .str a, .str b => some (ltStr a b)
  | .lt, .tup a, .tup b => ltT a b
  | .isn, a, .non => some (isNon a)
  | .notn, a, .non => some (!isNon a)
  | .inn, .str a, .str b => some (inStr a b)
  | .nin, .str a, .str b => some (!inStr a b)
  | .inn, x, .tup ys => eqAny x ys
  | .inn, x, .lst ys => eqAny x ys
  | .nin, x, .tup ys => (eqAny x ys).map (!·)
  | .nin, x, .lst ys => (eqAny x ys).map (!·)
  | _, _, _ => none

/-- is it true? -/
def truP : P → Option Bool
  | .bl b => some b
  | _ => none

def ixP : P → P → Option P
  | .tup xs, .int i => L2.atI xs i
  | .lst xs, .int i => L2.atI xs i
  | .scr xs, .int i => L2.atI xs i
  | .str s, .int i => if lim s.length then match L2.atI s.cps.toList i with
    | some c => some (.str ⟨#[c]⟩)
    | none => none
    else none
  | _, _ => none
/-- a bound of a slice -/
def prtP : P → Option (Option Int)
  | .non => some none
  | .int i => some (some i)
  | _ => none
def cutG {α : Type} (xs : List α) (lo hi : Option Int) : List α := (xs.drop (HT.sIx xs.length 0 lo)).take (HT.sIx xs.length xs.length hi - HT.sIx xs.length 0 lo)
def slP (a : P) (lo hi : Option Int) : Option P := match a with
  | .tup xs => some (.tup (cutG xs lo hi))
  | .lst xs => some (.lst (cutG xs lo hi))
  | .scr xs => some (.lst (cutG xs lo hi))
  | .str s => if lim s.length then some (.str (L2.cutS s lo hi)) else none
  | _ => none
def revP : P → Option P
  | .lst xs => some (.lst xs.reverse)
  | _ => none

end Z

namespace Z
open PySem

/-- kinds of values for isinstance -/
inductive Ty | int | bool | str | tuple | list | cls (c : Nat)

/-- targets -/
inductive Tg where
  | n (i : Nat)
  | t (xs : List Tg)

mutual
inductive E where
  | non | bl (b : Bool) | int (i : Int) | str (s : Str)
  | v (i : Nat)
  | gv (x : Nat)
  | tup (es : Es)
  | lst (c : Bool) (es : Es)
  | op (o : Op) (a b : E)
  | neg (a : E)
  | not (a : E)
  | cmp (o : Cp) (a b : E)
  | chn (o1 o2 : Cp) (a b c : E)
  | and (a b : E)
  | or (a b : E)
  | ife (t a b : E)
  | ix (a i : E)
  | sl (a lo hi : E)
  | rev (a : E)
  | call (f : Nat) (es : Es)
  | calk (f : Nat) (es : Es) (pm : List Nat)
  | meth (c : Nat) (f : Nat) (o : E) (es : Es)
  | prop (c : Nat) (f : Nat) (o : E)
  | new (c : Nat) (f : Nat) (k : Nat) (es : Es)
  | fld (c : Nat) (i : Nat) (o : E)
  | isi (t : Ty) (e : E)
  | bi (b : Bi) (c : Bool) (es : Es)
  | sm (m : Sm) (c : Bool) (o : E) (es : Es)
  | lm (m : Lm) (o : E) (es : Es)
  | lc (c : Bool) (vs : List Nat) (tg : Tg) (it : It) (t : E) (e : E)
  | lc2 (c : Bool) (vs vs1 : List Nat) (tg : Tg) (it : It) (t : E) (tg1 : Tg) (it1 : It) (t1 : E) (e : E)
  | fst (es : Es)
  | srtk (c : Bool) (f : Nat) (e : E)
  | rgt (l : Bool) (c : Bool) (a : E)
inductive Es where
  | nil
  | cons (e : E) (es : Es)
  | star (e : E) (es : Es)
inductive It where
  | val (e : E)
  | rng1 (a : E)
  | rng2 (a b : E)
  | zip (a b : E)
  | enum (a : E)
end

mutual
inductive S where
  | ex (e : E)
  | set (t : Tg) (e : E)
  | par (is : List Nat) (es : Es)
  | seti (o i : E) (e : E)
  | sown (k i : Nat) (e : E)
  | ret (e : E)
  | retn
  | ife (t : E) (a b : Ss)
  | for_ (tg : Tg) (it : It) (body : Ss)
  | whl (t : E) (body : Ss)
  | rai (c : Nat) (es : Es)
  | try_ (body : Ss) (h : Hs)
  | pass | brk | cnt | doc
  | bad
inductive Ss where
  | nil
  | cons (s : S) (ss : Ss)
inductive Hs where
  | nil
  | cons (cs : List Nat) (nm : Option Nat) (b : Ss) (hs : Hs)
end

structure Ctx where
  call : Nat → List W → Sto → Res W
  new : Nat → Nat → List W → Sto → Res (List P)
  glo : Nat → Option P
  sub : Nat → Nat → Bool
  dun : Nat → Nat → Option Nat
  inst : Nat → Bool
  fuel : Nat

/-- a state behind a statement -/
inductive SR where
  | nx (δ : Env) (st : Sto)
  | rt (w : W) (st : Sto)
  | bk (δ : Env) (st : Sto)
  | ct (δ : Env) (st : Sto)
  | xc (c : Nat) (fs : List P) (δ : Env) (st : Sto)
  | no

def wipe (δ : Env) : List Nat → Env
  | [] => δ
  | v :: vs => (wipe δ vs).set v none
def one : List P → Option P
  | [x] => some x
  | _ => none
def notOwn : W → Bool
  | .own _ _ => false
  | _ => true
mutual
def Tg.put : Tg → W → Env → Option Env
  | .n i, w, δ => if i < δ.length && notOwn w then some (δ.set i (some w)) else none
  | .t ts, .p (.tup xs), δ => Tg.puts ts xs δ
  | .t ts, .p (.lst xs), δ => Tg.puts ts xs δ
  | .t _, _, _ => none
def Tg.puts : List Tg → List P → Env → Option Env
  | [], [], δ => some δ
  | g :: ts, x :: xs, δ => match Tg.put g (.p x) δ with
    | some δ' => Tg.puts ts xs δ'
    | none => none
  | _, _, _ => none
end
def putAll : List Nat → List W → Env → Option Env
  | [], [], δ => some δ
  | i :: is, w :: ws, δ => if i < δ.length && notOwn w then putAll is ws (δ.set i (some w)) else none
  | _, _, _ => none

def itemsP : P → Option (List P)
  | .tup xs => some xs
  | .lst xs => some xs
  | .str s => some (s.cps.toList.map fun c => .str ⟨#[c]⟩)
  | _ => none
def small62 (i : Int) : Bool := Nat.blt i.natAbs 4611686018427387904
def rngP (lo hi : Int) : Option (List P) := if small62 lo && small62 hi then some ((List.range (hi - lo).toNat).map fun k => P.int (lo + (k : Nat))) else none
def zipP : List P → List P → List P
  | x :: xs, y :: ys => .tup [x, y] :: zipP xs ys
  | _, _ => []
def enumP : Nat → List P → List P
  | _, [] => []
  | n, x :: xs => .tup [.int n, x] :: enumP (n + 1) xs

def insL (le : P → P → Bool) (x : P) : List P → List P
  | [] => [x]
  | y :: ys => if le x y then x :: y :: ys else y :: insL le x ys
def isort (le : P → P → Bool) : List P → List P
  | [] => []
  | x :: xs => insL le x (isort le xs)
def isInt : P → Bool
  | .int _ => true
  | _ => false
def isStr : P → Bool
  | .str _ => true
  | _ => false
def isIntTup : P → Bool
  | .tup (x :: xs) => (x :: xs).all isInt
  | _ => false
def encP (x : P) : PyData := x.toD.getD .none
def leP : P → P → Bool := PySem.W.dataLe false encP
def sortable (xs : List P) : Bool := (xs.all isInt || xs.all isStr || xs.all isIntTup) && lim xs.length
def sortP (xs : List P) : Option (List P) := if sortable xs then some (isort leP xs) else none
/-- unlike items of a set of numbers or of texts, ascending -/
def dedup : List P → List P
  | [] => []
  | x :: xs => if (eqAny x xs) == some true then dedup xs else x :: dedup xs
def boolsP : List P → Option (List Bool)
  | [] => some []
  | .bl b :: xs => match boolsP xs with
    | some bs => some (b :: bs)
    | none => none
  | _ => none
def minI (a : Int) (xs : List Int) : Int := xs.foldl (fun a i => if i < a then i else a) a
def maxI (a : Int) (xs : List Int) : Int := xs.foldl (fun a i => if a < i then i else a) a
def lenP : P → Option Nat
  | .tup xs => some xs.length
  | .lst xs => some xs.length
  | .scr xs => some xs.length
  | .str s => if lim s.length then some s.length else none
  | _ => none
def txts : List P → Option (List Str)
  | [] => some []
  | .str s :: xs => match txts xs with
    | some ss => some (s :: ss)
    | none => none
  | _ => none
def showI (i : Int) : Bool := Nat.blt i.natAbs (2 ^ 1900)

/-- built-in functions that make no list -/
def biP : Bi → List P → Option P
  | .len, [x] => match lenP x with
    | some n => some (.int ((n : Nat) : Int))
    | none => none
  | .abs, [.int i] => some (.int (if i < 0 then -i else i))
  | .int, [.int i] => some (.int i)
  | .str, [.int i] => if showI i then some (.str (toString i)) else none
  | .min1, [.lst xs] => match intsP xs with
    | some (a :: ns) => some (.int (minI a ns))
    | _ => none
  | .max1, [.lst xs] => match intsP xs with
    | some (a :: ns) => some (.int (maxI a ns))
    | _ => none
  | .min2, [.int a, .int b] => some (.int (if b < a then b else a))
  | .max2, [.int a, .int b] => some (.int (if b > a then b else a))
  | .sum, [.lst xs] => match intsP xs with
    | some ns => some (.int ns.sum)
    | none => none
  | .all, [.lst xs] => match boolsP xs with
    | some bs => some (.bl (bs.all id))
    | none => none
  | .any, [.lst xs] => match boolsP xs with
    | some bs => some (.bl (bs.any id))
    | none => none
  | .tuple, [.lst xs] => some (.tup xs)
  | .tuple, [.tup xs] => some (.tup xs)
  | .repr, [x] => match x.toD with
    | some d => if d.showable && !d.hasDict && Nat.ble d.depth 60 && lim (d.shown.length + 64) then some (.str d.shown) else none
    | none => none
  | _, _ => none
/-- built-in functions that make a list -/
def biL : Bi → List P → Option (List P)
  | .list, [.lst xs] => some xs
  | .list, [.tup xs] => some xs
  | .sorted, [.lst xs] => sortP xs
  | .setl, [.lst xs] => if xs.all isInt || xs.all isStr then sortP (dedup xs) else none
  | _, _ => none
def joinS (s : Str) (ss : List Str) : Option P := if lim ((ss.map (·.length)).sum + ss.length * s.length) then some (.str (Str.join s ss)) else none
def smP : Sm → Str → List P → Option P
  | .join, s, [.lst xs] => match txts xs with
    | some ss => joinS s ss
    | none => none
  | .join, s, [.tup xs] => match txts xs with
    | some ss => joinS s ss
    | none => none
  | _, _, _ => none
def smL : Sm → Str → List P → Option (List P)
  | _, _, _ => none
def lmF : Lm → List P → List P → Option (List P × P)
  | .append, [x], ys => if lim (ys.length + 1) then some (ys ++ [x], .non) else none
  | .pop, [], ys => match ys.getLast? with
    | some x => some (ys.dropLast, x)
    | none => none
  | .popi, [.int i], ys => if small62 i then match L2.ixN ys.length i with
      | some k => match ys[k]? with
        | some x => some (ys.eraseIdx k, x)
        | none => none
      | none => none
    else none
  | .extend, [.lst xs], ys => if lim (ys.length + xs.length) then some (ys ++ xs, .non) else none
  | _, _, _ => none
def isP (sub : Nat → Nat → Bool) : Ty → P → Bool
  | .int, .int _ => true
  | .int, .bl _ => true
  | .bool, .bl _ => true
  | .str, .str _ => true
  | .tuple, .tup _ => true
  | .list, .lst _ => true
  | .cls c, .ins k _ => sub k c
  | _, _ => false
/-- data whose class is known -/
def kindP (f : Nat → Bool) : P → Bool
  | .ins c _ => f c
  | .scr _ => false
  | .obj _ => false
  | .fn _ => false
  | _ => true
/-- as part of an f-string -/
def fmP : W → Option Str
  | .p (.str s) => some s
  | .p (.int i) => if showI i then some (toString i) else none
  | _ => none
/-- in a comprehension nothing may be raised -/
def noX {α : Type} : Res α → Res α
  | .exc _ _ _ => .no
  | r => r
/-- through the items of a comprehension -/
def mapR (f : P → Sto → Res (Option P)) : List P → Sto → Res (List P)
  | [], st => .ok [] st
  | x :: xs, st => (f x st).bind fun y st1 => (mapR f xs st1).bind fun ys st2 => .ok (match y with
    | some y => y :: ys
    | none => ys) st2
def mapL (f : P → Sto → Res (List P)) : List P → Sto → Res (List P)
  | [], st => .ok [] st
  | x :: xs, st => (f x st).bind fun y st1 => (mapL f xs st1).bind fun ys st2 => .ok (y ++ ys) st2

def pick {α : Type} (xs : List α) : List Nat → Option (List α)
  | [] => some []
  | i :: is => match xs[i]?, pick xs is with
    | some x, some r => some (x :: r)
    | _, _ => none

def biG (b : Bi) (c : Bool) (ws : List W) (st : Sto) : Res W := match peeks st ws with
  | some xs => match biP b xs with
    | some y => .ok (.p y) st
    | none => match biL b xs with
      | some ys => mkL c ys st
      | none => .no
  | none => .no
/-- which own method a built-in function calls -/
def dunOf : Bi → Option Nat
  | .len => some 0
  | .str => some 2
  | .bool => some 3
  | _ => none
/-- what such a method may hand back -/
def dunR : Bi → W → Sto → Res W
  | .len, .p (.int n), st => if decide (0 ≤ n) && small62 n then .ok (.p (.int n)) st else .no
  | .str, .p (.str x), st => .ok (.p (.str x)) st
  | .bool, .p (.bl x), st => .ok (.p (.bl x)) st
  | _, _, _ => .no
/-- tuple(range(n)), list(range(n)) -/
def rgtR (l c : Bool) (w : W) (st : Sto) : Res W := match w with
  | .p (.int n) => match rngP 0 n with
    | some xs => if lim xs.length then (if l then mkL c xs st else .ok (.p (.tup xs)) st) else .no
    | none => .no
  | _ => .no
variable (C : Ctx)
def biW (b : Bi) (c : Bool) (ws : List W) (st : Sto) : Res W := match ws with
  | [.p (.ins k fs)] => match dunOf b with
    | some d => match C.dun k d with
      | some f => (C.call f ws st).bind (dunR b)
      | none => .no
    | none => biG b c ws st
  | _ => biG b c ws st
def tru (w : W) (st : Sto) : Res Bool := match w with
  | .p x => ofO (truP x) st
  | _ => .no
def Res.one (f : P → Option P) (w : W) (st : Sto) : Res W := match peek st w with
  | some x => match f x with
    | some y => .ok (.p y) st
    | none => .no
  | none => .no
def Res.two (f : P → P → Option P) (w u : W) (st : Sto) : Res W := match peek st w, peek st u with
  | some x, some y => match f x y with
    | some z => .ok (.p z) st
    | none => .no
  | _, _ => .no
mutual
def E.ev : E → Env → Sto → Res W
  | .non, _, st => .ok (.p .non) st
  | .bl b, _, st => .ok (.p (.bl b)) st
  | .int i, _, st => .ok (.p (.int i)) st
  | .str s, _, st => .ok (.p (.str s)) st
  | .v i, δ, st => match δ[i]? with
    | some (some w) => .ok w st
    | _ => .no
  | .gv x, _, st => match C.glo x with
    | some y => .ok (.p y) st
    | none => .no
  | .tup es, δ, st => (es.ev δ st).bind fun ws st => (keeps ws st).bind fun xs st => if lim xs.length then .ok (.p (.tup xs)) st else .no
  | .lst c es, δ, st => (es.ev δ st).bind fun ws st => (keeps ws st).bind fun xs st => if lim xs.length then mkL c xs st else .no
  | .op o a b, δ, st => (a.ev δ st).bind fun w st => (b.ev δ st).bind fun u st => Res.two (opP o) w u st
  | .neg a, δ, st => (a.ev δ st).bind fun w st => Res.one (fun x => match x with
    | .int i => some (.int (-i))
    | _ => none) w st
  | .not a, δ, st => (a.ev δ st).bind fun w st => (tru w st).bind fun b st => .ok (.p (.bl (!b))) st
  | .cmp o a b, δ, st => (a.ev δ st).bind fun w st => (b.ev δ st).bind fun u st => Res.two (fun x y => (cpP o x y).map .bl) w u st
  | .chn o1 o2 a b c, δ, st => (a.ev δ st).bind fun w st => (b.ev δ st).bind fun u st => (Res.two (fun x y => (cpP o1 x y).map .bl) w u st).bind fun r st => (tru r st).bind fun t st =>
    if t then (c.ev δ st).bind fun z st => Res.two (fun x y => (cpP o2 x y).map .bl) u z st else .ok (.p (.bl false)) st
  | .and a b, δ, st => (a.ev δ st).bind fun w st => (tru w st).bind fun t st => if t then b.ev δ st else .ok w st
  | .or a b, δ, st => (a.ev δ st).bind fun w st => (tru w st).bind fun t st => if t then .ok w st else b.ev δ st
  | .ife t a b, δ, st => (t.ev δ st).bind fun w st => (tru w st).bind fun t st => if t then a.ev δ st else b.ev δ st
  | .ix a i, δ, st => (a.ev δ st).bind fun w st => (i.ev δ st).bind fun u st => Res.two ixP w u st
  | .sl a lo hi, δ, st => (a.ev δ st).bind fun w st => (lo.ev δ st).bind fun l st => (hi.ev δ st).bind fun h st => match peek st w, l, h with
    | some x, .p l, .p h => match prtP l, prtP h with
      | some l, some h => match slP x l h with
        | some y => .ok (.p y) st
        | none => .no
      | _, _ => .no
    | _, _, _ => .no
  | .rev a, δ, st => (a.ev δ st).bind fun w st => Res.one revP w st
  | .call f es, δ, st => (es.ev δ st).bind fun ws st => C.call f ws st
  | .calk f es pm, δ, st => (es.ev δ st).bind fun ws st => match pick ws pm with
    | some us => C.call f us st
    | none => .no
  | .meth c f o es, δ, st => (o.ev δ st).bind fun w st => match w with
    | .p (.ins k fs) => if k == c then (es.ev δ st).bind fun ws st => C.call f (.p (.ins k fs) :: ws) st else .no
    | _ => .no
  | .prop c f o, δ, st => (o.ev δ st).bind fun w st => match w with
    | .p (.ins k fs) => if k == c then noX (C.call f [.p (.ins k fs)] st) else .no
    | _ => .no
  | .new c f k es, δ, st => (es.ev δ st).bind fun ws st => (C.new c f ws st).bind fun fs st => if fs.length == k then .ok (.p (.ins c fs)) st else .no
  | .fld c i o, δ, st => (o.ev δ st).bind fun w st => match w with
    | .p (.ins k fs) => if k == c then match fs[i]? with
      | some x => .ok (.p x) st
      | none => .no
      else .no
    | .own k fs => if k == c then match fs[i]? with
      | some x => .ok (.p x) st
      | none => .no
      else .no
    | _ => .no
  | .isi t e, δ, st => (e.ev δ st).bind fun w st => Res.one (fun x => if kindP C.inst x then some (.bl (isP C.sub t x)) else none) w st
  | .bi b c es, δ, st => (es.ev δ st).bind fun ws st => biW C b c ws st
  | .sm m c o es, δ, st => (o.ev δ st).bind fun w st => match w with
    | .p (.str s) => (es.ev δ st).bind fun ws st => match peeks st ws with
      | some xs => match smP m s xs with
        | some y => .ok (.p y) st
        | none => match smL m s xs with
          | some ys => mkL c ys st
          | none => .no
      | none => .no
    | _ => .no
  | .lm m o es, δ, st => (o.ev δ st).bind fun w st => match w with
    | .cel n => if n < st.ls.length then (es.ev δ st).bind fun ws st => (keeps ws st).bind fun xs st => wrt n (lmF m xs) st else .no
    | _ => .no
  | .lc c vs tg it t e, δ, st => (it.ev δ st).bind fun xs st => (noX (mapR (fun x st => match tg.put (.p x) (wipe δ vs) with
      | some δ1 => ((t.ev δ1 st).bind tru).bind fun b st => if b then (e.ev δ1 st).bind fun w st => (keep st w).bind fun y st => .ok (some y) st else .ok none st
      | none => .no) xs st)).bind fun ys st => if lim ys.length then mkL c ys st else .no
  | .lc2 c vs vs1 tg it t tg1 it1 t1 e, δ, st => (it.ev δ st).bind fun xs st => (noX (mapL (fun x st => match tg.put (.p x) (wipe δ vs) with
      | some δ1 => ((t.ev δ1 st).bind tru).bind fun b st => if b then (it1.ev δ1 st).bind fun xs1 st => mapR (fun x1 st => match tg1.put (.p x1) (wipe δ1 vs1) with
          | some δ2 => ((t1.ev δ2 st).bind tru).bind fun b st => if b then (e.ev δ2 st).bind fun w st => (keep st w).bind fun y st => .ok (some y) st else .ok none st
          | none => .no) xs1 st
        else .ok [] st
      | none => .no) xs st)).bind fun ys st => if lim ys.length then mkL c ys st else .no
  | .fst es, δ, st => es.fj ⟨#[]⟩ δ st
  | .srtk c f e, δ, st => (e.ev δ st).bind fun w st => match peek st w with
    | some x => match itemsP x with
      | some xs => (mapR (fun x st => (C.call f [.p x] st).bind fun k st => (keep st k).bind fun k st => .ok (some (.tup [k, x])) st) xs st).bind fun ks st =>
        if (ks.all fun k => match k with
          | .tup [.int _, _] => true
          | _ => false) && lim ks.length then mkL c ((isort (fun k l => match k, l with
          | .tup [.int a, _], .tup [.int b, _] => decide (a ≤ b)
          | _, _ => false) ks).filterMap fun k => match k with
          | .tup [_, x] => some x
          | _ => none) st
        else .no
      | none => .no
    | none => .no
  | .rgt l c a, δ, st => (a.ev δ st).bind fun w st => rgtR l c w st
def Es.ev : Es → Env → Sto → Res (List W)
  | .nil, _, st => .ok [] st
  | .cons e es, δ, st => (e.ev δ st).bind fun w st => (es.ev δ st).bind fun ws st => .ok (w :: ws) st
  | .star e es, δ, st => (e.ev δ st).bind fun w st => match peek st w with
    | some (.tup xs) => (es.ev δ st).bind fun ws st => .ok (xs.map .p ++ ws) st
    | some (.lst xs) => (es.ev δ st).bind fun ws st => .ok (xs.map .p ++ ws) st
    | _ => .no
def Es.fj : Es → Str → Env → Sto → Res W
  | .nil, acc, _, st => .ok (.p (.str acc)) st
  | .cons e es, acc, δ, st => (e.ev δ st).bind fun w st => match fmP w with
    | some s => if lim (acc ++ s).length && lim s.length then es.fj (acc ++ s) δ st else .no
    | none => .no
  | .star _ _, _, _, _ => .no
def It.ev : It → Env → Sto → Res (List P)
  | .val e, δ, st => (e.ev δ st).bind fun w st => (keep st w).bind fun x st => ofO (itemsP x) st
  | .rng1 a, δ, st => (a.ev δ st).bind fun w st => match w with
    | .p (.int n) => ofO (rngP 0 n) st
    | _ => .no
  | .rng2 a b, δ, st => (a.ev δ st).bind fun w st => (b.ev δ st).bind fun u st => match w, u with
    | .p (.int m), .p (.int n) => ofO (rngP m n) st
    | _, _ => .no
  | .zip a b, δ, st => (a.ev δ st).bind fun w st => (b.ev δ st).bind fun u st => (keep st w).bind fun x st => (keep st u).bind fun y st => match x, y with
    | .tup xs, .tup ys => .ok (zipP xs ys) st
    | .lst xs, .lst ys => .ok (zipP xs ys) st
    | _, _ => .no
  | .enum a, δ, st => (a.ev δ st).bind fun w st => (keep st w).bind fun x st => match x with
    | .lst xs => .ok (enumP 0 xs) st
    | _ => .no
end

def setAt (k : Int) (x : P) (ys : List P) : Option (List P × P) := match L2.ixN ys.length k with
  | some j => some (ys.set j x, .non)
  | none => none
def Res.sr {α : Type} (r : Res α) (δ : Env) (f : α → Sto → SR) : SR := match r with
  | .ok a st => f a st
  | .exc c fs st => .xc c fs δ st
  | .no => .no
def forR (tg : Tg) (body : Env → Sto → SR) : List P → Env → Sto → SR
  | [], δ, st => .nx δ st
  | x :: xs, δ, st => match tg.put (.p x) δ with
    | some δ1 => match body δ1 st with
      | .nx δ2 st2 => forR tg body xs δ2 st2
      | .ct δ2 st2 => forR tg body xs δ2 st2
      | .bk δ2 st2 => .nx δ2 st2
      | .rt w st2 => .rt w st2
      | .xc c fs δ2 st2 => .xc c fs δ2 st2
      | .no => .no
    | none => .no
def whlR (t : Env → Sto → Res W) (body : Env → Sto → SR) : Nat → Env → Sto → SR
  | 0, _, _ => .no
  | n + 1, δ, st => (t δ st).sr δ fun w st1 => (tru w st1).sr δ fun b st1 => if b then match body δ st1 with
      | .nx δ2 st2 => whlR t body n δ2 st2
      | .ct δ2 st2 => whlR t body n δ2 st2
      | .bk δ2 st2 => .nx δ2 st2
      | .rt w st2 => .rt w st2
      | .xc c fs δ2 st2 => .xc c fs δ2 st2
      | .no => .no
    else .nx δ st1
mutual
def S.ev : S → Env → Sto → SR
  | .ex e, δ, st => (e.ev C δ st).sr δ fun _ st => .nx δ st
  | .set tg e, δ, st => (e.ev C δ st).sr δ fun w st => match tg with
    | .n i => if i < δ.length && notOwn w then .nx (δ.set i (some w)) st else .no
    | .t ts => (keep st w).sr δ fun x st => match Tg.put (.t ts) (.p x) δ with
      | some δ1 => .nx δ1 st
      | none => .no
  | .par is es, δ, st => (es.ev C δ st).sr δ fun ws st => match putAll is ws δ with
    | some δ1 => .nx δ1 st
    | none => .no
  | .seti o i e, δ, st => (e.ev C δ st).sr δ fun w st => (keep st w).sr δ fun x st => (o.ev C δ st).sr δ fun ow st => (i.ev C δ st).sr δ fun iw st => match ow, iw with
    | .cel n, .p (.int k) => (wrt n (setAt k x) st).sr δ fun _ st => .nx δ st
    | _, _ => .no
  | .sown k i e, δ, st => (e.ev C δ st).sr δ fun w st => (keep st w).sr δ fun x st => match δ[0]? with
    | some (some (W.own c fs)) => if c == k && i == fs.length then .nx (δ.set 0 (some (.own c (fs ++ [x])))) st else .no
    | _ => .no
  | .ret e, δ, st => (e.ev C δ st).sr δ fun w st => .rt w st
  | .retn, _, st => .rt (.p .non) st
  | .ife t a b, δ, st => (t.ev C δ st).sr δ fun w st => (tru w st).sr δ fun c st => if c then a.ev δ st else b.ev δ st
  | .for_ tg it body, δ, st => (it.ev C δ st).sr δ fun xs st => forR tg (fun δ st => body.ev δ st) xs δ st
  | .whl t body, δ, st => whlR (fun δ st => t.ev C δ st) (fun δ st => body.ev δ st) C.fuel δ st
  | .rai c es, δ, st => (es.ev C δ st).sr δ fun ws st => (keeps ws st).sr δ fun xs st => .xc c xs δ st
  | .try_ body hs, δ, st => match body.ev δ st with
    | .xc c fs δ1 st1 => hs.ev c fs δ1 st1
    | r => r
  | .pass, δ, st => .nx δ st
  | .brk, δ, st => .bk δ st
  | .cnt, δ, st => .ct δ st
  | .doc, δ, st => .nx δ st
  | .bad, _, _ => .no
def Ss.ev : Ss → Env → Sto → SR
  | .nil, δ, st => .nx δ st
  | .cons s ss, δ, st => match s.ev δ st with
    | .nx δ1 st1 => ss.ev δ1 st1
    | r => r
def Hs.ev : Hs → Nat → List P → Env → Sto → SR
  | .nil, c, fs, δ, st => .xc c fs δ st
  | .cons cs _ b hs, c, fs, δ, st => if cs.any (C.sub c) then b.ev δ st else hs.ev c fs δ st
end

/-- a def: its parameters, its names in all, whether a list that it hands back may still be written, its body -/
structure Fd where
  np : Nat
  ns : Nat
  rc : Bool
  body : Ss
structure Pg where
  fd : Nat → Option Fd
  glo : Nat → Option P
  sub : Nat → Nat → Bool
  dun : Nat → Nat → Option Nat
  inst : Nat → Bool
  fuel : Nat
def Sto.cut (k : Nat) (st : Sto) : Sto := { st with ls := st.ls.take k }
def leave (rc : Bool) (k : Nat) : SR → Res W
  | .nx _ st => .ok (.p .non) (st.cut k)
  | .rt (.p x) st => .ok (.p x) (st.cut k)
  | .rt (.cel m) st => if m < k then .ok (.cel m) (st.cut k) else match st.ls[m]? with
    | some c => if rc then (if c.fro then .no else .ok (.cel k) { st with ls := st.ls.take k ++ [⟨c.xs, false⟩] }) else .ok (.p (.lst c.xs)) (st.cut k)
    | none => .no
  | .xc c fs _ st => .exc c fs (st.cut k)
  | _ => .no
def leaveN (c k : Nat) : SR → Res (List P)
  | .nx δ st => match δ[0]? with
    | some (some (W.own d fs)) => if d == c then .ok fs (st.cut k) else .no
    | _ => .no
  | .xc c fs _ st => .exc c fs (st.cut k)
  | _ => .no
def start (n : Nat) (ws : List W) : Env := ws.map some ++ List.replicate (n - ws.length) none
def Pg.cx (G : Pg) (call : Nat → List W → Sto → Res W) (new : Nat → Nat → List W → Sto → Res (List P)) : Ctx := ⟨call, new, G.glo, G.sub, G.dun, G.inst, G.fuel⟩
mutual
def Pg.call (G : Pg) : Nat → Nat → List W → Sto → Res W
  | 0, _, _, _ => .no
  | n + 1, f, ws, st => match G.fd f with
    | some d => if ws.length = d.np && ws.all notOwn then leave d.rc st.ls.length (d.body.ev (G.cx (G.call n) (G.new n)) (start d.ns ws) st) else .no
    | none => .no
def Pg.new (G : Pg) : Nat → Nat → Nat → List W → Sto → Res (List P)
  | 0, _, _, _, _ => .no
  | n + 1, c, f, ws, st => match G.fd f with
    | some d => if ws.length + 1 = d.np && ws.all notOwn then leaveN c st.ls.length (d.body.ev (G.cx (G.call n) (G.new n)) (start d.ns (.own c [] :: ws)) st) else .no
    | none => .no
end
end Z

namespace Z
open PySem PySem.Spec PyProof.Rows L2

/-- what the program's top left: the written part, where classes and defs stand, the names of the attributes -/
structure Top where
  K : PySem.W.Frag
  ca : Nat → Addr
  fa : Nat → Addr
  nm : Nat → List Str

mutual
inductive Rp (T : Top) (F : Hp) : V → P → Prop
  | non : Rp T F .non .non
  | bl (b : Bool) : Rp T F (.bl b) (.bl b)
  | int (i : Int) : Rp T F (.int i) (.int i)
  | str (s : Str) : Rp T F (.str s) (.str s)
  | tup {a : Addr} {vs : List V} {xs : List P} : SqT T.K F a vs → Rps T F vs xs → Rp T F (.ref a) (.tup xs)
  | lst {a : Addr} {vs : List V} {xs : List P} : F a = some (.lst vs) → Rps T F vs xs → Rp T F (.ref a) (.lst xs)
  | scr {a : Addr} {vs : List V} {xs : List P} : SqL T.K F a vs → Rps T F vs xs → Rp T F (.ref a) (.scr xs)
  | ins {a dx : Addr} {c : Nat} {vs : List V} {xs : List P} : F a = some (.ins (T.ca c) dx ((T.nm c).zip vs)) → F dx = some (.own a) → vs.length = (T.nm c).length → Rps T F vs xs → Rp T F (.ref a) (.ins c xs)
  | fn (f : Nat) : Rp T F (.ref (T.fa f)) (.fn f)
inductive Rps (T : Top) (F : Hp) : List V → List P → Prop
  | nil : Rps T F [] []
  | cons {v : V} {x : P} {vs : List V} {xs : List P} : Rp T F v x → Rps T F vs xs → Rps T F (v :: vs) (x :: xs)
end

theorem Rd.up {F F' : Hp} (k : ∀ a o, F a = some o → F' a = some o) {a : Addr} {u : HO} (h : Rd F a u) : Rd F' a u := by
  rcases h with h | ⟨o, h⟩
  · exact .inl (k _ _ h)
  · exact .inr ⟨o, k _ _ h⟩
theorem sqT_up {K : PySem.W.Frag} {F F' : Hp} (k : ∀ a o, F a = some o → F' a = some o) {a : Addr} {vs : List V} (h : SqT K F a vs) : SqT K F' a vs := by
  rcases h with h | h
  · exact .inl (Rd.up k h)
  · exact .inr h
theorem sqL_up {K : PySem.W.Frag} {F F' : Hp} (k : ∀ a o, F a = some o → F' a = some o) {a : Addr} {vs : List V} (h : SqL K F a vs) : SqL K F' a vs := by
  rcases h with h | h
  · exact .inl (Rd.up k h)
  · exact .inr h
mutual
theorem Rp.up {T : Top} {F F' : Hp} (k : ∀ a o, F a = some o → F' a = some o) : ∀ {v : V} {x : P}, Rp T F v x → Rp T F' v x
  | _, _, .non => .non
  | _, _, .bl b => .bl b
  | _, _, .int i => .int i
  | _, _, .str s => .str s
  | _, _, .tup h r => .tup (sqT_up k h) (Rps.up k r)
  | _, _, .lst h r => .lst (k _ _ h) (Rps.up k r)
  | _, _, .scr h r => .scr (sqL_up k h) (Rps.up k r)
  | _, _, .ins h h2 l r => .ins (k _ _ h) (k _ _ h2) l (Rps.up k r)
  | _, _, .fn f => .fn f
theorem Rps.up {T : Top} {F F' : Hp} (k : ∀ a o, F a = some o → F' a = some o) : ∀ {vs : List V} {xs : List P}, Rps T F vs xs → Rps T F' vs xs
  | _, _, .nil => .nil
  | _, _, .cons h r => .cons (Rp.up k h) (Rps.up k r)
end
section
variable {T : Top} {F : Hp}
theorem Rps.len : ∀ {vs : List V} {xs : List P}, Rps T F vs xs → vs.length = xs.length
  | _, _, .nil => rfl
  | _, _, .cons _ r => congrArg (· + 1) r.len
theorem Rps.app : ∀ {vs ws : List V} {xs ys : List P}, Rps T F vs xs → Rps T F ws ys → Rps T F (vs ++ ws) (xs ++ ys)
  | _, _, _, _, .nil, h => h
  | _, _, _, _, .cons a r, h => .cons a (r.app h)
theorem Rps.at : ∀ {vs : List V} {xs : List P} {i : Nat} {x : P}, Rps T F vs xs → xs[i]? = some x → ∃ v, vs[i]? = some v ∧ Rp T F v x
  | _, _, i, _, .nil, e => by simp at e
  | _, _, 0, _, .cons h _, e => by
    simp at e
    subst e
    exact ⟨_, rfl, h⟩
  | _, _, i + 1, _, .cons _ r, e => by
    obtain ⟨v, h1, h2⟩ := r.at (i := i) (by simpa using e)
    exact ⟨v, by simpa using h1, h2⟩
theorem Rps.at' : ∀ {vs : List V} {xs : List P} {i : Nat} {v : V}, Rps T F vs xs → vs[i]? = some v → ∃ x, xs[i]? = some x ∧ Rp T F v x
  | _, _, i, _, .nil, e => by simp at e
  | _, _, 0, _, .cons h _, e => by
    simp at e
    subst e
    exact ⟨_, rfl, h⟩
  | _, _, i + 1, _, .cons _ r, e => by
    obtain ⟨v, h1, h2⟩ := r.at' (i := i) (by simpa using e)
    exact ⟨v, by simpa using h1, h2⟩
theorem Rps.put {v : V} {x : P} (h : Rp T F v x) : ∀ {vs : List V} {xs : List P} (i : Nat), Rps T F vs xs → Rps T F (vs.set i v) (xs.set i x)
  | _, _, _, .nil => .nil
  | _, _, 0, .cons _ r => .cons h r
  | _, _, i + 1, .cons q r => .cons q (Rps.put h i r)
theorem Rps.take : ∀ {vs : List V} {xs : List P} (n : Nat), Rps T F vs xs → Rps T F (vs.take n) (xs.take n)
  | _, _, 0, _ => by simpa using Rps.nil
  | _, _, _ + 1, .nil => by simpa using Rps.nil
  | _, _, n + 1, .cons q r => .cons q (Rps.take n r)
theorem Rps.drop : ∀ {vs : List V} {xs : List P} (n : Nat), Rps T F vs xs → Rps T F (vs.drop n) (xs.drop n)
  | _, _, 0, r => by simpa using r
  | _, _, _ + 1, .nil => by simpa using Rps.nil
  | _, _, n + 1, .cons q r => by simpa using Rps.drop n r
theorem Rps.rev : ∀ {vs : List V} {xs : List P}, Rps T F vs xs → Rps T F vs.reverse xs.reverse
  | _, _, .nil => .nil
  | _, _, .cons q r => by simpa using r.rev.app (.cons q .nil)
theorem Rps.erase : ∀ {vs : List V} {xs : List P} (n : Nat), Rps T F vs xs → Rps T F (vs.eraseIdx n) (xs.eraseIdx n)
  | _, _, _, .nil => .nil
  | _, _, 0, .cons _ r => by simpa using r
  | _, _, n + 1, .cons q r => by simpa using Rps.cons q (Rps.erase n r)
end

structure Gd (T : Top) (H F : Hp) (cm : List Addr) (st : Sto) : Prop where
  sub : ∀ a o, F a = some o → H a = some o
  len : cm.length = st.ls.length
  nd : cm.Nodup
  cell : ∀ (n : Nat) (a : Addr) (c : Cell), cm[n]? = some a → st.ls[n]? = some c → ∃ vs, H a = some (.lst vs) ∧ Rps T F vs c.xs ∧ if c.fro = true then F a = some (.lst vs) else F a = none

/-- how a state may grow -/
structure Gr (H F : Hp) (cm : List Addr) (H' F' : Hp) (cm' : List Addr) : Prop where
  f : ∀ a o, F a = some o → F' a = some o
  c : cm <+: cm'
  k : ∀ a o, H a = some o → a ∉ cm → H' a = some o
  n : ∀ a o, F' a = some o → F a = some o ∨ H a = none ∨ a ∈ cm
  m : ∀ a, a ∈ cm' → a ∈ cm ∨ H a = none
theorem Gr.refl (H F : Hp) (cm : List Addr) : Gr H F cm H F cm := ⟨fun _ _ h => h, List.prefix_refl _, fun _ _ h _ => h, fun _ _ h => .inl h, fun _ h => .inl h⟩
theorem Gr.trans {H F H1 F1 H2 F2 : Hp} {cm cm1 cm2 : List Addr} (a : Gr H F cm H1 F1 cm1) (b : Gr H1 F1 cm1 H2 F2 cm2) : Gr H F cm H2 F2 cm2 := by
  have back : ∀ x, H1 x = none → x ∉ cm → H x = none := fun x e hx => by
    cases q : H x with
    | none => rfl
    | some o =>
      rw [a.k x o q hx] at e
      cases e
  have nin : ∀ x o, H x = some o → x ∉ cm → x ∉ cm1 := fun x o e hx hm => by
    rcases a.m x hm with z | z
    · exact hx z
    · rw [e] at z
      cases z
  refine ⟨fun x o h => b.f x o (a.f x o h), a.c.trans b.c, fun x o e hx => b.k x o (a.k x o e hx) (nin x o e hx), fun x o e => ?_, fun x e => ?_⟩
  · by_cases hx : x ∈ cm
    · exact .inr (.inr hx)
    · rcases b.n x o e with z | z | z
      · exact a.n x o z
      · exact .inr (.inl (back x z hx))
      · rcases a.m x z with y | y
        · exact .inr (.inr y)
        · exact .inr (.inl y)
  · by_cases hx : x ∈ cm
    · exact .inl hx
    · rcases b.m x e with z | z
      · exact a.m x z
      · exact .inr (back x z hx)

inductive RpW (T : Top) (H F : Hp) (cm : List Addr) : V → W → Prop
  | p {v : V} {x : P} : Rp T F v x → RpW T H F cm v (.p x)
  | cel {n : Nat} {a : Addr} : cm[n]? = some a → RpW T H F cm (.ref a) (.cel n)
  | own {a dx : Addr} {c : Nat} {vs : List V} {fs : List P} : H a = some (.ins (T.ca c) dx ((T.nm c).zip vs)) → H dx = some (.own a) → F a = none → F dx = none → a ∉ cm → dx ∉ cm → Rps T F vs fs → RpW T H F cm (.ref a) (.own c fs)
theorem RpW.up {T : Top} {H F H' F' : Hp} {cm cm' : List Addr} (g : Gr H F cm H' F' cm') {v : V} {w : W} (h : RpW T H F cm v w) : RpW T H' F' cm' v w := by
  have priv : ∀ (a : Addr) (o : HO), H a = some o → F a = none → a ∉ cm → F' a = none := fun a o e1 e2 e3 => by
    cases q : F' a with
    | none => rfl
    | some u =>
      rcases g.n a u q with z | z | z
      · rw [e2] at z
        cases z
      · rw [e1] at z
        cases z
      · exact absurd z e3
  have out : ∀ (a : Addr) (o : HO), H a = some o → a ∉ cm → a ∉ cm' := fun a o e1 e3 hm => by
    rcases g.m a hm with z | z
    · exact e3 z
    · rw [e1] at z
      cases z
  cases h with
  | p h => exact .p (h.up g.f)
  | cel h =>
    obtain ⟨t, e⟩ := g.c
    refine .cel ?_
    rw [← e, List.getElem?_append_left (List.getElem?_eq_some_iff.mp h).1]
    exact h
  | own h1 h2 h3 h4 h5 h6 h7 => exact .own (g.k _ _ h1 h5) (g.k _ _ h2 h6) (priv _ _ h1 h3 h5) (priv _ _ h2 h4 h6) (out _ _ h1 h5) (out _ _ h2 h6) (h7.up g.f)

/-- item by item -/
inductive RpWs (T : Top) (H F : Hp) (cm : List Addr) : List V → List W → Prop
  | nil : RpWs T H F cm [] []
  | cons {v : V} {w : W} {vs : List V} {ws : List W} : RpW T H F cm v w → RpWs T H F cm vs ws → RpWs T H F cm (v :: vs) (w :: ws)
theorem RpWs.up {T : Top} {H F H' F' : Hp} {cm cm' : List Addr} (g : Gr H F cm H' F' cm') : ∀ {vs : List V} {ws : List W}, RpWs T H F cm vs ws → RpWs T H' F' cm' vs ws
  | _, _, .nil => .nil
  | _, _, .cons h r => .cons (h.up g) (r.up g)
theorem RpWs.len {T : Top} {H F : Hp} {cm : List Addr} : ∀ {vs : List V} {ws : List W}, RpWs T H F cm vs ws → vs.length = ws.length
  | _, _, .nil => rfl
  | _, _, .cons _ r => congrArg (· + 1) r.len

/-- the names -/
structure Sl (T : Top) (H F : Hp) (cm : List Addr) (σ : L2.St) (δ : Env) : Prop where
  len : σ.length = δ.length
  at_ : ∀ (i : Nat) (w : W), δ[i]? = some (some w) → ∃ v, σ[i]? = some (some v) ∧ RpW T H F cm v w
theorem Sl.up {T : Top} {H F H' F' : Hp} {cm cm' : List Addr} (g : Gr H F cm H' F' cm') {σ : L2.St} {δ : Env} (h : Sl T H F cm σ δ) : Sl T H' F' cm' σ δ :=
  ⟨h.len, fun i w e => let ⟨v, a, b⟩ := h.at_ i w e; ⟨v, a, b.up g⟩⟩
theorem Sl.set {T : Top} {H F : Hp} {cm : List Addr} {σ : L2.St} {δ : Env} (h : Sl T H F cm σ δ) {v : V} {w : W} (r : RpW T H F cm v w) (i : Nat) : Sl T H F cm (σ.set i (some v)) (δ.set i (some w)) := by
  refine ⟨by simp [h.len], fun j u e => ?_⟩
  by_cases hj : i = j
  · subst hj
    rw [List.getElem?_set] at e ⊢
    simp only [if_true] at e ⊢
    rw [h.len]
    split at e
    · rename_i hl
      rw [if_pos hl]
      cases e
      exact ⟨v, rfl, r⟩
    · cases e
  · rw [List.getElem?_set_ne hj] at e ⊢
    exact h.at_ j u e

/-- an exception as it flies -/
def ExR (T : Top) (H F : Hp) (cm : List Addr) (d : Option Addr) (c : Nat) (fs : List P) : Prop :=
  (T.nm c = [] ∧ fs = [] ∧ d = none) ∨ ∃ dx vs, d = some dx ∧ H dx = some (.xd ((T.nm c).zip vs)) ∧ F dx = none ∧ dx ∉ cm ∧ vs.length = (T.nm c).length ∧ Rps T F vs fs

/-- what is wanted of an outcome -/
def Post {α β : Type} (rel : Hp → Hp → List Addr → β → α → Prop) (T : Top) (Wx : Value → Option Addr → Hp → Prop) (Q : β → Hp → Prop) (H F : Hp) (cm : List Addr) : Res α → Prop
  | .ok a st => ∀ b H' F' cm', Gr H F cm H' F' cm' → Gd T H' F' cm' st → rel H' F' cm' b a → Q b H'
  | .exc c fs st => ∀ H' F' cm' d, Gr H F cm H' F' cm' → Gd T H' F' cm' st → ExR T H' F' cm' d c fs → Wx (.ref (T.ca c)) d H'
  | .no => False
section
variable {α α' β β' : Type} {rel : Hp → Hp → List Addr → β → α → Prop} {rel' : Hp → Hp → List Addr → β' → α' → Prop} {T : Top} {Wx : Value → Option Addr → Hp → Prop} {Q : β → Hp → Prop} {Q' : β' → Hp → Prop} {H F H1 F1 : Hp} {cm cm1 : List Addr}
theorem Post.up (g : Gr H F cm H1 F1 cm1) : ∀ {r : Res α}, Post rel T Wx Q H F cm r → Post rel T Wx Q H1 F1 cm1 r
  | .ok _ _, h => fun b H' F' cm' g' => h b H' F' cm' (g.trans g')
  | .exc _ _ _, h => fun H' F' cm' d g' => h H' F' cm' d (g.trans g')
  | .no, h => h
theorem Post.bind {r : Res α} {f : α → Sto → Res α'} (h : Post rel' T Wx Q' H F cm (r.bind f)) :
    Post rel T Wx (fun b H1 => ∃ F1 cm1 a st1, Gr H F cm H1 F1 cm1 ∧ Gd T H1 F1 cm1 st1 ∧ rel H1 F1 cm1 b a ∧ Post rel' T Wx Q' H1 F1 cm1 (f a st1)) H F cm r := by
  cases r with
  | ok a st => exact fun b H1 F1 cm1 g gd re => ⟨F1, cm1, a, st, g, gd, re, Post.up (r := f a st) g h⟩
  | exc c fs st => exact h
  | no => exact h
end

def rE (T : Top) (C : Ctx) (Wx : WX) (e : E) : TE := fun σ H Q => ∃ δ st F cm, Gd T H F cm st ∧ Sl T H F cm σ δ ∧ Post (RpW T) T (fun c d H' => Wx c d σ H') Q H F cm (e.ev C δ st)
def rEs (T : Top) (C : Ctx) (Wx : WX) (es : Es) : TA := fun σ H Q => ∃ δ st F cm, Gd T H F cm st ∧ Sl T H F cm σ δ ∧ Post (RpWs T) T (fun c d H' => Wx c d σ H') Q H F cm (es.ev C δ st)
def rT (T : Top) (C : Ctx) (Wx : WX) (e : E) : TT := fun σ H Q => ∃ δ st F cm, Gd T H F cm st ∧ Sl T H F cm σ δ ∧ Post (fun _ _ _ b a => b = a) T (fun c d H' => Wx c d σ H') Q H F cm ((e.ev C δ st).bind tru)

/-- a place in a body's run -/
structure At (X : Cx) (T : Top) (pins : List (Addr × Obj)) (σ : L2.St) (δ : Env) (s : Shared) (H F : Hp) (cm : List Addr) (st : Sto) : Prop where
  I : Inv X pins σ H s
  g : Gd T H F cm st
  sl : Sl T H F cm σ δ

section
variable {X : Cx} {T : Top} {C : Ctx} {Wx : WX} {pins : List (Addr × Obj)} {σ : L2.St} {δ : Env} {s : Shared} {H F : Hp} {cm : List Addr} {st : Sto} {pe : Expr} {e : E} {α β : Type} {rel : Hp → Hp → List Addr → β → α → Prop} {Q : β → Hp → Prop}
/-- an expression is run -/
theorem run_e {f : W → Sto → Res α} (h : PE X pe (rE T C Wx e)) (a : At X T pins σ δ s H F cm st) (hp : Post rel T (fun c d H' => Wx c d σ H') Q H F cm ((e.ev C δ st).bind f)) :
    wpAny (model X.prog X.w) X.A (eval pe X.env) (fun u s1 => ∃ v H1 F1 cm1 w st1, At X T pins σ δ s1 H1 F1 cm1 st1 ∧ Gr H F cm H1 F1 cm1 ∧ RelV v u ∧ RpW T H1 F1 cm1 v w ∧ Post rel T (fun c d H' => Wx c d σ H') Q H1 F1 cm1 (f w st1)) X.xe s :=
  thn (h.run pins s σ H _ a.I ⟨δ, st, F, cm, a.g, a.sl, hp.bind⟩) fun u s1 ⟨v, H1, I1, r1, F1, cm1, w, st1, gr, gd, re, hq⟩ => ⟨v, H1, F1, cm1, w, st1, ⟨I1, gd, a.sl.up gr⟩, gr, r1, re, hq⟩
theorem run_es {es : Es} {pes : List Expr} {pos : Pos} {f : List W → Sto → Res α} (h : PA X pes (rEs T C Wx es)) (a : At X T pins σ δ s H F cm st) (hp : Post rel T (fun c d H' => Wx c d σ H') Q H F cm ((es.ev C δ st).bind f)) :
    wpAny (model X.prog X.w) X.A (spliced (backTo pos (starEach pes X.env))) (fun us s1 => ∃ vs H1 F1 cm1 ws st1, At X T pins σ δ s1 H1 F1 cm1 st1 ∧ Gr H F cm H1 F1 cm1 ∧ Vals vs us ∧ RpWs T H1 F1 cm1 vs ws ∧ Post rel T (fun c d H' => Wx c d σ H') Q H1 F1 cm1 (f ws st1)) X.xe s :=
  thn (h.run pos pins s σ H _ a.I ⟨δ, st, F, cm, a.g, a.sl, hp.bind⟩) fun u s1 ⟨v, H1, I1, r1, F1, cm1, w, st1, gr, gd, re, hq⟩ => ⟨v, H1, F1, cm1, w, st1, ⟨I1, gd, a.sl.up gr⟩, gr, r1, re, hq⟩
/-- as a rule: from every place -/
theorem mk_e (h : ∀ (pins : List (Addr × Obj)) (σ : L2.St) (δ : Env) (s : Shared) (H F : Hp) (cm : List Addr) (st : Sto) (Q : VK), At X T pins σ δ s H F cm st → Post (RpW T) T (fun c d H' => Wx c d σ H') Q H F cm (e.ev C δ st) →
    wpAny (model X.prog X.w) X.A (eval pe X.env) (EP X pins σ Q) X.xe s) : PE X pe (rE T C Wx e) :=
  ⟨fun pins s σ H Q I ⟨δ, st, F, cm, g, sl, hp⟩ => h pins σ δ s H F cm st Q ⟨I, g, sl⟩ hp⟩
/-- the end: a value, nothing has changed -/
theorem fin_e {Q : VK} {w : W} {v : V} {u : Value} {s' : Shared} {Wx' : Value → Option Addr → Hp → Prop} (I : Inv X pins σ H s') (g : Gd T H F cm st) (hp : Post (RpW T) T Wx' Q H F cm (.ok w st)) (r : RelV v u) (rw : RpW T H F cm v w) : EP X pins σ Q u s' :=
  ⟨v, H, I, r, hp v H F cm (Gr.refl _ _ _) g rw⟩
end
end Z

namespace Z
open PySem PySem.Spec PyProof.Rows L2

section
variable {T : Top} {H F : Hp} {cm : List Addr} {st : Sto} {p : Addr} {o : HO}
theorem Gd.notin (g : Gd T H F cm st) (hp : H p = none) : p ∉ cm := fun hm => by
  obtain ⟨n, hn, e⟩ := List.getElem_of_mem hm
  have hn2 : n < st.ls.length := by rw [← g.len]; exact hn
  obtain ⟨vs, h, _⟩ := g.cell n p st.ls[n] (by rw [List.getElem?_eq_getElem hn, e]) (List.getElem?_eq_getElem hn2)
  rw [hp] at h
  cases h
theorem Gd.freshF (g : Gd T H F cm st) (hp : H p = none) : F p = none := by
  cases q : F p with
  | none => rfl
  | some o =>
    rw [g.sub _ _ q] at hp
    cases hp
theorem upd_keep {H : Hp} (hp : H p = none) : ∀ a u, H a = some u → upd H p o a = some u := fun a u e => by
  rw [upd_ne (ne_of_none e hp)]
  exact e
/-- a new thing for good -/
theorem Gd.lay (g : Gd T H F cm st) (hp : H p = none) : Gd T (upd H p o) (upd F p o) cm st := by
  have hF := g.freshF hp
  have hn := g.notin hp
  refine ⟨fun a u e => ?_, g.len, g.nd, fun n a c h1 h2 => ?_⟩
  · by_cases ha : a = p
    · subst ha
      rw [upd_same] at e ⊢
      exact e
    · rw [upd_ne ha] at e ⊢
      exact g.sub _ _ e
  · obtain ⟨vs, e1, r, e2⟩ := g.cell n a c h1 h2
    have ha : a ≠ p := fun z => hn (z ▸ List.mem_of_getElem? h1)
    refine ⟨vs, by rw [upd_ne ha]; exact e1, r.up (upd_keep hF), ?_⟩
    rw [upd_ne ha]
    exact e2
theorem Gr.lay (g : Gd T H F cm st) (hp : H p = none) : Gr H F cm (upd H p o) (upd F p o) cm := by
  refine ⟨upd_keep (g.freshF hp), List.prefix_refl _, fun a u e _ => upd_keep hp a u e, fun a u e => ?_, fun a h => .inl h⟩
  by_cases ha : a = p
  · subst ha
    exact .inr (.inl hp)
  · rw [upd_ne ha] at e
    exact .inl e
/-- a new thing that is not kept in mind -/
theorem Gd.side (g : Gd T H F cm st) (hp : H p = none) : Gd T (upd H p o) F cm st := by
  have hn := g.notin hp
  refine ⟨fun a u e => upd_keep hp _ _ (g.sub _ _ e), g.len, g.nd, fun n a c h1 h2 => ?_⟩
  obtain ⟨vs, e1, r, e2⟩ := g.cell n a c h1 h2
  exact ⟨vs, upd_keep hp _ _ e1, r, e2⟩
theorem Gr.side (hp : H p = none) : Gr H F cm (upd H p o) F cm :=
  ⟨fun _ _ e => e, List.prefix_refl _, fun a u e _ => upd_keep hp a u e, fun _ _ e => .inl e, fun _ h => .inl h⟩
/-- a new list that may be written -/
theorem Gd.cel {vs : List V} {xs : List P} (g : Gd T H F cm st) (hp : H p = none) (r : Rps T F vs xs) : Gd T (upd H p (.lst vs)) F (cm ++ [p]) { st with ls := st.ls ++ [⟨xs, false⟩] } := by
  have hn := g.notin hp
  refine ⟨fun a u e => upd_keep hp _ _ (g.sub _ _ e), by simp [g.len], ?_, fun n a c h1 h2 => ?_⟩
  · rw [List.nodup_append]
    exact ⟨g.nd, by simp, fun a ha b hb => by
      have : b = p := by simpa using hb
      subst this
      exact fun z => hn (z ▸ ha)⟩
  · by_cases hlt : n < cm.length
    · rw [List.getElem?_append_left hlt] at h1
      rw [List.getElem?_append_left (by rw [← g.len]; exact hlt)] at h2
      obtain ⟨vs', e1, r', e2⟩ := g.cell n a c h1 h2
      exact ⟨vs', upd_keep hp _ _ e1, r', e2⟩
    · rw [List.getElem?_append_right (by omega)] at h1
      rw [List.getElem?_append_right (by rw [← g.len]; omega)] at h2
      have e0 : n - cm.length = 0 := by
        have := (List.getElem?_eq_some_iff.mp h1).1
        simp at this
        omega
      have e0' : n - st.ls.length = 0 := by rw [← g.len]; exact e0
      rw [e0] at h1
      rw [e0'] at h2
      simp at h1 h2
      subst h1 h2
      exact ⟨vs, upd_same, r, by simpa using g.freshF hp⟩
theorem Gr.cel {vs : List V} (hp : H p = none) : Gr H F cm (upd H p (.lst vs)) F (cm ++ [p]) :=
  ⟨fun _ _ e => e, List.prefix_append _ _, fun a u e _ => upd_keep hp a u e, fun _ _ e => .inl e, fun a h => by
    rcases List.mem_append.mp h with h | h
    · exact .inl h
    · have : a = p := by simpa using h
      subst this
      exact .inr hp⟩
theorem RpW.last {vs : List V} (g : Gd T H F cm st) : RpW T (upd H p (.lst vs)) F (cm ++ [p]) (.ref p) (.cel st.ls.length) := .cel (by rw [← g.len]; simp)

inductive Rv (T : Top) (H F : Hp) : V → P → Prop
  | p {v : V} {x : P} : Rp T F v x → Rv T H F v x
  | l {a : Addr} {vs : List V} {xs : List P} : H a = some (.lst vs) → Rps T F vs xs → Rv T H F (.ref a) (.lst xs)
theorem peek_rv (g : Gd T H F cm st) {v : V} {w : W} {x : P} (r : RpW T H F cm v w) (h : peek st w = some x) : Rv T H F v x := by
  cases r with
  | p r =>
    have : _ = x := Option.some.inj h
    subst this
    exact .p r
  | @cel n a e =>
    have hn : n < st.ls.length := by rw [← g.len]; exact (List.getElem?_eq_some_iff.mp e).1
    simp only [peek, List.getElem?_eq_getElem hn] at h
    have : _ = x := Option.some.inj h
    subst this
    obtain ⟨vs, h1, h2, _⟩ := g.cell n a _ e (List.getElem?_eq_getElem hn)
    exact .l h1 h2
  | own => cases h
theorem Rv.rp (g : Gd T H F cm st) {v : V} {x : P} (r : Rv T H F v x) : Rp T H v x := by
  cases r with
  | p r => exact r.up g.sub
  | l h r => exact .lst h (r.up g.sub)
theorem Rv.int {v : V} {i : Int} (r : Rv T H F v (.int i)) : v = .int i := by
  cases r with
  | p r => cases r; rfl
theorem Rv.str {v : V} {i : Str} (r : Rv T H F v (.str i)) : v = .str i := by
  cases r with
  | p r => cases r; rfl
theorem Rv.bl {v : V} {i : Bool} (r : Rv T H F v (.bl i)) : v = .bl i := by
  cases r with
  | p r => cases r; rfl
theorem Rv.tup {v : V} {xs : List P} (r : Rv T H F v (.tup xs)) : ∃ a vs, v = .ref a ∧ SqT T.K F a vs ∧ Rps T F vs xs := by
  cases r with
  | p r =>
    cases r with
    | tup h r => exact ⟨_, _, rfl, h, r⟩
theorem Rv.lst (g : Gd T H F cm st) {v : V} {xs : List P} (r : Rv T H F v (.lst xs)) : ∃ a vs, v = .ref a ∧ H a = some (.lst vs) ∧ Rps T F vs xs := by
  cases r with
  | p r =>
    cases r with
    | lst h r => exact ⟨_, _, rfl, g.sub _ _ h, r⟩
  | l h r => exact ⟨_, _, rfl, h, r⟩
theorem Rv.scr {v : V} {xs : List P} (r : Rv T H F v (.scr xs)) : ∃ a vs, v = .ref a ∧ SqL T.K F a vs ∧ Rps T F vs xs := by
  cases r with
  | p r =>
    cases r with
    | scr h r => exact ⟨_, _, rfl, h, r⟩

section
variable {X : Cx} {pins : List (Addr × Obj)} {σ : L2.St} {s : Shared}
mutual
theorem Rp.reads (hK : X.K = T.K) (I : Inv X pins σ H s) : ∀ {v : V} {x : P} {d : PyData} {u : Value}, Rp T H v x → x.toD = some d → RelV v u → ∃ as, Reads s.heap u d as
  | _, _, _, _, .non, e, r => by
    cases r
    cases e
    exact ⟨_, .none⟩
  | _, _, _, _, .bl b, e, r => by
    cases r
    cases e
    exact ⟨_, .bool b⟩
  | _, _, _, _, .int i, e, r => by
    obtain ⟨t, rfl⟩ := r
    cases e
    exact ⟨_, .int i t⟩
  | _, _, _, _, .str i, e, r => by
    obtain ⟨t, rfl⟩ := r
    cases e
    exact ⟨_, .str i t⟩
  | _, .tup xs, _, _, .tup h q, e, r => by
    cases r
    rw [P.toD] at e
    split at e
    · rename_i ds hds
      cases e
      rw [← hK] at h
      obtain ⟨its, rv, ⟨ob, h1, h2, n, h3⟩, _⟩ := I.tuple h
      obtain ⟨as, hr⟩ := Rps.reads hK I q hds rv
      exact ⟨as, .tuple h1 h2 h3 (by simpa using hr)⟩
    · cases e
  | _, .lst xs, _, _, .lst h q, e, r => by
    cases r
    rw [P.toD] at e
    split at e
    · rename_i ds hds
      cases e
      obtain ⟨its, rv, ⟨ob, n, h1, h2, _, h3⟩, _⟩ := I.list (.inl (.inl h))
      obtain ⟨as, hr⟩ := Rps.reads hK I q hds rv
      exact ⟨_, .list h1 h2 h3 (by simpa using hr)⟩
    · cases e
  | _, _, _, _, .scr _ _, e, _ => by
    rw [P.toD] at e
    cases e
  | _, _, _, _, .ins _ _ _ _, e, _ => by
    rw [P.toD] at e
    cases e
  | _, _, _, _, .fn _, e, _ => by
    rw [P.toD] at e
    cases e
theorem Rps.reads (hK : X.K = T.K) (I : Inv X pins σ H s) : ∀ {vs : List V} {xs : List P} {ds : List PyData} {us : List Value}, Rps T H vs xs → P.toDs xs = some ds → Vals vs us → ∃ as, ReadsAll s.heap us ds as
  | _, _, _, _, .nil, e, r => by
    rw [P.toDs] at e
    cases e
    cases r
    exact ⟨_, .nil⟩
  | _, x :: xs, _, _, .cons h q, e, r => by
    rw [P.toDs] at e
    split at e
    · rename_i d hd
      split at e
      · rename_i ds hds
        cases e
        cases r with
        | cons r1 r2 =>
          obtain ⟨as, h1⟩ := Rp.reads hK I h hd r1
          obtain ⟨bs, h2⟩ := Rps.reads hK I q hds r2
          exact ⟨_, .cons h1 h2⟩
      · cases e
    · cases e
end
end
end

/-- an outcome by values -/
def Out (X : Cx) (T : Top) (pins : List (Addr × Obj)) (σ : L2.St) (H F : Hp) (cm : List Addr) (st : Sto) (z : P) (u : Value) (s' : Shared) : Prop :=
  ∃ v H' F', Inv X pins σ H' s' ∧ RelV v u ∧ Gr H F cm H' F' cm ∧ Gd T H' F' cm st ∧ Rp T F' v z
section
variable {X : Cx} {T : Top} {pins : List (Addr × Obj)} {σ : L2.St} {H F : Hp} {cm : List Addr} {st : Sto} {s : Shared}
theorem out_ep {Q : VK} {Wx' : Value → Option Addr → Hp → Prop} {z : P} {u : Value} {s' : Shared} (h : Out X T pins σ H F cm st z u s') (hp : Post (RpW T) T Wx' Q H F cm (.ok (.p z) st)) : EP X pins σ Q u s' := by
  obtain ⟨v, H', F', I, r, gr, gd, rp⟩ := h
  exact ⟨v, H', I, r, hp v H' F' cm gr gd (.p rp)⟩
theorem out_of {f : Sem Value} {z : P} {Q0 : VK → Prop} (g : Gd T H F cm st)
    (h : (∀ v H', (∃ F', Gr H F cm H' F' cm ∧ Gd T H' F' cm st ∧ Rp T F' v z) → True) → wpAny (model X.prog X.w) X.A f (EP X pins σ (fun v H' => ∃ F', Gr H F cm H' F' cm ∧ Gd T H' F' cm st ∧ Rp T F' v z)) X.xe s) :
    wpAny (model X.prog X.w) X.A f (Out X T pins σ H F cm st z) X.xe s :=
  thn (h fun _ _ _ => trivial) fun u s' ⟨v, H', I, r, F', a, b, c⟩ => ⟨v, H', F', I, r, a, b, c⟩
theorem out_same (g : Gd T H F cm st) {v : V} {z : P} (r : Rp T F v z) : ∃ F', Gr H F cm H F' cm ∧ Gd T H F' cm st ∧ Rp T F' v z := ⟨F, Gr.refl _ _ _, g, r⟩

def opO : Op → Operator
  | .add => .Add
  | .sub => .Sub
  | .mul => .Mult
  | .fdiv => .FloorDiv
  | .mod => .Mod
  | .pow => .Pow

theorem smallI_ok {i : Int} (h : smallI i = true) : -(2 ^ 64) < i ∧ i < 2 ^ 64 := by
  unfold smallI at h
  have h2 : i.natAbs < 18446744073709551616 := by simpa using h
  omega
theorem wid_ok {i : Int} (h : wid i = true) : i.natAbs < 2 ^ 8900 := by
  unfold wid at h
  rwa [Nat.blt_eq] at h
theorem lim_ok {n : Nat} (h : lim n = true) : n ≤ sizeLine := by
  unfold lim at h
  have h2 : n ≤ 16777216 := by simpa using h
  rw [sizeLine_eq]
  exact h2
theorem ho_of {f : Sem Value} {z : P} (h : wpAny (model X.prog X.w) X.A f (EP X pins σ (fun v H' => ∃ F', Gr H F cm H' F' cm ∧ Gd T H' F' cm st ∧ Rp T F' v z)) X.xe s) :
    wpAny (model X.prog X.w) X.A f (Out X T pins σ H F cm st z) X.xe s :=
  thn h fun u s' ⟨v, H', I, r, F', a, b, c⟩ => ⟨v, H', F', I, r, a, b, c⟩

theorem op_ok {o : Op} {x y z : P} {v1 v2 : V} {u1 u2 : Value} (hK : X.K = T.K) (I : Inv X pins σ H s) (g : Gd T H F cm st) (rx : Rv T H F v1 x) (ry : Rv T H F v2 y) (r1 : RelV v1 u1) (r2 : RelV v2 u2) (h : opP o x y = some z) :
    wpAny (model X.prog X.w) X.A (binaryOp (opO o) u1 u2) (Out X T pins σ H F cm st z) X.xe s := by
  unfold opP at h
  split at h
  · cases h
    have e1 := rx.int
    have e2 := ry.int
    subst e1 e2
    exact ho_of (op_add pins s σ H _ _ u1 u2 _ I r1 r2 ⟨_, _, rfl, rfl, out_same g (.int _)⟩)
  · split at h
    · rename_i hz
      cases h
      have e1 := rx.str
      have e2 := ry.str
      subst e1 e2
      exact ho_of (op_add_str pins s σ H _ _ u1 u2 _ I r1 r2 ⟨_, _, rfl, rfl, lim_ok hz, out_same g (.str _)⟩)
    · cases h
  · split at h
    · rename_i hz
      cases h
      obtain ⟨a, vs, rfl, ha, ra⟩ := rx.tup
      obtain ⟨b, ws, rfl, hb, rb⟩ := ry.tup
      refine ho_of (op_catA pins s σ H _ _ u1 u2 _ I r1 r2 ⟨a, b, vs, ws, rfl, rfl, by rw [hK]; exact sqT_up g.sub ha, by rw [hK]; exact sqT_up g.sub hb, ?_, fun e => ?_, fun _ e => ?_, fun _ _ p hp => ?_⟩)
      · rw [ra.len, rb.len]
        exact lim_ok hz
      · subst e
        have := ra.len
        simp at this
        rw [List.length_eq_zero_iff.mp this.symm]
        exact out_same g (.tup hb rb)
      · subst e
        have := rb.len
        simp at this
        rw [List.length_eq_zero_iff.mp this.symm, List.append_nil]
        exact out_same g (.tup ha ra)
      · exact ⟨_, Gr.lay g hp, g.lay hp, .tup (SqT.of upd_same) ((ra.app rb).up (upd_keep (g.freshF hp)))⟩
    · cases h
  · split at h
    · rename_i hz
      cases h
      obtain ⟨a, vs, rfl, ha, ra⟩ := rx.lst g
      obtain ⟨b, ws, rfl, hb, rb⟩ := ry.lst g
      refine ho_of (op_cat pins s σ H _ _ u1 u2 _ I r1 r2 ⟨a, b, vs, ws, rfl, rfl, ha, hb, ?_, fun p hp => ?_⟩)
      · rw [ra.len, rb.len]
        exact lim_ok hz
      · exact ⟨_, Gr.lay g hp, g.lay hp, .lst upd_same ((ra.app rb).up (upd_keep (g.freshF hp)))⟩
    · cases h
  · cases h
    have e1 := rx.int
    have e2 := ry.int
    subst e1 e2
    exact ho_of (op_sub pins s σ H _ _ u1 u2 _ I r1 r2 ⟨_, _, rfl, rfl, out_same g (.int _)⟩)
  · split at h
    · rename_i hz
      cases h
      have e1 := rx.int
      have e2 := ry.int
      subst e1 e2
      rcases Bool.or_eq_true_iff.mp hz with q | q
      · refine ho_of (op_mul pins s σ H _ _ u1 u2 _ I r1 r2 ⟨_, _, rfl, rfl, ?_, out_same g (.int _)⟩)
        rcases Bool.or_eq_true_iff.mp q with q | q
        · exact .inl (smallI_ok q)
        · exact .inr (smallI_ok q)
      · rw [Bool.and_eq_true] at q
        exact ho_of (op_mulW pins s σ H _ _ u1 u2 _ I r1 r2 ⟨_, _, rfl, rfl, wide_mul (wid_ok q.1) (wid_ok q.2) (by decide) (by decide) (by decide), out_same g (.int _)⟩)
    · cases h
  · split at h
    · cases h
    · rename_i hn
      split at h
      · rename_i hz
        cases h
        have e1 := rx.int
        have e2 := ry.int
        subst e1 e2
        exact ho_of (op_fdivN pins s σ H _ _ u1 u2 _ I r1 r2 ⟨_, _, rfl, rfl, ⟨by simpa using hn, by simpa using hz⟩, out_same g (.int _)⟩)
      · split at h
        · rename_i hz
          cases h
          rw [Bool.and_eq_true] at hz
          have e1 := rx.int
          have e2 := ry.int
          subst e1 e2
          have hp := of_decide_eq_true hz.1
          rw [Int.fdiv_eq_ediv_of_nonneg _ (Int.le_of_lt hp)]
          exact ho_of (op_fdivW pins s σ H _ _ u1 u2 _ I r1 r2 ⟨_, _, rfl, rfl, wide_div hp (wid_ok hz.2) (by decide) (by decide), out_same g (.int _)⟩)
        · cases h
  · split at h
    · cases h
    · rename_i hn
      cases h
      have e1 := rx.int
      have e2 := ry.int
      subst e1 e2
      exact ho_of (op_modN pins s σ H _ _ u1 u2 _ I r1 r2 ⟨_, _, rfl, rfl, by simpa using hn, out_same g (.int _)⟩)
  · split at h
    · rename_i hz
      cases h
      have e1 := rx.int
      have e2 := ry.int
      subst e1 e2
      simp only [Bool.and_eq_true, decide_eq_true_eq] at hz
      refine ho_of (op_pow pins s σ H _ _ u1 u2 _ I r1 r2 ⟨_, _, rfl, rfl, ⟨hz.1.1, hz.1.2, ?_⟩, out_same g (.int _)⟩)
      have := smallI_ok hz.2
      omega
    · cases h
  · cases h
end
end Z

namespace Z
open PySem PySem.Spec PyProof.Rows L2

/-- where a body runs -/
structure Lg (X : Cx) (T : Top) (C : Ctx) (Wx : WX) : Prop where
  K : X.K = T.K
  calm : X.calm = true
  nd : X.N.Nodup
  un : X.A.units + 200 < cLine
  gu : X.A.guards = some []
  tk : Takes X Wx

theorem _root_.L2.PE.mono {X : Cx} {e : Expr} {t t' : TE} (h : PE X e t) (k : ∀ σ H Q, t' σ H Q → t σ H Q) : PE X e t' := ⟨fun pins s σ H Q I q => h.run pins s σ H Q I (k σ H Q q)⟩
theorem _root_.L2.PA.mono {X : Cx} {e : List Expr} {t t' : TA} (h : PA X e t) (k : ∀ σ H Q, t' σ H Q → t σ H Q) : PA X e t' := ⟨fun pos pins s σ H Q I q => h.run pos pins s σ H Q I (k σ H Q q)⟩

section
variable {α β : Type} {rel : Hp → Hp → List Addr → β → α → Prop} {T : Top} {Wx : Value → Option Addr → Hp → Prop} {Q : β → Hp → Prop} {H F : Hp} {cm : List Addr} {st : Sto}
theorem Res.bind_assoc {α β γ : Type} (r : Res α) (f : α → Sto → Res β) (k : β → Sto → Res γ) : (r.bind f).bind k = r.bind fun a st => (f a st).bind k := by
  cases r <;> rfl
theorem getE_set_ne {α : Type} {l : List α} {i j : Nat} {a : α} (h : i ≠ j) : (l.set i a)[j]? = l[j]? := List.getElem?_set_ne h
/-- a list is read for good -/
theorem keep_ok (g : Gd T H F cm st) {v : V} {w : W} {x : P} {st' : Sto} (r : RpW T H F cm v w) (h : keep st w = .ok x st') : ∃ F', Gr H F cm H F' cm ∧ Gd T H F' cm st' ∧ Rp T F' v x := by
  cases r with
  | p r =>
    cases h
    exact ⟨F, Gr.refl _ _ _, g, r⟩
  | @cel n a e =>
    have hn : n < st.ls.length := by rw [← g.len]; exact (List.getElem?_eq_some_iff.mp e).1
    have hc : st.ls[n]? = some st.ls[n] := List.getElem?_eq_getElem hn
    simp only [keep, hc] at h
    cases h
    obtain ⟨vs, h1, h2, h3⟩ := g.cell n a _ e hc
    have up : ∀ b o, F b = some o → upd F a (.lst vs) b = some o := fun b o q => by
      by_cases hb : b = a
      · subst hb
        have z := g.sub _ _ q
        rw [h1] at z
        cases z
        exact upd_same
      · rw [upd_ne hb]
        exact q
    refine ⟨upd F a (.lst vs), ⟨up, List.prefix_refl _, fun b o q _ => q, fun b o q => ?_, fun b q => .inl q⟩, ⟨fun b o q => ?_, by simp [g.len], g.nd, fun m b c q1 q2 => ?_⟩, .lst upd_same (h2.up up)⟩
    · by_cases hb : b = a
      · subst hb
        exact .inr (.inr (List.mem_of_getElem? e))
      · rw [upd_ne hb] at q
        exact .inl q
    · by_cases hb : b = a
      · subst hb
        rw [upd_same] at q
        cases q
        exact h1
      · rw [upd_ne hb] at q
        exact g.sub _ _ q
    · by_cases hm : n = m
      · subst hm
        rw [e] at q1
        cases q1
        rw [List.getElem?_set_self hn] at q2
        cases q2
        exact ⟨vs, h1, h2.up up, by simpa using upd_same⟩
      · rw [List.getElem?_set_ne hm] at q2
        obtain ⟨ws, e1, e2, e3⟩ := g.cell m b c q1 q2
        have hb : b ≠ a := fun z => by
          subst z
          have l1 := (List.getElem?_eq_some_iff.mp e)
          have l2 := (List.getElem?_eq_some_iff.mp q1)
          exact hm ((List.getElem?_inj l1.1 g.nd).mp (e.trans q1.symm))
        refine ⟨ws, e1, e2.up up, ?_⟩
        rw [upd_ne hb]
        exact e3
  | own => cases h
theorem keep_run {f : P → Sto → Res α} (g : Gd T H F cm st) {v : V} {w : W} (r : RpW T H F cm v w) (h : Post rel T Wx Q H F cm ((keep st w).bind f)) :
    ∃ x st' F', Gr H F cm H F' cm ∧ Gd T H F' cm st' ∧ Rp T F' v x ∧ Post rel T Wx Q H F' cm (f x st') := by
  cases e : keep st w with
  | ok x st' =>
    rw [e] at h
    obtain ⟨F', a, b, c⟩ := keep_ok g r e
    exact ⟨x, st', F', a, b, c, Post.up a h⟩
  | exc c fs st' =>
    cases w with
    | p x => cases e
    | cel n =>
      simp only [keep] at e
      split at e <;> cases e
    | own c fs => cases e
  | no =>
    rw [e] at h
    exact h.elim
theorem keeps_run : ∀ {vs : List V} {ws : List W} {F : Hp} {st : Sto} {f : List P → Sto → Res α}, Gd T H F cm st → RpWs T H F cm vs ws → Post rel T Wx Q H F cm ((keeps ws st).bind f) →
    ∃ xs st' F', Gr H F cm H F' cm ∧ Gd T H F' cm st' ∧ Rps T F' vs xs ∧ Post rel T Wx Q H F' cm (f xs st')
  | _, _, F, st, f, g, .nil, h => ⟨[], st, F, Gr.refl _ _ _, g, .nil, h⟩
  | _, w :: ws, F, st, f, g, .cons r rs, h => by
    have h' : Post rel T Wx Q H F cm ((keep st w).bind fun x st1 => (keeps ws st1).bind fun xs st2 => f (x :: xs) st2) := by
      have e : (keeps (w :: ws) st).bind f = (keep st w).bind fun x st1 => (keeps ws st1).bind fun xs st2 => f (x :: xs) st2 := by
        rw [keeps, Res.bind_assoc]
        congr 1
        funext x st1
        rw [Res.bind_assoc]
        rfl
      rw [← e]
      exact h
    obtain ⟨x, st1, F1, g1, gd1, r1, h1⟩ := keep_run g r h'
    obtain ⟨xs, st2, F2, g2, gd2, r2, h2⟩ := keeps_run (f := fun xs st2 => f (x :: xs) st2) gd1 (rs.up g1) h1
    exact ⟨x :: xs, st2, F2, g1.trans g2, gd2, .cons (r1.up g2.f) r2, h2⟩
theorem tru_run {f : Bool → Sto → Res α} {v : V} {w : W} (r : RpW T H F cm v w) (h : Post rel T Wx Q H F cm ((tru w st).bind f)) : ∃ b, w = .p (.bl b) ∧ v = .bl b ∧ Post rel T Wx Q H F cm (f b st) := by
  cases r with
  | @p v x r =>
    cases x with
    | bl b =>
      cases r
      exact ⟨b, rfl, rfl, h⟩
    | _ => exact h.elim
  | cel => exact h.elim
  | own => exact h.elim
/-- a list that was made -/
theorem mkL_run {c : Bool} {xs : List P} {Q : VK} (g : Gd T H F cm st) {vs : List V} (r : Rps T F vs xs) (h : Post (RpW T) T Wx Q H F cm (mkL c xs st)) : ∀ p, H p = none → Q (.ref p) (upd H p (.lst vs)) := fun p hp => by
  unfold mkL at h
  split at h
  · exact h _ _ _ _ (Gr.cel hp) (g.cel hp r) (RpW.last g)
  · exact h _ _ _ _ (Gr.lay g hp) (g.lay hp) (.p (.lst upd_same (r.up (upd_keep (g.freshF hp)))))
end

section
variable {X : Cx} {T : Top} {C : Ctx} {Wx : WX} {pos : Pos} {pa pb pc : Expr} {a b c : E} {pes : List Expr} {es : Es}

theorem z_v {i : Nat} {x : Str} (hN : X.N[i]? = some x) (hv : Vis X.env.scope x) (hd : (x == ("__debug__" : Str)) = false) (hcd : (x == ("__classdict__" : Str)) = false) : PE X (.Name x pos) (rE T C Wx (.v i)) :=
  (pe_var hN hv hd hcd).mono fun σ H Q ⟨δ, st, F, cm, g, sl, h⟩ => by
    rw [E.ev] at h
    split at h
    · rename_i w e
      obtain ⟨v, e2, r⟩ := sl.at_ i w e
      exact ⟨v, e2, h v H F cm (Gr.refl _ _ _) g r⟩
    · exact h.elim
theorem tC_of {v : V} {x : P} {e : E} (he : ∀ δ st, e.ev C δ st = .ok (.p x) st) (r : ∀ F, Rp T F v x) (σ : L2.St) (H : Hp) (Q : VK) (h : rE T C Wx e σ H Q) : tC v σ H Q := by
  obtain ⟨δ, st, F, cm, g, sl, h⟩ := h
  rw [he] at h
  exact h v H F cm (Gr.refl _ _ _) g (.p (r F))
theorem z_non {j : Nat} : PE X (.Constant .none j pos) (rE T C Wx .non) := pe_non.mono (tC_of (fun _ _ => by rw [E.ev]) fun _ => .non)
theorem z_bl {j : Nat} {i : Bool} : PE X (.Constant (.bool i) j pos) (rE T C Wx (.bl i)) := pe_bl.mono (tC_of (fun _ _ => by rw [E.ev]) fun _ => .bl i)
theorem z_int {j : Nat} {i : Int} : PE X (.Constant (.int i) j pos) (rE T C Wx (.int i)) := pe_int.mono (tC_of (fun _ _ => by rw [E.ev]) fun _ => .int i)
theorem z_str {j : Nat} {i : Str} : PE X (.Constant (.str i) j pos) (rE T C Wx (.str i)) := pe_str.mono (tC_of (fun _ _ => by rw [E.ev]) fun _ => .str i)
theorem z_gv {x : Str} {n : Nat} {y : P} {v : V} {u : Value} (hg : Gl X x) (hm : X.mg x = some u) (r : RelV v u) (hd : (x == ("__debug__" : Str)) = false) (hy : C.glo n = some y) (rp : ∀ F, Rp T F v y) : PE X (.Name x pos) (rE T C Wx (.gv n)) :=
  (pe_glob hg hm r hd).mono (tC_of (fun _ _ => by rw [E.ev]; simp only [hy]) rp)

def notStar : Expr → Bool
  | .Starred _ _ => false
  | _ => true
theorem star_cons {e : Expr} {es : List Expr} {env : PySem.Env} (h : notStar e = true) : starEach (e :: es) env = (false, eval e env) :: starEach es env := by
  cases e <;> first | rfl | cases h
theorem za_nil : PA X [] (rEs T C Wx .nil) := pa_nil.mono fun σ H Q ⟨δ, st, F, cm, g, sl, h⟩ => by
  rw [Es.ev] at h
  exact h [] H F cm (Gr.refl _ _ _) g .nil
theorem za_cons (ha : PE X pa (rE T C Wx a)) (hr : PA X pes (rEs T C Wx es)) (hs : notStar pa = true) : PA X (pa :: pes) (rEs T C Wx (.cons a es)) :=
  (pa_cons ha hr (star_cons hs)).mono fun σ H Q ⟨δ, st, F, cm, g, sl, h⟩ => by
    rw [Es.ev] at h
    show rE T C Wx a σ H _
    refine ⟨δ, st, F, cm, g, sl, ?_⟩
    have h1 := Post.bind (rel := RpW T) h
    cases e : a.ev C δ st with
    | ok w st1 =>
      rw [e] at h1
      intro v H1 F1 cm1 g1 gd1 r1
      obtain ⟨F1', cm1', w', st1', g1', gd1', r1', h2⟩ := h1 v H1 F1 cm1 g1 gd1 r1
      refine ⟨δ, st1', F1', cm1', gd1', sl.up g1', ?_⟩
      have h3 := Post.bind (rel := RpWs T) h2
      cases e2 : es.ev C δ st1' with
      | ok ws st2 =>
        rw [e2] at h3
        intro vs H2 F2 cm2 g2 gd2 r2
        obtain ⟨F3, cm3, ws3, st3, g3, gd3, r3, h4⟩ := h3 vs H2 F2 cm2 g2 gd2 r2
        exact h4 (v :: vs) H2 F3 cm3 (Gr.refl _ _ _) gd3 (.cons (r1'.up g3) r3)
      | exc _ _ _ =>
        rw [e2] at h3
        exact h3
      | no =>
        rw [e2] at h3
        exact h3
    | exc _ _ _ =>
      rw [e] at h1
      exact h1
    | no =>
      rw [e] at h1
      exact h1
end

section
variable {T : Top} {Wx : Value → Option Addr → Hp → Prop} {Q : VK} {H F : Hp} {cm : List Addr} {st : Sto}
theorem two_run {f : P → P → Option P} {w u : W} (h : Post (RpW T) T Wx Q H F cm (Res.two f w u st)) : ∃ x y z, peek st w = some x ∧ peek st u = some y ∧ f x y = some z ∧ Post (RpW T) T Wx Q H F cm (.ok (.p z) st) := by
  unfold Res.two at h
  split at h
  · rename_i x y e1 e2
    split at h
    · rename_i z e3
      exact ⟨x, y, z, e1, e2, e3, h⟩
    · exact h.elim
  · exact h.elim
theorem one_run {f : P → Option P} {w : W} (h : Post (RpW T) T Wx Q H F cm (Res.one f w st)) : ∃ x z, peek st w = some x ∧ f x = some z ∧ Post (RpW T) T Wx Q H F cm (.ok (.p z) st) := by
  unfold Res.one at h
  split at h
  · rename_i x e1
    split at h
    · rename_i z e3
      exact ⟨x, z, e1, e3, h⟩
    · exact h.elim
  · exact h.elim
end

def cpO : Cp → CmpOp
  | .eq => .Eq
  | .ne => .NotEq
  | .lt => .Lt
  | .le => .LtE
  | .gt => .Gt
  | .ge => .GtE
  | .isn => .Is
  | .notn => .IsNot
  | .inn => .In
  | .nin => .NotIn
section
variable {X : Cx} {T : Top} {pins : List (Addr × Obj)} {σ : L2.St} {H F : Hp} {cm : List Addr} {st : Sto} {s : Shared}
theorem out_bl {f : Sem Value} {b : Bool} (I : Inv X pins σ H s) (g : Gd T H F cm st) (h : ∀ (Q : Value → Shared → Prop), Q (.bool b) s → wpAny (model X.prog X.w) X.A f Q X.xe s) : wpAny (model X.prog X.w) X.A f (Out X T pins σ H F cm st (.bl b)) X.xe s :=
  h _ ⟨.bl b, H, F, I, rfl, Gr.refl _ _ _, g, .bl b⟩
theorem Rv.non_iff {v : V} {x : P} (r : Rv T H F v x) : decide (v = .non) = isNon x := by
  cases r with
  | p r => cases r <;> simp [isNon]
  | l => simp [isNon]
theorem depth_room {A : Around} {d e : PyData} (hu : A.units + 200 < cLine) (hd : Nat.ble d.depth 60 = true) : A.units + min d.depth e.depth < cLine := by
  have h : d.depth ≤ 60 := by simpa using hd
  have := Nat.min_le_left d.depth e.depth
  omega
theorem depth_room2 {A : Around} {d : PyData} {n : Nat} (hu : A.units + 200 < cLine) (hd : Nat.ble d.depth 60 = true) : A.units + 1 + min n d.depth < cLine := by
  have h : d.depth ≤ 60 := by simpa using hd
  have := Nat.min_le_right n d.depth
  omega
theorem ints_rp : ∀ {vs : List V} {xs : List P} {ns : List Int}, Rps T F vs xs → intsP xs = some ns → vs = ns.map V.int
  | _, _, _, .nil, h => by
    cases h
    rfl
  | _, x :: xs, _, .cons r rs, h => by
    cases x with
    | int i =>
      rw [intsP] at h
      split at h
      · rename_i bs e
        cases h
        cases r
        rw [ints_rp rs e]
        rfl
      · cases h
    | _ => cases h
theorem cmp_ok {o : Cp} {x y : P} {b : Bool} {v1 v2 : V} {u1 u2 : Value} (hK : X.K = T.K) (hu : X.A.units + 200 < cLine) (I : Inv X pins σ H s) (g : Gd T H F cm st) (rx : Rv T H F v1 x) (ry : Rv T H F v2 y) (r1 : RelV v1 u1) (r2 : RelV v2 u2) (h : cpP o x y = some b) :
    wpAny (model X.prog X.w) X.A (compareOp (cpO o) u1 u2) (Out X T pins σ H F cm st (.bl b)) X.xe s := by
  have eqs : ∀ b, eqP x y = some b → ∃ d e as bs, Reads s.heap u1 d as ∧ Reads s.heap u2 e bs ∧ d.plain = true ∧ e.plain = true ∧ X.A.units + min d.depth e.depth < cLine ∧ PyData.eqv d e = b := fun b h => by
    unfold eqP at h
    split at h
    · rename_i d e e1 e2
      split at h
      · rename_i hc
        simp only [Bool.and_eq_true] at hc
        obtain ⟨as, q1⟩ := Rp.reads hK I (rx.rp g) e1 r1
        obtain ⟨bs, q2⟩ := Rp.reads hK I (ry.rp g) e2 r2
        exact ⟨d, e, as, bs, q1, q2, hc.1.1, hc.1.2, depth_room hu hc.2, Option.some.inj h⟩
      · cases h
    · cases h
  have ins : ∀ (ys : List P) b, eqAny x ys = some b → ∃ d es as, Reads s.heap u1 d as ∧ P.toDs ys = some es ∧ PyData.plainAll es = true ∧ d.plain = true ∧ X.A.units + 1 + min (PyData.depthAll es) d.depth < cLine ∧ (es.any fun e => PyData.eqv e d) = b := fun ys b h => by
    unfold eqAny at h
    split at h
    · rename_i d es e1 e2
      split at h
      · rename_i hc
        simp only [Bool.and_eq_true] at hc
        obtain ⟨as, q1⟩ := Rp.reads hK I (rx.rp g) e1 r1
        exact ⟨d, es, as, q1, e2, hc.1.2, hc.1.1, depth_room2 hu hc.2, Option.some.inj h⟩
      · cases h
    · cases h
  have rdL : ∀ (ys : List P) es, y = .lst ys → P.toDs ys = some es → ∃ bs, Reads s.heap u2 (.list es) bs := fun ys es hy e => by
    subst hy
    exact Rp.reads hK I (ry.rp g) (by rw [P.toD, e]) r2
  have rdT : ∀ (ys : List P) es, y = .tup ys → P.toDs ys = some es → ∃ bs, Reads s.heap u2 (.tuple es) bs := fun ys es hy e => by
    subst hy
    exact Rp.reads hK I (ry.rp g) (by rw [P.toD, e]) r2
  unfold cpP at h
  split at h
  · obtain ⟨d, e, as, bs, q1, q2, p1, p2, rm, eb⟩ := eqs b h
    exact out_bl I g fun Q hq => SeqAt.eq_plain q1 q2 p1 p2 rm (by rw [eb]; exact hq)
  · rcases q : eqP x y with _ | b'
    · rw [q] at h
      cases h
    · rw [q] at h
      have hb : (!b') = b := Option.some.inj h
      obtain ⟨d, e, as, bs, q1, q2, p1, p2, rm, eb⟩ := eqs b' q
      exact out_bl I g fun Q hq => SeqAt.ne_plain q1 q2 p1 p2 rm (by rw [eb, hb]; exact hq)
  · cases h
    have e1 := rx.int
    have e2 := ry.int
    subst e1 e2
    exact ho_of (op_lt pins s σ H _ _ u1 u2 _ I r1 r2 ⟨_, _, rfl, rfl, out_same g (.bl _)⟩)
  · cases h
    have e1 := rx.int
    have e2 := ry.int
    subst e1 e2
    exact ho_of (op_le pins s σ H _ _ u1 u2 _ I r1 r2 ⟨_, _, rfl, rfl, out_same g (.bl _)⟩)
  · cases h
    have e1 := rx.int
    have e2 := ry.int
    subst e1 e2
    exact ho_of (op_gt pins s σ H _ _ u1 u2 _ I r1 r2 ⟨_, _, rfl, rfl, out_same g (.bl _)⟩)
  · cases h
    have e1 := rx.int
    have e2 := ry.int
    subst e1 e2
    exact ho_of (op_ge pins s σ H _ _ u1 u2 _ I r1 r2 ⟨_, _, rfl, rfl, out_same g (.bl _)⟩)
  · cases h
    have e1 := rx.str
    have e2 := ry.str
    subst e1 e2
    exact ho_of (op_lt_str pins s σ H _ _ u1 u2 _ I r1 r2 ⟨_, _, rfl, rfl, out_same g (.bl _)⟩)
  · unfold ltT at h
    split at h
    · rename_i ns ms e1 e2
      cases h
      obtain ⟨a, vs, rfl, ha, ra⟩ := rx.tup
      obtain ⟨b, ws, rfl, hb, rb⟩ := ry.tup
      have q1 := ints_rp ra e1
      have q2 := ints_rp rb e2
      subst q1 q2
      exact ho_of (op_ltT (by omega) pins s σ H _ _ u1 u2 _ I r1 r2 ⟨a, b, ns, ms, rfl, rfl, by rw [hK]; exact sqT_up g.sub ha, by rw [hK]; exact sqT_up g.sub hb, out_same g (.bl _)⟩)
    · cases h
  · have e2 : v2 = .non := by
      cases ry with
      | p r => cases r; rfl
    subst e2
    refine ho_of (op_isN pins s σ H _ _ u1 u2 _ I r1 r2 ⟨rfl, ?_⟩)
    rw [rx.non_iff]
    cases h
    exact out_same g (.bl _)
  · have e2 : v2 = .non := by
      cases ry with
      | p r => cases r; rfl
    subst e2
    refine ho_of (op_notN pins s σ H _ _ u1 u2 _ I r1 r2 ⟨rfl, ?_⟩)
    rw [rx.non_iff]
    cases h
    exact out_same g (.bl _)
  · cases h
    have e1 := rx.str
    have e2 := ry.str
    subst e1 e2
    exact ho_of (op_in_str pins s σ H _ _ u1 u2 _ I r1 r2 ⟨_, _, rfl, rfl, out_same g (.bl _)⟩)
  · cases h
    have e1 := rx.str
    have e2 := ry.str
    subst e1 e2
    exact ho_of (op_notIn_str pins s σ H _ _ u1 u2 _ I r1 r2 ⟨_, _, rfl, rfl, out_same g (.bl _)⟩)
  · obtain ⟨d, es, as, q1, e2, p1, p2, rm, eb⟩ := ins _ b h
    obtain ⟨bs, q2⟩ := rdT _ es rfl e2
    exact out_bl I g fun Q hq => SeqAt.in_tuple_data q2 q1 p1 p2 rm (by rw [eb]; exact hq)
  · obtain ⟨d, es, as, q1, e2, p1, p2, rm, eb⟩ := ins _ b h
    obtain ⟨bs, q2⟩ := rdL _ es rfl e2
    exact out_bl I g fun Q hq => SeqAt.in_list_data q2 q1 p1 p2 rm (by rw [eb]; exact hq)
  · obtain ⟨b', q, hb⟩ := Option.map_eq_some_iff.mp h
    obtain ⟨d, es, as, q1, e2, p1, p2, rm, eb⟩ := ins _ b' q
    obtain ⟨bs, q2⟩ := rdT _ es rfl e2
    exact out_bl I g fun Q hq => SeqAt.notIn_tuple_data q2 q1 p1 p2 rm (by rw [eb, hb]; exact hq)
  · obtain ⟨b', q, hb⟩ := Option.map_eq_some_iff.mp h
    obtain ⟨d, es, as, q1, e2, p1, p2, rm, eb⟩ := ins _ b' q
    obtain ⟨bs, q2⟩ := rdL _ es rfl e2
    exact out_bl I g fun Q hq => SeqAt.notIn_list_data q2 q1 p1 p2 rm (by rw [eb, hb]; exact hq)
  · cases h
end

section
variable {X : Cx} {T : Top} {C : Ctx} {Wx : WX} {pos : Pos} {pa pb pc : Expr} {a b c : E} {pes : List Expr} {es : Es}
theorem z_op {o : Op} (L : Lg X T C Wx) (ha : PE X pa (rE T C Wx a)) (hb : PE X pb (rE T C Wx b)) : PE X (.BinOp pa (opO o) pb pos) (rE T C Wx (.op o a b)) := mk_e fun pins σ δ s H F cm st Q at0 hp => by
  rw [E.ev] at hp
  refine wpAny_BinOp (thn (run_e ha at0 hp) fun u s1 ⟨v, H1, F1, cm1, w, st1, at1, g1, r1, q1, h1⟩ => thn (run_e hb at1 h1) fun u2 s2 ⟨v2, H2, F2, cm2, w2, st2, at2, g2, r2, q2, h2⟩ => ?_)
  obtain ⟨x, y, z, e1, e2, e3, h3⟩ := two_run h2
  exact thn (op_ok L.K at2.I at2.g (peek_rv at2.g (q1.up g2) e1) (peek_rv at2.g q2 e2) r1 r2 e3) fun u s' o => out_ep o h3
theorem z_cmp {o : Cp} (L : Lg X T C Wx) (ha : PE X pa (rE T C Wx a)) (hb : PE X pb (rE T C Wx b)) (hm : behindInMarks (cpO o) pb = false) : PE X (.Compare pa [cpO o] [pb] pos) (rE T C Wx (.cmp o a b)) := mk_e fun pins σ δ s H F cm st Q at0 hp => by
  rw [E.ev] at hp
  refine wpAny_Compare1 (thn (run_e ha at0 hp) fun u s1 ⟨v, H1, F1, cm1, w, st1, at1, g1, r1, q1, h1⟩ => thn (run_e hb at1 h1) fun u2 s2 ⟨v2, H2, F2, cm2, w2, st2, at2, g2, r2, q2, h2⟩ => ?_) hm
  obtain ⟨x, y, z, e1, e2, e3, h3⟩ := two_run h2
  rcases e4 : cpP o x y with _ | b
  · rw [e4] at e3
    cases e3
  · rw [e4] at e3
    cases e3
    exact thn (cmp_ok L.K L.un at2.I at2.g (peek_rv at2.g (q1.up g2) e1) (peek_rv at2.g q2 e2) r1 r2 e4) fun u s' o => out_ep o h3
theorem z_tup {k : Nat} (h : PA X pes (rEs T C Wx es)) : PE X (.Tuple pes k pos) (rE T C Wx (.tup es)) := (pe_tup h).mono fun σ H Q ⟨δ, st, F, cm, g, sl, hp⟩ => by
  rw [E.ev] at hp
  show rEs T C Wx es σ H _
  refine ⟨δ, st, F, cm, g, sl, ?_⟩
  have h1 := Post.bind (rel := RpWs T) hp
  cases e : es.ev C δ st with
  | ok ws st1 =>
    rw [e] at h1
    intro vs H1 F1 cm1 g1 gd1 r1
    obtain ⟨F2, cm2, ws2, st2, g2, gd2, r2, h2⟩ := h1 vs H1 F1 cm1 g1 gd1 r1
    obtain ⟨xs, st3, F3, g3, gd3, r3, h3⟩ := keeps_run gd2 r2 h2
    split at h3
    · rename_i hz
      refine ⟨by rw [r3.len]; exact lim_ok hz, fun p hp => ?_⟩
      exact h3 _ _ _ _ (Gr.lay gd3 hp) (gd3.lay hp) (.p (.tup (SqT.of upd_same) (r3.up (upd_keep (gd3.freshF hp)))))
    · exact h3.elim
  | exc _ _ _ =>
    rw [e] at h1
    exact h1
  | no =>
    rw [e] at h1
    exact h1
theorem z_lst {k : Bool} (h : PA X pes (rEs T C Wx es)) : PE X (.List pes pos) (rE T C Wx (.lst k es)) := (pe_lst h).mono fun σ H Q ⟨δ, st, F, cm, g, sl, hp⟩ => by
  rw [E.ev] at hp
  show rEs T C Wx es σ H _
  refine ⟨δ, st, F, cm, g, sl, ?_⟩
  have h1 := Post.bind (rel := RpWs T) hp
  cases e : es.ev C δ st with
  | ok ws st1 =>
    rw [e] at h1
    intro vs H1 F1 cm1 g1 gd1 r1
    obtain ⟨F2, cm2, ws2, st2, g2, gd2, r2, h2⟩ := h1 vs H1 F1 cm1 g1 gd1 r1
    obtain ⟨xs, st3, F3, g3, gd3, r3, h3⟩ := keeps_run gd2 r2 h2
    split at h3
    · rename_i hz
      exact ⟨by rw [r3.len]; exact lim_ok hz, mkL_run gd3 r3 h3⟩
    · exact h3.elim
  | exc _ _ _ =>
    rw [e] at h1
    exact h1
  | no =>
    rw [e] at h1
    exact h1
end
end Z

namespace Z
open PySem PySem.Spec PyProof.Rows L2

theorem _root_.L2.PT.mono {X : Cx} {e : Expr} {t t' : TT} (h : PT X e t) (k : ∀ σ H Q, t' σ H Q → t σ H Q) : PT X e t' := ⟨fun pins s σ H Q I q => h.run pins s σ H Q I (k σ H Q q)⟩
theorem _root_.L2.PW.mono {X : Cx} {e : Expr} {t t' : TT} (h : PW X e t) (k : ∀ σ H Q, t' σ H Q → t σ H Q) : PW X e t' := ⟨fun wh pins s σ H Q I q => h.run wh pins s σ H Q I (k σ H Q q)⟩

def relB : Hp → Hp → List Addr → Bool → Bool → Prop := fun _ _ _ b a => b = a
section
variable {α β : Type} {rel : Hp → Hp → List Addr → β → α → Prop} {T : Top} {Wx : Value → Option Addr → Hp → Prop} {Q : β → Hp → Prop} {H F : Hp} {cm : List Addr} {st : Sto}
theorem tru_bind (w : W) : tru w st = (tru w st).bind .ok := by
  cases tru w st <;> rfl
theorem tru_post {Q : Bool → Hp → Prop} {v : V} {w : W} (r : RpW T H F cm v w) (h : Post relB T Wx Q H F cm (tru w st)) : ∃ b, w = .p (.bl b) ∧ v = .bl b ∧ Post relB T Wx Q H F cm (.ok b st) := by
  rw [tru_bind] at h
  exact tru_run r h
end

section
variable {X : Cx} {T : Top} {C : Ctx} {Wx : WX} {pos : Pos} {pa pb pc : Expr} {a b c : E} {pes : List Expr} {es : Es}
theorem tru_bl {b : Bool} {st : Sto} : tru (.p (.bl b)) st = .ok b st := rfl
theorem tru_inv {w : W} {b : Bool} {st st' : Sto} (h : tru w st = .ok b st') : w = .p (.bl b) ∧ st' = st := by
  cases w with
  | p x =>
    cases x <;> first | (cases h; exact ⟨rfl, rfl⟩) | cases h
  | cel => cases h
  | own => cases h
theorem and_tru (δ : Env) (st : Sto) : ((E.and a b).ev C δ st).bind tru = ((a.ev C δ st).bind tru).bind fun t st => if t then (b.ev C δ st).bind tru else .ok false st := by
  rw [E.ev]
  cases a.ev C δ st with
  | ok w st1 =>
    simp only [Res.bind]
    cases e : tru w st1 with
    | ok t st2 =>
      obtain ⟨rfl, rfl⟩ := tru_inv e
      cases t <;> simp [tru_bl]
    | exc _ _ _ => rfl
    | no => rfl
  | exc _ _ _ => rfl
  | no => rfl
theorem or_tru (δ : Env) (st : Sto) : ((E.or a b).ev C δ st).bind tru = ((a.ev C δ st).bind tru).bind fun t st => if t then .ok true st else (b.ev C δ st).bind tru := by
  rw [E.ev]
  cases a.ev C δ st with
  | ok w st1 =>
    simp only [Res.bind]
    cases e : tru w st1 with
    | ok t st2 =>
      obtain ⟨rfl, rfl⟩ := tru_inv e
      cases t <;> simp [tru_bl]
    | exc _ _ _ => rfl
    | no => rfl
  | exc _ _ _ => rfl
  | no => rfl
theorem not_tru (δ : Env) (st : Sto) : ((E.not a).ev C δ st).bind tru = ((a.ev C δ st).bind tru).bind fun t st => .ok (!t) st := by
  rw [E.ev]
  cases a.ev C δ st with
  | ok w st1 =>
    simp only [Res.bind]
    cases e : tru w st1 with
    | ok t st2 => rfl
    | exc _ _ _ => rfl
    | no => rfl
  | exc _ _ _ => rfl
  | no => rfl

/-- a test's reading, then -/
theorem rT_bind {σ : L2.St} {δ : Env} {st : Sto} {H F : Hp} {cm : List Addr} {α β : Type} {rel : Hp → Hp → List Addr → β → α → Prop} {Q : β → Hp → Prop} {f : Bool → Sto → Res α} (g : Gd T H F cm st) (sl : Sl T H F cm σ δ)
    (h : Post rel T (fun c d H' => Wx c d σ H') Q H F cm (((a.ev C δ st).bind tru).bind f)) :
    rT T C Wx a σ H (fun b H1 => ∃ F1 cm1 st1, Gr H F cm H1 F1 cm1 ∧ Gd T H1 F1 cm1 st1 ∧ Sl T H1 F1 cm1 σ δ ∧ Post rel T (fun c d H' => Wx c d σ H') Q H1 F1 cm1 (f b st1)) := by
  refine ⟨δ, st, F, cm, g, sl, ?_⟩
  have h1 := Post.bind (rel := relB) h
  cases e : (a.ev C δ st).bind tru with
  | ok t st1 =>
    rw [e] at h1
    intro b H1 F1 cm1 g1 gd1 r1
    obtain ⟨F2, cm2, t2, st2, g2, gd2, r2, h2⟩ := h1 b H1 F1 cm1 g1 gd1 r1
    have e2 : b = t2 := r2
    subst e2
    exact ⟨F2, cm2, st2, g2, gd2, sl.up g2, h2⟩
  | exc _ _ _ =>
    rw [e] at h1
    exact h1
  | no =>
    rw [e] at h1
    exact h1
theorem rE_bind {σ : L2.St} {δ : Env} {st : Sto} {H F : Hp} {cm : List Addr} {α β : Type} {rel : Hp → Hp → List Addr → β → α → Prop} {Q : β → Hp → Prop} {f : W → Sto → Res α} (g : Gd T H F cm st) (sl : Sl T H F cm σ δ)
    (h : Post rel T (fun c d H' => Wx c d σ H') Q H F cm ((a.ev C δ st).bind f)) :
    rE T C Wx a σ H (fun v H1 => ∃ F1 cm1 w st1, Gr H F cm H1 F1 cm1 ∧ Gd T H1 F1 cm1 st1 ∧ Sl T H1 F1 cm1 σ δ ∧ RpW T H1 F1 cm1 v w ∧ Post rel T (fun c d H' => Wx c d σ H') Q H1 F1 cm1 (f w st1)) := by
  refine ⟨δ, st, F, cm, g, sl, ?_⟩
  have h1 := Post.bind (rel := RpW T) h
  cases e : a.ev C δ st with
  | ok t st1 =>
    rw [e] at h1
    intro b H1 F1 cm1 g1 gd1 r1
    obtain ⟨F2, cm2, t2, st2, g2, gd2, r2, h2⟩ := h1 b H1 F1 cm1 g1 gd1 r1
    exact ⟨F2, cm2, t2, st2, g2, gd2, sl.up g2, r2, h2⟩
  | exc _ _ _ =>
    rw [e] at h1
    exact h1
  | no =>
    rw [e] at h1
    exact h1
/-- a weaker want -/
theorem rE_imp {σ : L2.St} {H : Hp} {Q Q' : VK} (h : rE T C Wx a σ H Q) (k : ∀ v H1, Q v H1 → Q' v H1) : rE T C Wx a σ H Q' := by
  obtain ⟨δ, st, F, cm, g, sl, hp⟩ := h
  refine ⟨δ, st, F, cm, g, sl, ?_⟩
  cases e : a.ev C δ st with
  | ok t st1 =>
    rw [e] at hp
    exact fun b H1 F1 cm1 g1 gd1 r1 => k _ _ (hp b H1 F1 cm1 g1 gd1 r1)
  | exc _ _ _ =>
    rw [e] at hp
    exact hp
  | no =>
    rw [e] at hp
    exact hp
theorem rT_imp {σ : L2.St} {H : Hp} {Q Q' : Bool → Hp → Prop} (h : rT T C Wx a σ H Q) (k : ∀ v H1, Q v H1 → Q' v H1) : rT T C Wx a σ H Q' := by
  obtain ⟨δ, st, F, cm, g, sl, hp⟩ := h
  refine ⟨δ, st, F, cm, g, sl, ?_⟩
  cases e : (a.ev C δ st).bind tru with
  | ok t st1 =>
    rw [e] at hp
    exact fun b H1 F1 cm1 g1 gd1 r1 => k _ _ (hp b H1 F1 cm1 g1 gd1 r1)
  | exc _ _ _ =>
    rw [e] at hp
    exact hp
  | no =>
    rw [e] at hp
    exact hp
/-- the rest of a run, told by its own outcome -/
theorem ok_self {Wx' : Value → Option Addr → Hp → Prop} {H F : Hp} {cm : List Addr} {st : Sto} {Q : Bool → Hp → Prop} {b : Bool} (g : Gd T H F cm st) (h : Post relB T Wx' Q H F cm (.ok b st)) : Q b H := h b H F cm (Gr.refl _ _ _) g rfl

/-- what isTrue has a row of its own for -/
def plainT : Expr → Bool
  | .UnaryOp .Not _ _ => false
  | .BoolOp _ _ _ => false
  | .IfExp _ _ _ _ => false
  | .Compare _ _ _ _ => false
  | _ => true
theorem isTrue_of_plain {e : Expr} {env : PySem.Env} (h : plainT e = true) (whole : Sem Value) : isTrue e env whole = (do let v ← whole; standAt e.pos; holding [v] (truthy v)) := by
  cases e <;> first
    | rfl
    | cases h
    | (rename_i op _ _; cases op <;> first | rfl | cases h)
theorem t_val (h : PE X pa (rE T C Wx a)) (hp : plainT pa = true) : PT X pa (rT T C Wx a) := (pt_val h (isTrue_of_plain hp)).mono fun σ H Q ⟨δ, st, F, cm, g, sl, hq⟩ => by
  have hq' : Post relB T (fun c d H' => Wx c d σ H') Q H F cm ((a.ev C δ st).bind tru) := hq
  refine rE_imp (rE_bind g sl hq') fun v H1 ⟨F1, cm1, w, st1, g1, gd1, sl1, r1, h1⟩ => ?_
  obtain ⟨b, e1, e2, h2⟩ := tru_post r1 h1
  exact ⟨b, e2, ok_self gd1 h2⟩
theorem t_cmp {o : Cp} (L : Lg X T C Wx) (ha : PE X pa (rE T C Wx a)) (hb : PE X pb (rE T C Wx b)) (hm : behindInMarks (cpO o) pb = false) : PT X (.Compare pa [cpO o] [pb] pos) (rT T C Wx (.cmp o a b)) := by
  refine ⟨fun pins s σ H Q I ⟨δ, st, F, cm, g, sl, hp⟩ => ?_⟩
  have hp : Post relB T (fun c d H' => Wx c d σ H') Q H F cm (((E.cmp o a b).ev C δ st).bind tru) := hp
  rw [E.ev, Res.bind_assoc] at hp
  refine wpAny_isTrue_Compare1 (thn (run_e ha ⟨I, g, sl⟩ hp) fun u s1 ⟨v, H1, F1, cm1, w, st1, at1, g1, r1, q1, h1⟩ => ?_) hm
  rw [Res.bind_assoc] at h1
  refine thn (run_e hb at1 h1) fun u2 s2 ⟨v2, H2, F2, cm2, w2, st2, at2, g2, r2, q2, h2⟩ => ?_
  have h3 : ∃ x y bb, peek st2 w = some x ∧ peek st2 w2 = some y ∧ cpP o x y = some bb ∧ Post relB T (fun c d H' => Wx c d σ H') Q H2 F2 cm2 (.ok bb st2) := by
    unfold Res.two at h2
    split at h2
    · rename_i x y e1 e2
      rcases e4 : cpP o x y with _ | bb
      · simp only [e4, Option.map] at h2
        exact h2.elim
      · simp only [e4, Option.map] at h2
        exact ⟨x, y, bb, e1, e2, e4, h2⟩
    · exact h2.elim
  obtain ⟨x, y, bb, e1, e2, e3, h4⟩ := h3
  refine thn (cmp_ok L.K L.un at2.I at2.g (peek_rv at2.g (q1.up g2) e1) (peek_rv at2.g q2 e2) r1 r2 e3) fun u s' ⟨v3, H3, F3, I3, r3, g3, gd3, rp3⟩ => ?_
  cases rp3
  cases r3
  exact wpAny_truthy_bool ⟨H3, I3, h4 bb H3 F3 cm2 g3 gd3 rfl⟩
theorem t_not (ha : PT X pa (rT T C Wx a)) : PT X (.UnaryOp .Not pa pos) (rT T C Wx (.not a)) := (pt_not ha).mono fun σ H Q ⟨δ, st, F, cm, g, sl, hp⟩ => by
  have hp : Post relB T (fun c d H' => Wx c d σ H') Q H F cm (((E.not a).ev C δ st).bind tru) := hp
  rw [not_tru] at hp
  exact rT_imp (rT_bind g sl hp) fun b H1 ⟨F1, cm1, st1, g1, gd1, sl1, h1⟩ => ok_self gd1 h1
theorem w_and1 (ha : PT X pa (rT T C Wx a)) : PW X (.BoolOp .And [pa] pos) (rT T C Wx a) := pw_and1 ha
theorem w_or1 (ha : PT X pa (rT T C Wx a)) : PW X (.BoolOp .Or [pa] pos) (rT T C Wx a) := pw_or1 ha
theorem w_and {rest : List Expr} (ha : PT X pa (rT T C Wx a)) (hb : PW X (.BoolOp .And (pb :: rest) pos) (rT T C Wx b)) : PW X (.BoolOp .And (pa :: pb :: rest) pos) (rT T C Wx (.and a b)) := (pw_and ha hb).mono fun σ H Q ⟨δ, st, F, cm, g, sl, hp⟩ => by
  have hp : Post relB T (fun c d H' => Wx c d σ H') Q H F cm (((E.and a b).ev C δ st).bind tru) := hp
  rw [and_tru] at hp
  refine rT_imp (rT_bind g sl hp) fun t H1 ⟨F1, cm1, st1, g1, gd1, sl1, h1⟩ => ?_
  cases t with
  | true =>
    rw [if_pos rfl] at h1 ⊢
    exact ⟨δ, st1, F1, cm1, gd1, sl1, h1⟩
  | false =>
    rw [if_neg Bool.false_ne_true] at h1 ⊢
    exact ok_self gd1 h1
theorem w_or {rest : List Expr} (ha : PT X pa (rT T C Wx a)) (hb : PW X (.BoolOp .Or (pb :: rest) pos) (rT T C Wx b)) : PW X (.BoolOp .Or (pa :: pb :: rest) pos) (rT T C Wx (.or a b)) := (pw_or ha hb).mono fun σ H Q ⟨δ, st, F, cm, g, sl, hp⟩ => by
  have hp : Post relB T (fun c d H' => Wx c d σ H') Q H F cm (((E.or a b).ev C δ st).bind tru) := hp
  rw [or_tru] at hp
  refine rT_imp (rT_bind g sl hp) fun t H1 ⟨F1, cm1, st1, g1, gd1, sl1, h1⟩ => ?_
  cases t with
  | true =>
    rw [if_pos rfl] at h1 ⊢
    exact ok_self gd1 h1
  | false =>
    rw [if_neg Bool.false_ne_true] at h1 ⊢
    exact ⟨δ, st1, F1, cm1, gd1, sl1, h1⟩

theorem z_not (ha : PE X pa (rE T C Wx a)) : PE X (.UnaryOp .Not pa pos) (rE T C Wx (.not a)) := (pe_not ha).mono fun σ H Q ⟨δ, st, F, cm, g, sl, hp⟩ => by
  rw [E.ev] at hp
  refine rE_imp (rE_bind g sl hp) fun v H1 ⟨F1, cm1, w, st1, g1, gd1, sl1, r1, h1⟩ => ?_
  obtain ⟨b, e1, e2, h2⟩ := tru_run r1 h1
  exact ⟨b, e2, h2 _ _ _ _ (Gr.refl _ _ _) gd1 (.p (.bl _))⟩
theorem z_one {op : BoolOp} (ha : PE X pa (rE T C Wx a)) : PE X (.BoolOp op [pa] pos) (rE T C Wx a) := pe_one ha
theorem z_and {rest : List Expr} (ha : PE X pa (rE T C Wx a)) (hb : PE X (.BoolOp .And (pb :: rest) pos) (rE T C Wx b)) : PE X (.BoolOp .And (pa :: pb :: rest) pos) (rE T C Wx (.and a b)) := (pe_and ha hb).mono fun σ H Q ⟨δ, st, F, cm, g, sl, hp⟩ => by
  rw [E.ev] at hp
  refine rE_imp (rE_bind g sl hp) fun v H1 ⟨F1, cm1, w, st1, g1, gd1, sl1, r1, h1⟩ => ?_
  obtain ⟨t, e1, e2, h2⟩ := tru_run r1 h1
  refine ⟨t, e2, ?_⟩
  cases t with
  | true =>
    rw [if_pos rfl] at h2 ⊢
    exact ⟨δ, st1, F1, cm1, gd1, sl1, h2⟩
  | false =>
    rw [if_neg Bool.false_ne_true] at h2 ⊢
    subst e1
    exact h2 _ _ _ _ (Gr.refl _ _ _) gd1 (.p (.bl _))
theorem z_or {rest : List Expr} (ha : PE X pa (rE T C Wx a)) (hb : PE X (.BoolOp .Or (pb :: rest) pos) (rE T C Wx b)) : PE X (.BoolOp .Or (pa :: pb :: rest) pos) (rE T C Wx (.or a b)) := (pe_or ha hb).mono fun σ H Q ⟨δ, st, F, cm, g, sl, hp⟩ => by
  rw [E.ev] at hp
  refine rE_imp (rE_bind g sl hp) fun v H1 ⟨F1, cm1, w, st1, g1, gd1, sl1, r1, h1⟩ => ?_
  obtain ⟨t, e1, e2, h2⟩ := tru_run r1 h1
  refine ⟨t, e2, ?_⟩
  cases t with
  | true =>
    rw [if_pos rfl] at h2 ⊢
    subst e1
    exact h2 _ _ _ _ (Gr.refl _ _ _) gd1 (.p (.bl _))
  | false =>
    rw [if_neg Bool.false_ne_true] at h2 ⊢
    exact ⟨δ, st1, F1, cm1, gd1, sl1, h2⟩
theorem z_ife (hc : PT X pc (rT T C Wx c)) (ha : PE X pa (rE T C Wx a)) (hb : PE X pb (rE T C Wx b)) : PE X (.IfExp pc pa pb pos) (rE T C Wx (.ife c a b)) := (pe_ifExp hc ha hb).mono fun σ H Q ⟨δ, st, F, cm, g, sl, hp⟩ => by
  rw [E.ev] at hp
  have hp : Post (RpW T) T (fun c d H' => Wx c d σ H') Q H F cm (((c.ev C δ st).bind tru).bind fun t st => if t then a.ev C δ st else b.ev C δ st) := by
    rw [Res.bind_assoc]
    exact hp
  refine rT_imp (rT_bind g sl hp) fun t H1 ⟨F1, cm1, st1, g1, gd1, sl1, h1⟩ => ?_
  cases t with
  | true =>
    rw [if_pos rfl] at h1 ⊢
    exact ⟨δ, st1, F1, cm1, gd1, sl1, h1⟩
  | false =>
    rw [if_neg Bool.false_ne_true] at h1 ⊢
    exact ⟨δ, st1, F1, cm1, gd1, sl1, h1⟩

theorem chn_link {o : Cp} {w u : W} {st : Sto} {α β : Type} {rel : Hp → Hp → List Addr → β → α → Prop} {Wx : Value → Option Addr → Hp → Prop} {Q : β → Hp → Prop} {H F : Hp} {cm : List Addr} {f : Bool → Sto → Res α}
    (h : Post rel T Wx Q H F cm ((Res.two (fun x y => (cpP o x y).map .bl) w u st).bind fun r st => (tru r st).bind f)) : ∃ x y b, peek st w = some x ∧ peek st u = some y ∧ cpP o x y = some b ∧ Post rel T Wx Q H F cm (f b st) := by
  unfold Res.two at h
  split at h
  · rename_i x y e1 e2
    rcases e4 : cpP o x y with _ | bb
    · simp only [e4, Option.map] at h
      exact h.elim
    · simp only [e4, Option.map] at h
      exact ⟨x, y, bb, e1, e2, e4, h⟩
  · exact h.elim
theorem z_chn {o1 o2 : Cp} (L : Lg X T C Wx) (ha : PE X pa (rE T C Wx a)) (hb : PE X pb (rE T C Wx b)) (hc : PE X pc (rE T C Wx c)) (hm : lastMarks [cpO o1, cpO o2] [pb, pc] = false) :
    PE X (.Compare pa [cpO o1, cpO o2] [pb, pc] pos) (rE T C Wx (.chn o1 o2 a b c)) := mk_e fun pins σ δ s H F cm st Q at0 hp => by
  rw [E.ev] at hp
  refine Compare_chain (thn (run_e ha at0 hp) fun u s1 ⟨v, H1, F1, cm1, w, st1, at1, g1, r1, q1, h1⟩ => chain_link (thn (run_e hb at1 h1) fun u2 s2 ⟨v2, H2, F2, cm2, w2, st2, at2, g2, r2, q2, h2⟩ => ?_)) hm
  obtain ⟨x, y, t, e1, e2, e3, h3⟩ := chn_link h2
  refine thn (cmp_ok L.K L.un at2.I at2.g (peek_rv at2.g (q1.up g2) e1) (peek_rv at2.g q2 e2) r1 r2 e3) fun u s' ⟨v3, H3, F3, I3, r3, g3, gd3, rp3⟩ => ?_
  cases rp3
  cases r3
  have h3 := Post.up g3 h3
  have at3 : At X T pins σ δ s' H3 F3 cm2 st2 := ⟨I3, gd3, at2.sl.up g3⟩
  refine wpAny_truthy_bool ?_
  cases t with
  | false =>
    rw [if_neg Bool.false_ne_true] at h3
    exact ite_ff (fin_e (v := .bl false) I3 gd3 h3 rfl (.p (.bl _)))
  | true =>
    rw [if_pos rfl] at h3
    refine ite_tt (chain_last (thn (run_e hc at3 h3) fun u4 s4 ⟨v4, H4, F4, cm4, w4, st4, at4, g4, r4, q4, h4⟩ => ?_))
    obtain ⟨x', y', z', e5, e6, e7, h7⟩ := two_run h4
    rcases e8 : cpP o2 x' y' with _ | b2
    · rw [e8] at e7
      cases e7
    · rw [e8] at e7
      cases e7
      exact thn (cmp_ok L.K L.un at4.I at4.g (peek_rv at4.g (q2.up (g3.trans g4)) e5) (peek_rv at4.g q4 e6) r2 r4 e8) fun u s' o => out_ep o h7
theorem t_chn {o1 o2 : Cp} (L : Lg X T C Wx) (ha : PE X pa (rE T C Wx a)) (hb : PE X pb (rE T C Wx b)) (hc : PE X pc (rE T C Wx c)) (hm : lastMarks [cpO o1, cpO o2] [pb, pc] = false) :
    PT X (.Compare pa [cpO o1, cpO o2] [pb, pc] pos) (rT T C Wx (.chn o1 o2 a b c)) := by
  refine ⟨fun pins s σ H Q I ⟨δ, st, F, cm, g, sl, hp⟩ => ?_⟩
  have hp : Post relB T (fun c d H' => Wx c d σ H') Q H F cm (((E.chn o1 o2 a b c).ev C δ st).bind tru) := hp
  rw [E.ev, Res.bind_assoc] at hp
  refine isTrue_chain (thn (run_e ha ⟨I, g, sl⟩ hp) fun u s1 ⟨v, H1, F1, cm1, w, st1, at1, g1, r1, q1, h1⟩ => ?_) hm
  rw [Res.bind_assoc] at h1
  refine test_link (thn (run_e hb at1 h1) fun u2 s2 ⟨v2, H2, F2, cm2, w2, st2, at2, g2, r2, q2, h2⟩ => ?_)
  rw [Res.bind_assoc] at h2
  have h2 : Post relB T (fun c d H' => Wx c d σ H') Q H2 F2 cm2 ((Res.two (fun x y => (cpP o1 x y).map .bl) w w2 st2).bind fun r st => (tru r st).bind fun t st =>
      (if t then (c.ev C δ st).bind fun z st => Res.two (fun x y => (cpP o2 x y).map .bl) w2 z st else .ok (.p (.bl false)) st).bind tru) := by
    have e : (fun (a : W) (st : Sto) => ((tru a st).bind fun t st => if t then (c.ev C δ st).bind fun z st => Res.two (fun x y => (cpP o2 x y).map .bl) w2 z st else .ok (.p (.bl false)) st).bind tru) =
        fun r st => (tru r st).bind fun t st => (if t then (c.ev C δ st).bind fun z st => Res.two (fun x y => (cpP o2 x y).map .bl) w2 z st else .ok (.p (.bl false)) st).bind tru := by
      funext r st
      rw [Res.bind_assoc]
    rw [← e]
    exact h2
  obtain ⟨x, y, t, e1, e2, e3, h3⟩ := chn_link h2
  refine thn (cmp_ok L.K L.un at2.I at2.g (peek_rv at2.g (q1.up g2) e1) (peek_rv at2.g q2 e2) r1 r2 e3) fun u s' ⟨v3, H3, F3, I3, r3, g3, gd3, rp3⟩ => ?_
  cases rp3
  cases r3
  have h3 := Post.up g3 h3
  have at3 : At X T pins σ δ s' H3 F3 cm2 st2 := ⟨I3, gd3, at2.sl.up g3⟩
  refine wpAny_truthy_bool ?_
  cases t with
  | false =>
    rw [if_neg Bool.false_ne_true] at h3
    exact ite_ff ⟨H3, I3, ok_self gd3 h3⟩
  | true =>
    rw [if_pos rfl, Res.bind_assoc] at h3
    refine ite_tt (test_last (thn (run_e hc at3 h3) fun u4 s4 ⟨v4, H4, F4, cm4, w4, st4, at4, g4, r4, q4, h4⟩ => ?_))
    have h5 : Post relB T (fun c d H' => Wx c d σ H') Q H4 F4 cm4 ((Res.two (fun x y => (cpP o2 x y).map .bl) w2 w4 st4).bind fun r st => (tru r st).bind Res.ok) := by
      have e : (fun (r : W) (st : Sto) => (tru r st).bind Res.ok) = tru := by
        funext r st
        exact (tru_bind r).symm
      rw [e]
      exact h4
    obtain ⟨x', y', t2, e5, e6, e7, h7⟩ := chn_link h5
    refine thn (cmp_ok L.K L.un at4.I at4.g (peek_rv at4.g (q2.up (g3.trans g4)) e5) (peek_rv at4.g q4 e6) r2 r4 e7) fun u s' ⟨v6, H6, F6, I6, r6, g6, gd6, rp6⟩ => ?_
    cases rp6
    cases r6
    exact wpAny_truthy_bool ⟨H6, I6, h7 t2 H6 F6 cm4 g6 gd6 rfl⟩
end
end Z

namespace Z
open PySem PySem.Spec PyProof.Rows L2

section
variable {X : Cx} {T : Top} {pins : List (Addr × Obj)} {σ : L2.St} {H F : Hp} {cm : List Addr} {st : Sto} {s : Shared}
theorem rps_atI {vs : List V} {xs : List P} {i : Int} {x : P} (r : Rps T F vs xs) (h : L2.atI xs i = some x) : ∃ v, L2.atI vs i = some v ∧ Rp T F v x := by
  unfold L2.atI at h ⊢
  rw [r.len]
  cases e : L2.ixN xs.length i with
  | none =>
    rw [e] at h
    cases h
  | some j =>
    rw [e] at h
    exact r.at h
theorem ix_ok {x y z : P} {v1 v2 : V} {u1 u2 : Value} {value slice : Expr} (hK : X.K = T.K) (I : Inv X pins σ H s) (g : Gd T H F cm st) (rx : Rv T H F v1 x) (ry : Rv T H F v2 y) (r1 : RelV v1 u1) (r2 : RelV v2 u2) (h : ixP x y = some z)
    (hs : subscripted slice false u1 u2 = operate [u1, u2] (getItem u1 u2)) : wpAny (model X.prog X.w) X.A (subscriptTail value slice u1 u2) (Out X T pins σ H F cm st z) X.xe s := by
  unfold ixP at h
  split at h
  · obtain ⟨a, vs, rfl, ha, ra⟩ := rx.tup
    have e2 := ry.int
    subst e2
    obtain ⟨w, hw, rw⟩ := rps_atI ra h
    exact ho_of (ix_tup value slice pins s σ H _ _ u1 u2 _ I r1 r2 ⟨a, vs, _, w, rfl, rfl, by rw [hK]; exact sqT_up g.sub ha, hw, out_same g rw⟩ hs)
  · obtain ⟨a, vs, rfl, ha, ra⟩ := rx.lst g
    have e2 := ry.int
    subst e2
    obtain ⟨w, hw, rw⟩ := rps_atI ra h
    exact ho_of (ix_list value slice pins s σ H _ _ u1 u2 _ I r1 r2 ⟨a, vs, _, w, rfl, rfl, SqL.of ha, hw, out_same g rw⟩ hs)
  · obtain ⟨a, vs, rfl, ha, ra⟩ := rx.scr
    have e2 := ry.int
    subst e2
    obtain ⟨w, hw, rw⟩ := rps_atI ra h
    exact ho_of (ix_list value slice pins s σ H _ _ u1 u2 _ I r1 r2 ⟨a, vs, _, w, rfl, rfl, by rw [hK]; exact sqL_up g.sub ha, hw, out_same g rw⟩ hs)
  · split at h
    · rename_i hz
      split at h
      · rename_i c hc
        cases h
        have e1 := rx.str
        have e2 := ry.int
        subst e1 e2
        exact ho_of (ix_str value slice pins s σ H _ _ u1 u2 _ I r1 r2 ⟨_, _, c, rfl, rfl, lim_ok hz, hc, out_same g (.str _)⟩ hs)
      · cases h
    · cases h
  · cases h
theorem rps_cut {vs : List V} {xs : List P} {lo hi : Option Int} (r : Rps T F vs xs) : Rps T F (cutV vs lo hi) (cutG xs lo hi) := by
  unfold cutV cutG
  rw [r.len]
  exact (r.drop _).take _
theorem cut_all {α : Type} {xs : List α} {lo hi : Option Int} (h : HT.sIx xs.length 0 lo = 0 ∧ HT.sIx xs.length xs.length hi = xs.length) : cutG xs lo hi = xs := by
  unfold cutG
  rw [h.1, h.2]
  simp
/-- a slice by values -/
theorem sl_ok {x z : P} {lo hi : Option Int} {v1 : V} {u1 vl vu : Value} {sl : Addr} (hK : X.K = T.K) (I : Inv X pins σ H s) (g : Gd T H F cm st) (rx : Rv T H F v1 x) (r1 : RelV v1 u1) (hs : s.heap.IsSliceOf sl vl vu .none) (pl : IsPart vl lo) (pu : IsPart vu hi) (h : slP x lo hi = some z) :
    ∃ T' id, typeLookup (.type T') "__getitem__" = pure (some (.builtin id)) ∧ s.TypeIs u1 T' ∧ wpAny (model X.prog X.w) X.A (getItem u1 (.ref sl)) (Out X T pins σ H F cm st z) X.xe s := by
  have go : ∀ {r : V → Option Int → Option Int → Hp → VK → Prop}, SlR X r → r v1 lo hi H (fun v H' => ∃ F', Gr H F cm H' F' cm ∧ Gd T H' F' cm st ∧ Rp T F' v z) →
      ∃ T' id, typeLookup (.type T') "__getitem__" = pure (some (.builtin id)) ∧ s.TypeIs u1 T' ∧ wpAny (model X.prog X.w) X.A (getItem u1 (.ref sl)) (Out X T pins σ H F cm st z) X.xe s := fun hr q => by
    obtain ⟨T', id, a, b, c⟩ := hr pins s σ H v1 u1 vl vu lo hi sl _ I r1 hs pl pu q
    exact ⟨T', id, a, b, ho_of c⟩
  unfold slP at h
  split at h
  · cases h
    obtain ⟨a, vs, rfl, ha, ra⟩ := rx.tup
    refine go sl_tupA ⟨a, vs, rfl, by rw [hK]; exact sqT_up g.sub ha, fun e => ?_, fun _ p hp => ?_⟩
    · rw [ra.len] at e
      rw [cut_all e]
      exact out_same g (.tup ha ra)
    · exact ⟨_, Gr.lay g hp, g.lay hp, .tup (SqT.of upd_same) ((rps_cut ra).up (upd_keep (g.freshF hp)))⟩
  · cases h
    obtain ⟨a, vs, rfl, ha, ra⟩ := rx.lst g
    exact go sl_list ⟨a, vs, rfl, SqL.of ha, fun p hp => ⟨_, Gr.lay g hp, g.lay hp, .lst upd_same ((rps_cut ra).up (upd_keep (g.freshF hp)))⟩⟩
  · cases h
    obtain ⟨a, vs, rfl, ha, ra⟩ := rx.scr
    exact go sl_list ⟨a, vs, rfl, by rw [hK]; exact sqL_up g.sub ha, fun p hp => ⟨_, Gr.lay g hp, g.lay hp, .lst upd_same ((rps_cut ra).up (upd_keep (g.freshF hp)))⟩⟩
  · split at h
    · rename_i hz
      cases h
      have e1 := rx.str
      subst e1
      exact go sl_str ⟨_, rfl, lim_ok hz, out_same g (.str _)⟩
    · cases h
  · cases h
end

section
variable {X : Cx} {T : Top} {C : Ctx} {Wx : WX} {pos : Pos} {pa pb pc : Expr} {a b c : E} {pes : List Expr} {es : Es}
theorem z_ix (L : Lg X T C Wx) (ha : PE X pa (rE T C Wx a)) (hb : PE X pb (rE T C Wx b)) (hs : PlainIx pb) : PE X (.Subscript pa pb pos) (rE T C Wx (.ix a b)) := mk_e fun pins σ δ s H F cm st Q at0 hp => by
  rw [E.ev] at hp
  refine Subscript_ (thn (run_e ha at0 hp) fun u s1 ⟨v, H1, F1, cm1, w, st1, at1, g1, r1, q1, h1⟩ => thn (run_e hb at1 h1) fun u2 s2 ⟨v2, H2, F2, cm2, w2, st2, at2, g2, r2, q2, h2⟩ => ?_)
  obtain ⟨x, y, z, e1, e2, e3, h3⟩ := two_run h2
  exact thn (ix_ok L.K at2.I at2.g (peek_rv at2.g (q1.up g2) e1) (peek_rv at2.g q2 e2) r1 r2 e3 (hs _ _)) fun u s' o => out_ep o h3

/-- a slice's part -/
def PartOf (X : Cx) (T : Top) (C : Ctx) (Wx : WX) (pe : Option Expr) (e : E) : Prop := (pe = none ∧ e = .non) ∨ ∃ p, pe = some p ∧ PE X p (rE T C Wx e)
theorem run_part {pe : Option Expr} {e : E} {pins : List (Addr × Obj)} {σ : L2.St} {δ : Env} {s : Shared} {H F : Hp} {cm : List Addr} {st : Sto} {α β : Type} {rel : Hp → Hp → List Addr → β → α → Prop} {Q : β → Hp → Prop} {f : W → Sto → Res α}
    (h : PartOf X T C Wx pe e) (a : At X T pins σ δ s H F cm st) (hp : Post rel T (fun c d H' => Wx c d σ H') Q H F cm ((e.ev C δ st).bind f)) :
    wpAny (model X.prog X.w) X.A (evalPart pe X.env) (fun u s1 => ∃ v H1 F1 cm1 w st1, At X T pins σ δ s1 H1 F1 cm1 st1 ∧ Gr H F cm H1 F1 cm1 ∧ RelV v u ∧ RpW T H1 F1 cm1 v w ∧ Post rel T (fun c d H' => Wx c d σ H') Q H1 F1 cm1 (f w st1)) X.xe s := by
  rcases h with ⟨rfl, rfl⟩ | ⟨p, rfl, h⟩
  · rw [evalPart_none]
    rw [E.ev] at hp
    exact wpAny_pure ⟨.non, H, F, cm, _, st, a, Gr.refl _ _ _, rfl, .p .non, hp⟩
  · rw [evalPart_some]
    exact run_e h a hp
theorem part_is {T : Top} {H F : Hp} {cm : List Addr} {v : V} {u : Value} {x : P} {o : Option Int} (r : RelV v u) (rw : RpW T H F cm v (.p x)) (h : prtP x = some o) : IsPart u o := by
  cases rw with
  | p rw =>
    cases x with
    | non =>
      cases h
      cases rw
      cases r
      exact .none
    | int i =>
      cases h
      cases rw
      obtain ⟨t, rfl⟩ := r
      exact .int i t
    | _ => cases h
theorem sl_run {w l h : W} {st : Sto} {Wx : Value → Option Addr → Hp → Prop} {Q : VK} {H F : Hp} {cm : List Addr}
    (hp : Post (RpW T) T Wx Q H F cm (match peek st w, l, h with
    | some x, .p l, .p h => match prtP l, prtP h with
      | some l, some h => match slP x l h with
        | some y => .ok (.p y) st
        | none => .no
      | _, _ => .no
    | _, _, _ => .no)) : ∃ x l' h' lo hi y, peek st w = some x ∧ l = .p l' ∧ h = .p h' ∧ prtP l' = some lo ∧ prtP h' = some hi ∧ slP x lo hi = some y ∧ Post (RpW T) T Wx Q H F cm (.ok (.p y) st) := by
  split at hp
  · split at hp
    · split at hp
      · exact ⟨_, _, _, _, _, _, by assumption, rfl, rfl, by assumption, by assumption, by assumption, hp⟩
      · exact hp.elim
    · exact hp.elim
  · exact hp.elim
theorem z_sl {plo phi : Option Expr} {lo hi : E} {p2 : Pos} (L : Lg X T C Wx) (ha : PE X pa (rE T C Wx a)) (hl : PartOf X T C Wx plo lo) (hh : PartOf X T C Wx phi hi) : PE X (.Subscript pa (.Slice plo phi none p2) pos) (rE T C Wx (.sl a lo hi)) := mk_e fun pins σ δ s H F cm st Q at0 hp => by
  rw [E.ev] at hp
  refine Subscript_ (thn (run_e ha at0 hp) fun u s1 ⟨v, H1, F1, cm1, w, st1, at1, g1, r1, q1, h1⟩ => ?_)
  refine wpAny_Slice (thn (run_part hl at1 h1) fun u2 s2 ⟨v2, H2, F2, cm2, w2, st2, at2, g2, r2, q2, h2⟩ => thn (run_part hh at2 h2) fun u3 s3 ⟨v3, H3, F3, cm3, w3, st3, at3, g3, r3, q3, h3⟩ => ?_)
  rw [evalPart_none]
  refine wpAny_pure ?_
  obtain ⟨x, l, h, lo', hi', y, e1, rfl, rfl, e2, e3, e4, h4⟩ := sl_run h3
  have q2' := q2.up g3
  have I4 : Inv X pins σ H3 { s3 with heap := s3.heap.push { cls := .type "slice", data := .fields #[u2, u3, .none] } } := at3.I.kept (t' := s3.toks) fun b ob q => Heap.get?_push_of_some _ q
  obtain ⟨T', id, hT, ht, hg⟩ := sl_ok (s := { s3 with heap := s3.heap.push { cls := .type "slice", data := .fields #[u2, u3, .none] } }) L.K I4 at3.g (peek_rv at3.g (q1.up (g2.trans g3)) e1) r1 (Heap.IsSliceOf.new ..) (part_is r2 q2' e2) (part_is r3 q3 e3) e4
  show wpAny (model X.prog X.w) X.A (subscriptTail pa (.Slice plo phi none p2) u (.ref s3.heap.objs.size)) (EP X pins σ Q) X.xe { s3 with heap := s3.heap.push { cls := .type "slice", data := .fields #[u2, u3, .none] } }
  exact tail_any (ops := [.ref s3.heap.objs.size, u]) ht hT (thn hg fun u s' o => out_ep o h4) (by with_unfolding_all rfl)
/-- a list turned round -/
theorem z_rev {k : Nat} {p1 p2 p3 : Pos} (L : Lg X T C Wx) (ha : PE X pa (rE T C Wx a)) :
    PE X (.Subscript pa (.Slice none none (some (.UnaryOp .USub (.Constant (.int 1) k p1) p2)) p3) pos) (rE T C Wx (.rev a)) := (pe_revL ha).mono fun σ H Q ⟨δ, st, F, cm, g, sl, hp⟩ => by
  rw [E.ev] at hp
  refine ⟨δ, st, F, cm, g, sl, ?_⟩
  have h1 := Post.bind (rel := RpW T) hp
  cases e : a.ev C δ st with
  | ok w0 st0 =>
    rw [e] at hp
    obtain ⟨x, z, e1, e2, h2⟩ := one_run (show Post (RpW T) T (fun c d H' => Wx c d σ H') Q H F cm (Res.one revP w0 st0) from hp)
    intro v H1 F1 cm1 g1 gd1 r1
    have rv := peek_rv gd1 r1 e1
    cases x with
    | lst xs =>
      cases e2
      obtain ⟨p, vs, rfl, hl, rl⟩ := rv.lst gd1
      refine ⟨p, vs, rfl, SqL.of hl, fun q hq => ?_⟩
      exact h2 _ _ _ _ (g1.trans (Gr.lay gd1 hq)) (gd1.lay hq) (.p (.lst upd_same (rl.rev.up (upd_keep (gd1.freshF hq)))))
    | _ => cases e2
  | exc _ _ _ =>
    rw [e] at hp
    exact hp
  | no =>
    rw [e] at hp
    exact hp
end
end Z

namespace Z
open PySem PySem.Spec PyProof.Rows L2

structure ClsF (T : Top) (c : Nat) : Prop where
  cls : Cls T.K (T.ca c)
  noat : ∀ x ∈ T.nm c, NoAttr T.K (T.ca c) x
  nd : (T.nm c).Nodup
theorem zip_look {ns : List Str} : ∀ {vs : List V} {i : Nat} {x : Str} {v : V}, ns.Nodup → ns[i]? = some x → vs[i]? = some v → (ns.zip vs).lookup x = some v := by
  induction ns with
  | nil => intro vs i x v _ h _; simp at h
  | cons n ns ih =>
    intro vs i x v nd h1 h2
    cases vs with
    | nil => simp at h2
    | cons u vs =>
      cases i with
      | zero =>
        simp at h1 h2
        subst h1 h2
        simp [List.lookup]
      | succ i =>
        have hn : (x == n) = false := by
          rw [beq_eq_false_iff_ne]
          intro z
          subst z
          exact (List.nodup_cons.mp nd).1 (List.mem_of_getElem? (by simpa using h1))
        simp only [List.zip_cons_cons, List.lookup, hn]
        exact ih (List.nodup_cons.mp nd).2 (by simpa using h1) (by simpa using h2)
section
variable {X : Cx} {T : Top} {C : Ctx} {Wx : WX} {pos : Pos} {pa pb pc : Expr} {a b c : E} {pes : List Expr} {es : Es}
theorem z_fld {k i : Nat} {x : Str} (L : Lg X T C Wx) (ha : PE X pa (rE T C Wx a)) (hb : attributeBase pa x X.env (eval pa X.env) = eval pa X.env) (cf : ClsF T k) (hx : (T.nm k)[i]? = some x) : PE X (.Attribute pa x pos) (rE T C Wx (.fld k i a)) := (pe_fld ha hb).mono fun σ H Q ⟨δ, st, F, cm, g, sl, hp⟩ => by
  rw [E.ev] at hp
  have hn : NoAttr X.K (T.ca k) x := by
    rw [L.K]
    exact cf.noat x (List.mem_of_getElem? hx)
  have hc : Cls X.K (T.ca k) := by
    rw [L.K]
    exact cf.cls
  refine rE_imp (rE_bind g sl hp) fun v H1 ⟨F1, cm1, w, st1, g1, gd1, sl1, r1, h1⟩ => ?_
  split at h1
  · rename_i k' fs
    split at h1
    · rename_i hk
      have hk : k' = k := by simpa using hk
      subst hk
      split at h1
      · rename_i y hy
        cases r1 with
        | p r1 =>
          cases r1 with
          | @ins ad dx _ vs _ q1 q2 q3 q4 =>
            obtain ⟨u, hu, ru⟩ := q4.at hy
            exact ⟨ad, _, dx, _, u, rfl, gd1.sub _ _ q1, hc, hn, zip_look cf.nd hx hu, h1 _ _ _ _ (Gr.refl _ _ _) gd1 (.p ru)⟩
      · exact h1.elim
    · exact h1.elim
  · rename_i k' fs
    split at h1
    · rename_i hk
      have hk : k' = k := by simpa using hk
      subst hk
      split at h1
      · rename_i y hy
        cases r1 with
        | @own ad dx _ vs _ q1 q2 q3 q4 q5 q6 q7 =>
          obtain ⟨u, hu, ru⟩ := q7.at hy
          exact ⟨ad, _, dx, _, u, rfl, q1, hc, hn, zip_look cf.nd hx hu, h1 _ _ _ _ (Gr.refl _ _ _) gd1 (.p ru)⟩
      · exact h1.elim
    · exact h1.elim
  · exact h1.elim

/-- what isinstance asks of an own class -/
structure IsiF (T : Top) (c : Nat) : Prop where
  cls : Cls T.K (T.ca c)
  ha : PySem.W.findIn T.K (.ref (T.ca c)) "__class__" = some (some (.builtin "object.__class__"))
  hn : PySem.W.specialIn T.K (.builtin "object.__class__") "__get__" = some (some (.builtin "getset_descriptor.__get__"))
  tk : PySem.W.takesIn T.K (.builtin "object.__class__") = some true
  mr : PySem.W.mroIn T.K (T.ca c) (.type "object") = some true
def tyO (T : Top) : Ty → Value
  | .int => .type "int"
  | .bool => .type "bool"
  | .str => .type "str"
  | .tuple => .type "tuple"
  | .list => .type "list"
  | .cls c => .ref (T.ca c)
/-- the class of data -/
def tyP (T : Top) : P → Option Value
  | .non => some (.type "NoneType")
  | .bl _ => some (.type "bool")
  | .int _ => some (.type "int")
  | .str _ => some (.type "str")
  | .tup _ => some (.type "tuple")
  | .lst _ => some (.type "list")
  | .ins c _ => some (.ref (T.ca c))
  | _ => none
/-- isinstance's answers, of all that may come -/
def IsiOk (T : Top) (C : Ctx) (t : Ty) : Prop := ∀ x u, tyP T x = some u → (∀ c fs, x = .ins c fs → C.inst c = true) → PySem.W.kitOne T.K u (tyO T t) = some (isP C.sub t x)
def isiV (T : Top) : Ty → V
  | .int => .ty "int"
  | .bool => .ty "bool"
  | .str => .ty "str"
  | .tuple => .ty "tuple"
  | .list => .ty "list"
  | .cls c => .ref (T.ca c)
theorem isi_cls (T : Top) (t : Ty) : ClsV (isiV T t) (tyO T t) := by
  cases t <;> first | exact .ty _ | exact .own _
theorem Rv.ty {T : Top} {H F : Hp} {cm : List Addr} {st : Sto} {v : V} {x : P} {u : Value} (g : Gd T H F cm st) (hI : ∀ c, (∃ fs, x = .ins c fs) → IsiF T c) (r : Rv T H F v x) (h : tyP T x = some u) : TyX T.K H v u := by
  cases x with
  | non =>
    cases h
    cases r with
    | p r => cases r; exact .base .non
  | bl b =>
    cases h
    cases r with
    | p r => cases r; exact .base (.bl b)
  | int b =>
    cases h
    cases r with
    | p r => cases r; exact .base (.int b)
  | str b =>
    cases h
    cases r with
    | p r => cases r; exact .base (.str b)
  | tup xs =>
    cases h
    obtain ⟨a, vs, rfl, hq, _⟩ := r.tup
    rcases hq with (hq | ⟨o, hq⟩) | ⟨o, its, n, h1, h2, _⟩
    · exact .base (.tup (g.sub _ _ hq))
    · exact .fTuple (g.sub _ _ hq)
    · exact .kTuple h1 h2
  | lst xs =>
    cases h
    obtain ⟨a, vs, rfl, hq, _⟩ := r.lst g
    exact .base (.lst hq)
  | ins c fs =>
    cases h
    have f := hI c ⟨fs, rfl⟩
    cases r with
    | p r =>
      cases r with
      | ins q1 _ _ _ => exact .base (.ins (g.sub _ _ q1) f.cls f.ha f.hn f.tk f.mr)
  | _ => cases h
theorem isi_ok {pins : List (Addr × Obj)} {σ : L2.St} {H F : Hp} {cm : List Addr} {st : Sto} {s : Shared} {t : Ty} {x : P} {v : V} {u1 u2 : Value} (hK : X.K = T.K) (hI : ∀ c, (∃ fs, x = .ins c fs) → IsiF T c) (ok : IsiOk T C t) (hi : ∀ c fs, x = .ins c fs → C.inst c = true) (I : Inv X pins σ H s) (g : Gd T H F cm st) (rx : Rv T H F v x) (r1 : RelV v u1)
    (r2 : RelV (isiV T t) u2) (hx : tyP T x ≠ none) : wpAny (model X.prog X.w) X.A (call (.builtin "isinstance") [u1, u2]) (Out X T pins σ H F cm st (.bl (isP C.sub t x))) X.xe s := by
  cases e : tyP T x with
  | none => exact absurd e hx
  | some u =>
    refine ho_of (call_isi pins s σ H [v, isiV T t] [u1, u2] _ I (.cons r1 (.cons r2 .nil)) ⟨v, isiV T t, u, tyO T t, _, rfl, isi_cls T t, ?_, ?_, out_same g (.bl _)⟩)
    · rw [hK]
      exact rx.ty g hI e
    · rw [hK]
      exact ok x u e hi

def biV : Bi → Value
  | .len => .builtin "len"
  | .abs => .builtin "abs"
  | .int => .type "int"
  | .str => .type "str"
  | .bool => .type "bool"
  | .repr => .builtin "repr"
  | .min1 => .builtin "min"
  | .max1 => .builtin "max"
  | .min2 => .builtin "min"
  | .max2 => .builtin "max"
  | .sum => .builtin "sum"
  | .all => .builtin "all"
  | .any => .builtin "any"
  | .tuple => .type "tuple"
  | .list => .type "list"
  | .sorted => .builtin "sorted"
  | .setl => .builtin "sorted"
end

section
variable {X : Cx} {T : Top} {pins : List (Addr × Obj)} {σ : L2.St} {H F : Hp} {cm : List Addr} {st : Sto} {s : Shared}
inductive Rvs (T : Top) (H F : Hp) : List V → List P → Prop
  | nil : Rvs T H F [] []
  | cons {v : V} {x : P} {vs : List V} {xs : List P} : Rv T H F v x → Rvs T H F vs xs → Rvs T H F (v :: vs) (x :: xs)
theorem peeks_rv (g : Gd T H F cm st) : ∀ {vs : List V} {ws : List W} {xs : List P}, RpWs T H F cm vs ws → peeks st ws = some xs → Rvs T H F vs xs
  | _, _, _, .nil, h => by
    cases h
    exact .nil
  | _, w :: ws, _, .cons r rs, h => by
    rw [peeks] at h
    split at h
    · rename_i x e
      split at h
      · rename_i ys e2
        cases h
        exact .cons (peek_rv g r e) (peeks_rv g rs e2)
      · cases h
    · cases h
theorem Rvs.one {vs : List V} {x : P} (h : Rvs T H F vs [x]) : ∃ v, vs = [v] ∧ Rv T H F v x := by
  cases h with
  | cons a b =>
    cases b
    exact ⟨_, rfl, a⟩
theorem Rvs.two {vs : List V} {x y : P} (h : Rvs T H F vs [x, y]) : ∃ v u, vs = [v, u] ∧ Rv T H F v x ∧ Rv T H F u y := by
  cases h with
  | cons a b =>
    cases b with
    | cons b c =>
      cases c
      exact ⟨_, _, rfl, a, b⟩
theorem bools_rp : ∀ {vs : List V} {xs : List P} {ns : List Bool}, Rps T F vs xs → boolsP xs = some ns → vs = ns.map V.bl
  | _, _, _, .nil, h => by
    cases h
    rfl
  | _, x :: xs, _, .cons r rs, h => by
    cases x with
    | bl i =>
      rw [boolsP] at h
      split at h
      · rename_i bs e
        cases h
        cases r
        rw [bools_rp rs e]
        rfl
      · cases h
    | _ => cases h
theorem txts_rp : ∀ {vs : List V} {xs : List P} {ns : List Str}, Rps T F vs xs → txts xs = some ns → vs = ns.map V.str
  | _, _, _, .nil, h => by
    cases h
    rfl
  | _, x :: xs, _, .cons r rs, h => by
    cases x with
    | str i =>
      rw [txts] at h
      split at h
      · rename_i bs e
        cases h
        cases r
        rw [txts_rp rs e]
        rfl
      · cases h
    | _ => cases h
theorem minI_spec : ∀ (ns : List Int) (a : Int), minI a ns ∈ a :: ns ∧ ∀ y ∈ a :: ns, minI a ns ≤ y
  | [], a => by simp [minI]
  | n :: ns, a => by
    obtain ⟨h1, h2⟩ := minI_spec ns (if n < a then n else a)
    have e : minI a (n :: ns) = minI (if n < a then n else a) ns := rfl
    rw [e]
    have h3 := h2 (if n < a then n else a) (by simp)
    have h4 : (if n < a then n else a) ≤ a := by split <;> omega
    have h5 : (if n < a then n else a) ≤ n := by split <;> omega
    refine ⟨?_, fun y hy => ?_⟩
    · rcases List.mem_cons.mp h1 with q | q
      · rw [q]
        split <;> simp
      · simp [q]
    · rcases List.mem_cons.mp hy with q | q
      · subst q
        exact Int.le_trans h3 h4
      · rcases List.mem_cons.mp q with q | q
        · subst q
          exact Int.le_trans h3 h5
        · exact h2 y (by simp [q])
theorem maxI_spec : ∀ (ns : List Int) (a : Int), maxI a ns ∈ a :: ns ∧ ∀ y ∈ a :: ns, y ≤ maxI a ns
  | [], a => by simp [maxI]
  | n :: ns, a => by
    obtain ⟨h1, h2⟩ := maxI_spec ns (if a < n then n else a)
    have e : maxI a (n :: ns) = maxI (if a < n then n else a) ns := rfl
    rw [e]
    have h3 := h2 (if a < n then n else a) (by simp)
    have h4 : a ≤ (if a < n then n else a) := by split <;> omega
    have h5 : n ≤ (if a < n then n else a) := by split <;> omega
    refine ⟨?_, fun y hy => ?_⟩
    · rcases List.mem_cons.mp h1 with q | q
      · rw [q]
        split <;> simp
      · simp [q]
    · rcases List.mem_cons.mp hy with q | q
      · subst q
        exact Int.le_trans h4 h3
      · rcases List.mem_cons.mp q with q | q
        · subst q
          exact Int.le_trans h5 h3
        · exact h2 y (by simp [q])
theorem showI_ok {i : Int} (h : showI i = true) : i.natAbs.log2 < 1920 := by
  unfold showI at h
  have h2 : i.natAbs < 2 ^ 1900 := by simpa using h
  by_cases h0 : i.natAbs = 0
  · rw [h0]
    decide
  · have := (Nat.log2_lt h0).mpr h2
    omega
/-- what is not carried by the rules below -/
def hard : Bi → Bool
  | .repr => true
  | .bool => true
  | _ => false
theorem bip_ok {b : Bi} {vs : List V} {us : List Value} {xs : List P} {z : P} (hK : X.K = T.K) (hcalm : X.calm = true) (hh : hard b = false) (I : Inv X pins σ H s) (g : Gd T H F cm st) (rx : Rvs T H F vs xs) (r : Vals vs us) (h : biP b xs = some z) :
    wpAny (model X.prog X.w) X.A (call (biV b) us) (Out X T pins σ H F cm st z) X.xe s := by
  unfold biP at h
  split at h
  · obtain ⟨v, rfl, rv⟩ := rx.one
    split at h
    · rename_i n e
      cases h
      refine ho_of (call_len pins s σ H [v] us _ I r ⟨v, n, rfl, ?_, out_same g (.int _)⟩)
      unfold lenP at e
      split at e
      · cases e
        obtain ⟨a, ws, rfl, ha, ra⟩ := rv.tup
        exact .inr ⟨ws, by rw [hK]; exact sqT_up g.sub ha, ra.len.symm⟩
      · cases e
        obtain ⟨a, ws, rfl, ha, ra⟩ := rv.lst g
        exact .inl ⟨ws, SqL.of ha, ra.len.symm⟩
      · cases e
        obtain ⟨a, ws, rfl, ha, ra⟩ := rv.scr
        exact .inl ⟨ws, by rw [hK]; exact sqL_up g.sub ha, ra.len.symm⟩
      · split at e
        · rename_i hz
          cases e
          have e1 := rv.str
          subst e1
          exact ⟨lim_ok hz, rfl⟩
        · cases e
      · cases e
    · cases h
  · cases h
    obtain ⟨v, rfl, rv⟩ := rx.one
    have e1 := rv.int
    subst e1
    exact ho_of (call_abs pins s σ H _ us _ I r ⟨_, rfl, out_same g (.int _)⟩)
  · cases h
    obtain ⟨v, rfl, rv⟩ := rx.one
    have e1 := rv.int
    subst e1
    exact ho_of (call_int1 pins s σ H _ us _ I r (.inl ⟨_, rfl, out_same g (.int _)⟩))
  · split at h
    · rename_i hz
      cases h
      obtain ⟨v, rfl, rv⟩ := rx.one
      have e1 := rv.int
      subst e1
      exact ho_of (call_str_int pins s σ H _ us _ I r ⟨_, rfl, showI_ok hz, out_same g (.str _)⟩)
    · cases h
  · split at h
    · rename_i a ns e
      cases h
      obtain ⟨v, rfl, rv⟩ := rx.one
      obtain ⟨p, ws, rfl, ha, ra⟩ := rv.lst g
      have ew := ints_rp ra e
      subst ew
      refine ho_of (cr_min hcalm pins s σ H _ us _ I r ⟨p, _, rfl, SqL.of ha, by simp, fun m hm hl => ?_⟩)
      obtain ⟨h1, h2⟩ := minI_spec ns a
      have e3 : m = minI a ns := Int.le_antisymm (hl _ h1) (h2 m hm)
      subst e3
      exact out_same g (.int _)
    · cases h
  · split at h
    · rename_i a ns e
      cases h
      obtain ⟨v, rfl, rv⟩ := rx.one
      obtain ⟨p, ws, rfl, ha, ra⟩ := rv.lst g
      have ew := ints_rp ra e
      subst ew
      refine ho_of (cr_max hcalm pins s σ H _ us _ I r ⟨p, _, rfl, SqL.of ha, by simp, fun m hm hl => ?_⟩)
      obtain ⟨h1, h2⟩ := maxI_spec ns a
      have e3 : m = maxI a ns := Int.le_antisymm (h2 m hm) (hl _ h1)
      subst e3
      exact out_same g (.int _)
    · cases h
  · cases h
    obtain ⟨v, u, rfl, rv, ru⟩ := rx.two
    have e1 := rv.int
    have e2 := ru.int
    subst e1 e2
    exact ho_of (call_min2 hcalm pins s σ H _ us _ I r ⟨_, _, rfl, out_same g (.int _)⟩)
  · cases h
    obtain ⟨v, u, rfl, rv, ru⟩ := rx.two
    have e1 := rv.int
    have e2 := ru.int
    subst e1 e2
    exact ho_of (call_max2 hcalm pins s σ H _ us _ I r ⟨_, _, rfl, out_same g (.int _)⟩)
  · split at h
    · rename_i ns e
      cases h
      obtain ⟨v, rfl, rv⟩ := rx.one
      obtain ⟨p, ws, rfl, ha, ra⟩ := rv.lst g
      have ew := ints_rp ra e
      subst ew
      exact ho_of (cr_sum hcalm pins s σ H _ us _ I r ⟨p, _, rfl, SqL.of ha, out_same g (.int _)⟩)
    · cases h
  · split at h
    · rename_i ns e
      cases h
      obtain ⟨v, rfl, rv⟩ := rx.one
      obtain ⟨p, ws, rfl, ha, ra⟩ := rv.lst g
      have ew := bools_rp ra e
      subst ew
      exact ho_of (cr_all hcalm pins s σ H _ us _ I r ⟨p, _, rfl, SqL.of ha, out_same g (.bl _)⟩)
    · cases h
  · split at h
    · rename_i ns e
      cases h
      obtain ⟨v, rfl, rv⟩ := rx.one
      obtain ⟨p, ws, rfl, ha, ra⟩ := rv.lst g
      have ew := bools_rp ra e
      subst ew
      exact ho_of (cr_any hcalm pins s σ H _ us _ I r ⟨p, _, rfl, SqL.of ha, out_same g (.bl _)⟩)
    · cases h
  · cases h
    obtain ⟨v, rfl, rv⟩ := rx.one
    obtain ⟨p, ws, rfl, ha, ra⟩ := rv.lst g
    exact ho_of (call_tuple_of pins s σ H _ us _ I r ⟨p, ws, rfl, .inl ⟨SqL.of ha, fun q hq => ⟨_, Gr.lay g hq, g.lay hq, .tup (SqT.of upd_same) (ra.up (upd_keep (g.freshF hq)))⟩⟩⟩)
  · cases h
    obtain ⟨v, rfl, rv⟩ := rx.one
    obtain ⟨p, ws, rfl, ha, ra⟩ := rv.tup
    exact ho_of (call_tuple_of pins s σ H _ us _ I r ⟨p, ws, rfl, .inr ⟨by rw [hK]; exact sqT_up g.sub ha, out_same g (.tup ha ra)⟩⟩)
  · cases hh
  · cases h
end
end Z

namespace Z
open PySem PySem.Spec PyProof.Rows L2

section
variable {le : P → P → Bool}
theorem insL_perm (x : P) : ∀ ys : List P, (insL le x ys).Perm (x :: ys)
  | [] => .refl _
  | y :: ys => by
    unfold insL
    split
    · exact .refl _
    · exact ((insL_perm x ys).cons y).trans (.swap _ _ _)
theorem isort_perm : ∀ xs : List P, (isort le xs).Perm xs
  | [] => .refl _
  | x :: xs => (insL_perm x _).trans ((isort_perm xs).cons x)
theorem insL_pair (h : PySem.W.TotalLe le) (x : P) : ∀ ys : List P, ys.Pairwise (fun a b => le a b = true) → (insL le x ys).Pairwise (fun a b => le a b = true)
  | [], _ => by simp [insL]
  | y :: ys, hp => by
    obtain ⟨h1, h2⟩ := List.pairwise_cons.mp hp
    unfold insL
    split
    · rename_i e
      refine List.pairwise_cons.mpr ⟨fun z hz => ?_, hp⟩
      rcases List.mem_cons.mp hz with q | q
      · rw [q]
        exact e
      · exact h.trans _ _ _ e (h1 z q)
    · rename_i e
      refine List.pairwise_cons.mpr ⟨fun z hz => ?_, insL_pair h x ys h2⟩
      rcases List.mem_cons.mp ((insL_perm x ys).mem_iff.mp hz) with q | q
      · rw [q]
        exact (h.total x y).resolve_left e
      · exact h1 z q
theorem isort_pair (h : PySem.W.TotalLe le) : ∀ xs : List P, (isort le xs).Pairwise (fun a b => le a b = true)
  | [] => .nil
  | x :: xs => insL_pair h x _ (isort_pair h xs)
theorem insL_same (h : PySem.W.TotalLe le) (c x : P) : ∀ ys : List P, ys.Pairwise (fun a b => le a b = true) → (insL le x ys).filter (PySem.W.sameRank le c) = (x :: ys).filter (PySem.W.sameRank le c)
  | [], _ => rfl
  | y :: ys, hp => by
    unfold insL
    split
    · rfl
    · rename_i e
      obtain ⟨h1, h2⟩ := List.pairwise_cons.mp hp
      have ih := insL_same h c x ys h2
      rw [List.filter_cons, ih]
      by_cases hx : PySem.W.sameRank le c x = true
      · have hy : PySem.W.sameRank le c y = false := by
          cases q : PySem.W.sameRank le c y with
          | false => rfl
          | true =>
            unfold PySem.W.sameRank at hx q
            rw [Bool.and_eq_true] at hx q
            exact absurd (h.trans _ _ _ hx.2 q.1) e
        simp [List.filter_cons, hx, hy]
      · simp [List.filter_cons, hx]
theorem isort_same (h : PySem.W.TotalLe le) (c : P) : ∀ xs : List P, (isort le xs).filter (PySem.W.sameRank le c) = xs.filter (PySem.W.sameRank le c)
  | [] => rfl
  | x :: xs => by
    rw [isort, insL_same h c x _ (isort_pair h xs), List.filter_cons, isort_same h c xs, List.filter_cons]
theorem isort_is (h : PySem.W.TotalLe le) (xs : List P) : isort le xs = xs.mergeSort le := PySem.W.sort_unique h (isort_pair h xs) (fun c => isort_same h c xs)
end
theorem leP_total : PySem.W.TotalLe leP := by
  unfold leP PySem.W.dataLe
  exact PySem.W.sortLe_total _ _ _

theorem all_ints : ∀ {xs : List P}, xs.all isInt = true → ∃ ns : List Int, xs = ns.map P.int
  | [], _ => ⟨[], rfl⟩
  | x :: xs, h => by
    simp only [List.all_cons, Bool.and_eq_true] at h
    obtain ⟨ns, e⟩ := all_ints h.2
    cases x with
    | int i => exact ⟨i :: ns, by rw [e]; rfl⟩
    | _ => cases h.1
theorem toDs_ints : ∀ ns : List Int, P.toDs (ns.map P.int) = some (ns.map PyData.int)
  | [] => rfl
  | n :: ns => by
    show P.toDs (.int n :: ns.map P.int) = _
    rw [P.toDs, P.toD, toDs_ints ns]
    rfl
def okD (d : PyData) : Prop := (∃ n, d = .int n) ∨ (∃ s, d = .str s) ∨ ∃ n ns, d = .tuple ((n :: ns).map PyData.int)
theorem okD_depth {d : PyData} (h : okD d) : d.depth ≤ 1 := by
  rcases h with ⟨n, rfl⟩ | ⟨n, rfl⟩ | ⟨n, ns, rfl⟩
  · simp [PyData.depth]
  · simp [PyData.depth]
  · simp only [PyData.depth]
    have := PySem.W.depth_ints (n :: ns)
    omega
theorem sortable_D {xs : List P} (h : sortable xs = true) : (∀ x ∈ xs, x.toD = some (encP x) ∧ okD (encP x)) ∧ PySem.W.AllAlike (xs.map encP) ∧ PySem.W.Sortable (xs.map encP) ∧ xs.length ≤ sizeLine := by
  unfold sortable at h
  simp only [Bool.and_eq_true, Bool.or_eq_true] at h
  obtain ⟨h, hz⟩ := h
  rcases h with (h | h) | h
  · have k : ∀ x ∈ xs, ∃ n, x = .int n := fun x hx => by
      have q := List.all_eq_true.mp h x hx
      cases x with
      | int n => exact ⟨n, rfl⟩
      | _ => cases q
    refine ⟨fun x hx => ?_, fun d hd e he => ?_, .inr fun d hd => ?_, lim_ok hz⟩
    · obtain ⟨n, rfl⟩ := k x hx
      exact ⟨rfl, .inl ⟨n, rfl⟩⟩
    · obtain ⟨x, hx, rfl⟩ := List.mem_map.mp hd
      obtain ⟨y, hy, rfl⟩ := List.mem_map.mp he
      obtain ⟨n, rfl⟩ := k x hx
      obtain ⟨m, rfl⟩ := k y hy
      rfl
    · obtain ⟨x, hx, rfl⟩ := List.mem_map.mp hd
      obtain ⟨n, rfl⟩ := k x hx
      exact ⟨fun z => (nomatch z), fun _ z => (nomatch z)⟩
  · have k : ∀ x ∈ xs, ∃ n, x = .str n := fun x hx => by
      have q := List.all_eq_true.mp h x hx
      cases x with
      | str n => exact ⟨n, rfl⟩
      | _ => cases q
    refine ⟨fun x hx => ?_, fun d hd e he => ?_, .inr fun d hd => ?_, lim_ok hz⟩
    · obtain ⟨n, rfl⟩ := k x hx
      exact ⟨rfl, .inr (.inl ⟨n, rfl⟩)⟩
    · obtain ⟨x, hx, rfl⟩ := List.mem_map.mp hd
      obtain ⟨y, hy, rfl⟩ := List.mem_map.mp he
      obtain ⟨n, rfl⟩ := k x hx
      obtain ⟨m, rfl⟩ := k y hy
      rfl
    · obtain ⟨x, hx, rfl⟩ := List.mem_map.mp hd
      obtain ⟨n, rfl⟩ := k x hx
      exact ⟨fun z => (nomatch z), fun _ z => (nomatch z)⟩
  · have k : ∀ x ∈ xs, ∃ n ns, x = .tup ((n :: ns).map P.int) := fun x hx => by
      have q := List.all_eq_true.mp h x hx
      cases x with
      | tup ys =>
        cases ys with
        | nil => cases q
        | cons y ys =>
          obtain ⟨ns, e⟩ := all_ints (show (y :: ys).all isInt = true from q)
          cases ns with
          | nil => cases e
          | cons n ns => exact ⟨n, ns, by rw [e]⟩
      | _ => cases q
    have en : ∀ (ns : List Int), encP (.tup (ns.map P.int)) = .tuple (ns.map PyData.int) ∧ (P.tup (ns.map P.int)).toD = some (.tuple (ns.map PyData.int)) := fun ns => by
      have e : (P.tup (ns.map P.int)).toD = some (.tuple (ns.map PyData.int)) := by
        rw [P.toD, toDs_ints]
      exact ⟨by unfold encP; rw [e]; rfl, e⟩
    refine ⟨fun x hx => ?_, fun d hd e he => ?_, .inl fun d hd => ?_, lim_ok hz⟩
    · obtain ⟨n, ns, rfl⟩ := k x hx
      rw [(en (n :: ns)).1]
      exact ⟨(en (n :: ns)).2, .inr (.inr ⟨n, ns, rfl⟩)⟩
    · obtain ⟨x, hx, rfl⟩ := List.mem_map.mp hd
      obtain ⟨y, hy, rfl⟩ := List.mem_map.mp he
      obtain ⟨n, ns, rfl⟩ := k x hx
      obtain ⟨m, ms, rfl⟩ := k y hy
      rw [(en (n :: ns)).1, (en (m :: ms)).1]
      rw [PySem.W.alike]
      exact PySem.W.alike_ints (n :: ns) (m :: ms)
    · obtain ⟨x, hx, rfl⟩ := List.mem_map.mp hd
      obtain ⟨n, ns, rfl⟩ := k x hx
      rw [(en (n :: ns)).1]
      exact ⟨.int n, ns.map PyData.int, rfl⟩

section
variable {X : Cx} {T : Top} {pins : List (Addr × Obj)} {σ : L2.St} {H F : Hp} {cm : List Addr} {st : Sto} {s : Shared}
theorem each_rp : ∀ {vs : List V} {us : List Value} {xs : List P}, Vals vs us → Rps T F vs xs → PySem.W.EachIs (fun u x => ∃ v, RelV v u ∧ Rp T F v x) us xs
  | _, _, _, .nil, .nil => .nil
  | _, _, _, .cons r rs, .cons q qs => .cons ⟨_, r, q⟩ (each_rp rs qs)
theorem of_each : ∀ {us : List Value} {xs : List P}, PySem.W.EachIs (fun u x => ∃ v, RelV v u ∧ Rp T F v x) us xs → ∃ vs, Vals vs us ∧ Rps T F vs xs
  | _, _, .nil => ⟨[], .nil, .nil⟩
  | _, _, .cons ⟨v, r, q⟩ h => by
    obtain ⟨vs, a, b⟩ := of_each h
    exact ⟨v :: vs, .cons r a, .cons q b⟩
theorem each_reads (hK : X.K = T.K) (I : Inv X pins σ H s) : ∀ {vs : List V} {us : List Value} {xs : List P}, Vals vs us → Rps T H vs xs → (∀ x ∈ xs, x.toD = some (encP x)) → PySem.W.EachIs (fun u x => ∃ as, Reads s.heap u (encP x) as) us xs
  | _, _, _, .nil, .nil, _ => .nil
  | _, _, _, .cons r rs, .cons q qs, h => .cons (Rp.reads hK I q (h _ (by simp)) r) (each_reads hK I rs qs fun x hx => h x (by simp [hx]))
theorem lists_of (I : Inv X pins σ H s) {a : Addr} {vs : List V} (h : H a = some (.lst vs)) : ∃ its : List Value, Vals vs its ∧ s.heap.IsList a its.toArray ∧ vs.length ≤ sizeLine := by
  obtain ⟨its, r, p, z⟩ := I.list (.inl (.inl h))
  exact ⟨its, r, p.isList, z⟩
/-- sorted(xs) -/
theorem sorted_ok {xs : List P} {v : V} {u : Value} (hK : X.K = T.K) (hu : X.A.units + 200 < cLine) (I : Inv X pins σ H s) (g : Gd T H F cm st) (rx : Rv T H F v (.lst xs)) (r : RelV v u) (h : sortable xs = true)
    {Q : VK} (q : ∀ p vs, H p = none → Rps T F vs (isort leP xs) → Q (.ref p) (upd H p (.lst vs))) : wpAny (model X.prog X.w) X.A (call (.builtin "sorted") [u]) (EP X pins σ Q) X.xe s := by
  obtain ⟨h1, h2, h3, h4⟩ := sortable_D h
  obtain ⟨a, vs, rfl, ha, ra⟩ := rx.lst g
  cases r
  obtain ⟨its, rv, hl, hz⟩ := lists_of I ha
  refine PySem.W.sorted_data (enc := encP) (R := fun u x => ∃ v, RelV v u ∧ Rp T F v x) hl (each_rp rv ra) (each_reads hK I rv (ra.up g.sub) fun x hx => (h1 x hx).1) h2 h3 h4 (fun x hx => ?_) fun out hlen ho => ?_
  · have := okD_depth (h1 x hx).2
    omega
  · obtain ⟨ws, w1, w2⟩ := of_each ho
    rw [← show isort leP xs = xs.mergeSort (PySem.W.dataLe false encP) from isort_is leP_total xs] at w2
    obtain ⟨ep, he⟩ := PyProof.Rows.sortedAll_at s.heap its out.toArray
    refine ⟨.ref (s.heap.objs.size + 1), upd H (s.heap.objs.size + 1) (.lst ws), I.laid (t' := s.toks) (fun _ _ => PyProof.Rows.sortedAll_old) (Nat.le_succ _) ⟨?_, out, ep, w1, he⟩, rfl, q _ ws (I.hok.fresh (Nat.le_succ _)) w2⟩
    rw [w2.len, (isort_perm xs).length_eq]
    exact h4
end
end Z

namespace Z
open PySem PySem.Spec PyProof.Rows L2

mutual
def Tg.slots : Tg → List Nat
  | .n i => [i]
  | .t ts => Tg.slotss ts
def Tg.slotss : List Tg → List Nat
  | [] => []
  | x :: xs => Tg.slots x ++ Tg.slotss xs
end
/-- unlike at these slots alone -/
def Same1 (is : List Nat) (σ σ' : L2.St) : Prop := σ'.length = σ.length ∧ ∀ i, i ∉ is → σ'[i]? = σ[i]?
theorem Same1.trans {is js : List Nat} {a b c : L2.St} (h : Same1 is a b) (k : Same1 js b c) : Same1 (is ++ js) a c :=
  ⟨k.1.trans h.1, fun i hi => (k.2 i fun z => hi (by simp [z])).trans (h.2 i fun z => hi (by simp [z]))⟩
theorem wipe_get {σ : L2.St} {i : Nat} : ∀ {vs : List Nat}, i ∉ vs → (L2.wipe σ vs)[i]? = σ[i]?
  | [], _ => rfl
  | v :: vs, h => by
    simp only [List.mem_cons, not_or] at h
    rw [L2.wipe, List.getElem?_set_ne (fun z => h.1 z.symm), wipe_get h.2]
theorem wipe_in {σ : L2.St} {i : Nat} (hi : i < σ.length) : ∀ {vs : List Nat}, i ∈ vs → (L2.wipe σ vs)[i]? = some none
  | [], h => by cases h
  | v :: vs, h => by
    by_cases e : v = i
    · subst e
      rw [L2.wipe, List.getElem?_set_self (by rw [L2.wipe_length]; exact hi)]
    · rw [L2.wipe, List.getElem?_set_ne e]
      exact wipe_in hi (by
        rcases List.mem_cons.mp h with q | q
        · exact absurd q.symm e
        · exact q)
theorem wipe_same {is vs : List Nat} {σ σ' : L2.St} (h : Same1 is σ σ') (k : ∀ i ∈ is, i ∈ vs) : L2.wipe σ' vs = L2.wipe σ vs := by
  apply List.ext_getElem?
  intro i
  by_cases hi : i ∈ vs
  · by_cases hl : i < σ.length
    · rw [wipe_in hl hi, wipe_in (by rw [h.1]; exact hl) hi]
    · rw [List.getElem?_eq_none (by rw [L2.wipe_length, h.1]; omega), List.getElem?_eq_none (by rw [L2.wipe_length]; omega)]
  · rw [wipe_get hi, wipe_get hi, h.2 i fun z => hi (k i z)]
theorem Sl.wipe {T : Top} {H F : Hp} {cm : List Addr} {σ : L2.St} {δ : Env} (h : Sl T H F cm σ δ) : ∀ vs : List Nat, Sl T H F cm (L2.wipe σ vs) (Z.wipe δ vs)
  | [] => h
  | v :: vs => by
    have k := h.wipe vs
    refine ⟨by simp [L2.wipe, Z.wipe, k.len], fun i w e => ?_⟩
    rw [Z.wipe] at e
    rw [L2.wipe]
    by_cases hi : v = i
    · subst hi
      rw [List.getElem?_set] at e
      simp only [if_true] at e
      split at e <;> cases e
    · rw [List.getElem?_set_ne hi] at e ⊢
      exact k.at_ i w e

def rG (T : Top) (tg : Tg) : TG := fun v σ H Q => ∃ δ st F cm w δ', Gd T H F cm st ∧ Sl T H F cm σ δ ∧ RpW T H F cm v w ∧ tg.put w δ = some δ' ∧ ∀ σ', Sl T H F cm σ' δ' → Same1 tg.slots σ σ' → Q σ' H
def rGs (T : Top) (ts : List Tg) : TGs := fun vs σ H Q => ∃ δ st F cm xs δ', Gd T H F cm st ∧ Sl T H F cm σ δ ∧ Rps T F vs xs ∧ Tg.puts ts xs δ = some δ' ∧ ∀ σ', Sl T H F cm σ' δ' → Same1 (Tg.slotss ts) σ σ' → Q σ' H
theorem _root_.L2.PG.mono {X : Cx} {e : Expr} {t t' : TG} (h : PG X e t) (k : ∀ v σ H Q, t' v σ H Q → t v σ H Q) : PG X e t' := ⟨fun pins s σ H v u Q I r q => h.run pins s σ H v u Q I r (k v σ H Q q)⟩
theorem _root_.L2.PGs.mono {X : Cx} {e : List Expr} {t t' : TGs} (h : PGs X e t) (k : ∀ v σ H Q, t' v σ H Q → t v σ H Q) : PGs X e t' := ⟨fun pins s σ H v u Q I r q => h.run pins s σ H v u Q I r (k v σ H Q q)⟩
section
variable {X : Cx} {T : Top} {C : Ctx} {Wx : WX} {pos : Pos}
theorem g_name {i : Nat} {x : Str} (hN : X.N.Nodup) (hi : X.N[i]? = some x) (hx : Loc X.env.scope x) (hf : X.fn x = true ∨ X.env.scope.names.lookup x = some .local) : PG X (.Name x pos) (rG T (.n i)) := (pg_name hN hi hx hf).mono fun v σ H Q ⟨δ, st, F, cm, w, δ', g, sl, r, e, h⟩ => by
  rw [Tg.put] at e
  split at e
  · cases e
    refine h _ (sl.set r i) ⟨by simp, fun j hj => ?_⟩
    rw [List.getElem?_set_ne]
    intro z
    subst z
    exact hj (by simp [Tg.slots])
  · cases e
theorem gs_nil : PGs X [] (rGs T []) := pgs_nil.mono fun vs σ H Q ⟨δ, st, F, cm, xs, δ', g, sl, r, e, h⟩ => by
  cases xs with
  | nil =>
    cases r
    rw [Tg.puts] at e
    cases e
    exact ⟨rfl, h σ sl ⟨rfl, fun _ _ => rfl⟩⟩
  | cons x xs =>
    rw [Tg.puts] at e <;> cases e
theorem asg_cons {e : Expr} {es : List Expr} {env : PySem.Env} (h : notStar e = true) : assignEach (e :: es) env = (false, assign e env) :: assignEach es env := by
  cases e <;> first | rfl | cases h
theorem gs_cons {e : Expr} {es : List Expr} {t : Tg} {ts : List Tg} (h1 : PG X e (rG T t)) (h2 : PGs X es (rGs T ts)) (hs : notStar e = true) : PGs X (e :: es) (rGs T (t :: ts)) :=
  (pgs_cons h1 h2 (by rw [asg_cons hs]; rfl)).mono fun vs σ H Q ⟨δ, st, F, cm, xs, δ', g, sl, r, e, h⟩ => by
    cases xs with
    | nil => rw [Tg.puts] at e <;> cases e
    | cons x xs =>
      cases r with
      | @cons v _ vs _ r rs =>
        rw [Tg.puts] at e
        split at e
        · rename_i δ1 e1
          refine ⟨v, vs, rfl, δ, st, F, cm, .p x, δ1, g, sl, .p r, e1, fun σ1 sl1 k1 => ?_⟩
          exact ⟨δ1, st, F, cm, xs, δ', g, sl1, rs, e, fun σ2 sl2 k2 => h σ2 sl2 (by simpa [Tg.slotss] using k1.trans k2)⟩
        · cases e
theorem asg_len {env : PySem.Env} : ∀ {es : List Expr}, es.all notStar = true → (assignEach es env).length = es.length ∧ (assignEach es env).findIdx? (·.1) = none
  | [], _ => ⟨rfl, rfl⟩
  | e :: es, h => by
    simp only [List.all_cons, Bool.and_eq_true] at h
    obtain ⟨h1, h2⟩ := asg_len (env := env) h.2
    rw [asg_cons h.1]
    refine ⟨by simp [h1], ?_⟩
    simp [List.findIdx?_cons, h2]
theorem puts_len : ∀ {ts : List Tg} {xs : List P} {δ δ' : Env}, Tg.puts ts xs δ = some δ' → ts.length = xs.length
  | [], [], _, _, _ => rfl
  | [], _ :: _, _, _, e => by rw [Tg.puts] at e <;> cases e
  | _ :: _, [], _, _, e => by rw [Tg.puts] at e <;> cases e
  | t :: ts, x :: xs, _, _, e => by
    rw [Tg.puts] at e
    split at e
    · simp [puts_len e]
    · cases e
theorem PG.or {e : Expr} {t u : TG} (h : PG X e t) (k : PG X e u) : PG X e (fun v σ H Q => t v σ H Q ∨ u v σ H Q) := ⟨fun pins s σ H v w Q I r q => q.elim (h.run pins s σ H v w Q I r) (k.run pins s σ H v w Q I r)⟩
theorem g_tup {es : List Expr} {k : Nat} {ts : List Tg} (hc : X.calm = true) (hK : X.K = T.K) (h : PGs X es (rGs T ts)) (hs : es.all notStar = true) (hl : es.length = ts.length) : PG X (.Tuple es k pos) (rG T (.t ts)) := by
  obtain ⟨l1, l2⟩ := asg_len (env := X.env) hs
  refine (PG.or (pg_tup hc h l1 l2) (pg_lst hc h l1 l2)).mono fun v σ H Q ⟨δ, st, F, cm, w, δ', g, sl, r, e, q⟩ => ?_
  cases w with
  | p x =>
    cases r with
    | p r =>
      cases x with
      | tup xs =>
        rw [Tg.put] at e
        cases r with
        | @tup a vs _ r1 r2 =>
          refine .inl ⟨a, vs, rfl, by rw [hK]; exact sqT_up g.sub r1, by rw [r2.len, ← puts_len e, hl], δ, st, F, cm, xs, δ', g, sl, r2, e, fun σ' s1 s2 => q σ' s1 (by simpa [Tg.slots] using s2)⟩
      | lst xs =>
        rw [Tg.put] at e
        cases r with
        | @lst a vs _ r1 r2 =>
          refine .inr ⟨a, vs, rfl, SqL.of (g.sub _ _ r1), by rw [r2.len, ← puts_len e, hl], δ, st, F, cm, xs, δ', g, sl, r2, e, fun σ' s1 s2 => q σ' s1 (by simpa [Tg.slots] using s2)⟩
      | _ => cases e
  | cel => cases e
  | own => cases e
end

/-- the items xs are handed out, one a turn, from a heap on that has F0 -/
def JOk (T : Top) (F0 : Hp) (J : L2.It) (xs : List P) : Prop := ∀ (i : Nat) (H F : Hp) (cm : List Addr) (st : Sto), Gd T H F cm st → (∀ a o, F0 a = some o → F a = some o) →
  (xs.length ≤ i → J.stop i H) ∧ ∀ x, xs[i]? = some x → J.go i H ∧ ∀ v H', J.yld i H v H' → ∃ F', Gr H F cm H' F' cm ∧ Gd T H' F' cm st ∧ Rp T F' v x
def rI (T : Top) (C : Ctx) (Wx : WX) (it : Z.It) : TI := fun σ H R => ∃ δ st F cm, Gd T H F cm st ∧ Sl T H F cm σ δ ∧
  Post (fun _ F' _ (J : L2.It) (xs : List P) => JOk T F' J xs) T (fun c d H' => Wx c d σ H') (fun J H' => R J H') H F cm (it.ev C δ st)
theorem jok_list {T : Top} {F0 : Hp} {a : Addr} {vs : List V} {xs : List P} (h : F0 a = some (.lst vs)) (r : Rps T F0 vs xs) : JOk T F0 (Itl T.K a) xs := fun i H F cm st g k => by
  have hl : SqL T.K H a vs := SqL.of (g.sub _ _ (k _ _ h))
  refine ⟨fun hi => ⟨vs, hl, by rw [r.len]; exact hi⟩, fun x hx => ?_⟩
  obtain ⟨v, hv, rv⟩ := r.at hx
  refine ⟨⟨vs, v, hl, hv⟩, fun u H' ⟨e, y⟩ => ?_⟩
  subst e
  have := y vs hl
  rw [hv] at this
  cases this
  exact ⟨F, Gr.refl _ _ _, g, rv.up k⟩
theorem jok_tup {T : Top} {F0 : Hp} {a : Addr} {vs : List V} {xs : List P} (h : SqT T.K F0 a vs) (r : Rps T F0 vs xs) : JOk T F0 (Itt T.K a) xs := fun i H F cm st g k => by
  have hl : SqT T.K H a vs := sqT_up g.sub (sqT_up k h)
  refine ⟨fun hi => ⟨vs, hl, by rw [r.len]; exact hi⟩, fun x hx => ?_⟩
  obtain ⟨v, hv, rv⟩ := r.at hx
  refine ⟨⟨vs, v, hl, hv⟩, fun u H' ⟨e, y⟩ => ?_⟩
  subst e
  have := y vs hl
  rw [hv] at this
  cases this
  exact ⟨F, Gr.refl _ _ _, g, rv.up k⟩
theorem jok_str {T : Top} {F0 : Hp} {s : Str} : JOk T F0 (Its s) (s.cps.toList.map fun c => .str ⟨#[c]⟩) := fun i H F cm st g k => by
  refine ⟨fun hi => (show s.cps.size ≤ i by simpa using hi), fun x hx => ?_⟩
  rw [List.getElem?_map] at hx
  obtain ⟨c, hc, e⟩ := Option.map_eq_some_iff.mp hx
  subst e
  rw [Array.getElem?_toList] at hc
  refine ⟨(Array.getElem?_eq_some_iff.mp hc).1, fun u H' ⟨e, c', hc', e2⟩ => ?_⟩
  subst e e2
  rw [hc] at hc'
  cases hc'
  exact ⟨F, Gr.refl _ _ _, g, .str _⟩
theorem jok_rng {T : Top} {F0 : Hp} {lo : Int} {n : Nat} : JOk T F0 (Itr lo n) ((List.range n).map fun k => .int (lo + (k : Nat))) := fun i H F cm st g k => by
  refine ⟨fun hi => (show n ≤ i by simpa using hi), fun x hx => ?_⟩
  rw [List.getElem?_map] at hx
  obtain ⟨c, hc, e⟩ := Option.map_eq_some_iff.mp hx
  subst e
  obtain ⟨h1, h2⟩ := List.getElem?_eq_some_iff.mp hc
  simp at h1 h2
  subst h2
  refine ⟨h1, fun u H' ⟨e, e2⟩ => ?_⟩
  subst e e2
  exact ⟨F, Gr.refl _ _ _, g, .int _⟩
section
variable {X : Cx} {T : Top} {C : Ctx} {Wx : WX} {pos : Pos} {tg pa pb : Expr} {a b : E}
/-- a walk over a value -/
theorem i_val (L : Lg X T C Wx) (h : PE X pa (rE T C Wx a)) : PI X tg pa (rI T C Wx (.val a)) := by
  refine ⟨fun pins s σ H R I ⟨δ, st, F, cm, g, sl, hp⟩ => ?_⟩
  rw [It.ev] at hp
  refine thn (run_e h ⟨I, g, sl⟩ hp) fun u s1 ⟨v, H1, F1, cm1, w, st1, at1, g1, r1, q1, h1⟩ => ?_
  obtain ⟨x, st2, F2, g2, gd2, rp, h2⟩ := keep_run at1.g q1 h1
  have I1 := at1.I
  have hK := L.K
  cases x with
  | tup xs =>
    cases rp with
    | @tup p vs _ k1 k2 =>
      have e : u = Value.ref p := r1
      subst e
      obtain ⟨its, rv, pl, hz⟩ := I1.tuple (hK ▸ sqT_up gd2.sub k1)
      refine wpAny_pyIter_tuple (show s1.heap.IsTuple p its.toArray from pl) ?_
      refine pi_one (tk := s1.toks) I1 _ (turn_tuple p _) ⟨_, Heap.get?_push_size _ rfl, rfl, rfl⟩ ?_
      rw [hK]
      exact h2 _ H1 F2 cm1 (Gr.refl _ _ _) gd2 (jok_tup k1 k2)
  | lst xs =>
    cases rp with
    | @lst p vs _ k1 k2 =>
      have e : u = Value.ref p := r1
      subst e
      obtain ⟨its, rv, pl, hz⟩ := I1.list (SqL.of (gd2.sub _ _ k1))
      refine wpAny_pyIter_list pl.isList ?_
      refine pi_one (tk := s1.toks) I1 _ (turn_list p _) ⟨_, Heap.get?_push_size _ rfl, rfl, rfl⟩ ?_
      rw [hK]
      exact h2 _ H1 F2 cm1 (Gr.refl _ _ _) gd2 (jok_list k1 k2)
  | str y =>
    cases rp
    obtain ⟨t, rfl⟩ := r1
    cases ha : y.cps.all (· < 128)
    · exact wpAny_pyIter_wide ha (pi_one (tk := s1.toks) I1 _ (turn_str _ y t "str_iterator" (.inr rfl)) ⟨_, Heap.get?_push_size _ rfl, rfl, rfl⟩ (h2 _ H1 F2 cm1 (Gr.refl _ _ _) gd2 jok_str))
    · exact wpAny_pyIter_ascii ha (pi_one (tk := s1.toks) I1 _ (turn_str _ y t "str_ascii_iterator" (.inl rfl)) ⟨_, Heap.get?_push_size _ rfl, rfl, rfl⟩ (h2 _ H1 F2 cm1 (Gr.refl _ _ _) gd2 jok_str))
  | _ => exact h2.elim
theorem _root_.L2.PI.mono {e : Expr} {t t' : TI} (h : PI X tg e t) (k : ∀ σ H Q, t' σ H Q → t σ H Q) : PI X tg e t' := ⟨fun pins s σ H Q I q => h.run pins s σ H Q I (k σ H Q q)⟩
theorem small62_ok {i : Int} (h : small62 i = true) : -(2 ^ 62) ≤ i ∧ i < 2 ^ 62 := by
  unfold small62 at h
  rw [Nat.blt_eq] at h
  omega
theorem i_rng1 {p : Pos} (hg : Gl X "range") (hm : X.mg "range" = none) (hs : notStar pa = true) (h : PE X pa (rE T C Wx a)) : PI X tg (.Call (.Name "range" p) [pa] [] pos) (rI T C Wx (.rng1 a)) :=
  (pi_range1 hg hm (pa_cons h pa_nil (star_cons hs)) (by rw [star_cons hs]; rfl)).mono fun σ H R ⟨δ, st, F, cm, g, sl, hp⟩ => by
    rw [It.ev] at hp
    refine rE_imp (rE_bind g sl hp) fun v H1 ⟨F1, cm1, w, st1, g1, gd1, sl1, r1, h1⟩ => ?_
    split at h1
    · rename_i n
      have e : v = .int n := by
        cases r1 with
        | p r => cases r; rfl
      subst e
      unfold rngP at h1
      split at h1
      · rename_i hz
        rw [Bool.and_eq_true] at hz
        obtain ⟨z1, z2⟩ := small62_ok hz.2
        exact ⟨n, rfl, z1, z2, h1 _ _ _ _ (Gr.refl _ _ _) gd1 (by simpa using jok_rng (T := T) (F0 := F1) (lo := 0) (n := n.toNat))⟩
      · exact h1.elim
    · exact h1.elim
theorem i_rng2 {p : Pos} (hg : Gl X "range") (hm : X.mg "range" = none) (hs : notStar pa = true) (hs2 : notStar pb = true) (h : PE X pa (rE T C Wx a)) (k : PE X pb (rE T C Wx b)) : PI X tg (.Call (.Name "range" p) [pa, pb] [] pos) (rI T C Wx (.rng2 a b)) :=
  (pi_range2 hg hm (pa_cons h (pa_cons k pa_nil (star_cons hs2)) (star_cons hs)) (by rw [star_cons hs, star_cons hs2]; rfl) (by rw [star_cons hs2]; rfl)).mono fun σ H R ⟨δ, st, F, cm, g, sl, hp⟩ => by
    rw [It.ev] at hp
    refine rE_imp (rE_bind g sl hp) fun v H1 ⟨F1, cm1, w, st1, g1, gd1, sl1, r1, h1⟩ => ?_
    refine rE_imp (rE_bind gd1 sl1 h1) fun v2 H2 ⟨F2, cm2, w2, st2, g2, gd2, sl2, r2, h2⟩ => ?_
    obtain ⟨m, n, rfl, rfl, h3⟩ : ∃ m n, w = .p (.int m) ∧ w2 = .p (.int n) ∧ Post (fun _ F' _ (J : L2.It) (xs : List P) => JOk T F' J xs) T (fun c d H' => Wx c d σ H') (fun J H' => R J H') H2 F2 cm2 (ofO (rngP m n) st2) := by
      split at h2
      · exact ⟨_, _, rfl, rfl, h2⟩
      · exact h2.elim
    have e : v = .int m := by
      cases r1 with
      | p r => cases r; rfl
    have e2 : v2 = .int n := by
      cases r2 with
      | p r => cases r; rfl
    subst e e2
    unfold rngP at h3
    split at h3
    · rename_i hz
      rw [Bool.and_eq_true] at hz
      obtain ⟨z1, z2⟩ := small62_ok hz.1
      obtain ⟨z3, z4⟩ := small62_ok hz.2
      exact ⟨m, n, rfl, ⟨z1, z2, z3, z4⟩, h3 _ _ _ _ (Gr.refl _ _ _) gd2 jok_rng⟩
    · exact h3.elim
end
end Z

namespace Z
open PySem PySem.Spec PyProof.Rows L2

/-- a thing that nobody else knows -/
structure Pv (H F : Hp) (cm : List Addr) (D : Addr) (o : HO) : Prop where
  h : H D = some o
  f : F D = none
  c : D ∉ cm
theorem Pv.up {H F H' F' : Hp} {cm cm' : List Addr} {D : Addr} {o : HO} (p : Pv H F cm D o) (g : Gr H F cm H' F' cm') : Pv H' F' cm' D o := by
  refine ⟨g.k _ _ p.h p.c, ?_, fun z => ?_⟩
  · cases q : F' D with
    | none => rfl
    | some u =>
      rcases g.n D u q with z | z | z
      · rw [p.f] at z
        cases z
      · rw [p.h] at z
        cases z
      · exact absurd z p.c
  · rcases g.m D z with y | y
    · exact p.c y
    · rw [p.h] at y
      cases y
section
variable {T : Top} {H F H1 F1 : Hp} {cm cm1 : List Addr} {st : Sto} {D : Addr} {o o' : HO}
theorem Pv.new (g : Gd T H F cm st) (h : H D = none) : Pv (upd H D o) F cm D o := ⟨upd_same, g.freshF h, g.notin h⟩
theorem Pv.put (p : Pv H F cm D o) : Pv (upd H D o') F cm D o' := ⟨upd_same, p.f, p.c⟩
theorem Gd.put (p : Pv H F cm D o) (g : Gd T H F cm st) : Gd T (upd H D o') F cm st := by
  refine ⟨fun a u e => ?_, g.len, g.nd, fun n a c h1 h2 => ?_⟩
  · have ha : a ≠ D := fun z => by
      subst z
      rw [p.f] at e
      cases e
    rw [upd_ne ha]
    exact g.sub _ _ e
  · obtain ⟨vs, e1, r, e2⟩ := g.cell n a c h1 h2
    have ha : a ≠ D := fun z => p.c (z ▸ List.mem_of_getElem? h1)
    exact ⟨vs, by rw [upd_ne ha]; exact e1, r, e2⟩
/-- from a state that did not have it -/
theorem Gr.put (h : H1 D = none) (g : Gr H1 F1 cm1 H F cm) : Gr H1 F1 cm1 (upd H D o') F cm :=
  ⟨g.f, g.c, fun a u e n => by rw [upd_ne (ne_of_none e h)]; exact g.k a u e n, g.n, g.m⟩
/-- it is handed on as data, as a list that may be written -/
theorem Gd.give {vs : List V} (p : Pv H F cm D (.lst vs)) (g : Gd T H F cm st) : Gd T H (upd F D (.lst vs)) cm st := by
  have up : ∀ a u, F a = some u → upd F D (.lst vs) a = some u := upd_keep p.f
  refine ⟨fun a u e => ?_, g.len, g.nd, fun n a c h1 h2 => ?_⟩
  · by_cases ha : a = D
    · subst ha
      rw [upd_same] at e
      cases e
      exact p.h
    · rw [upd_ne ha] at e
      exact g.sub _ _ e
  · obtain ⟨ws, e1, r, e2⟩ := g.cell n a c h1 h2
    have ha : a ≠ D := fun z => p.c (z ▸ List.mem_of_getElem? h1)
    refine ⟨ws, e1, r.up up, ?_⟩
    rw [upd_ne ha]
    exact e2
theorem Gr.give {vs : List V} (p : Pv H F cm D (.lst vs)) (h : H1 D = none) (g : Gr H1 F1 cm1 H F cm) : Gr H1 F1 cm1 H (upd F D (.lst vs)) cm :=
  ⟨fun a u e => upd_keep p.f a u (g.f a u e), g.c, g.k, fun a u e => by
    by_cases ha : a = D
    · subst ha
      exact .inr (.inl h)
    · rw [upd_ne ha] at e
      exact g.n a u e, g.m⟩
theorem Gd.giveC {vs : List V} {xs : List P} (p : Pv H F cm D (.lst vs)) (g : Gd T H F cm st) (r : Rps T F vs xs) : Gd T H F (cm ++ [D]) { st with ls := st.ls ++ [⟨xs, false⟩] } := by
  refine ⟨g.sub, by simp [g.len], ?_, fun n a c h1 h2 => ?_⟩
  · rw [List.nodup_append]
    exact ⟨g.nd, by simp, fun a ha b hb => by
      have : b = D := by simpa using hb
      subst this
      exact fun z => p.c (z ▸ ha)⟩
  · by_cases hlt : n < cm.length
    · rw [List.getElem?_append_left hlt] at h1
      rw [List.getElem?_append_left (by rw [← g.len]; exact hlt)] at h2
      exact g.cell n a c h1 h2
    · rw [List.getElem?_append_right (by omega)] at h1
      rw [List.getElem?_append_right (by rw [← g.len]; omega)] at h2
      have e0 : n - cm.length = 0 := by
        have := (List.getElem?_eq_some_iff.mp h1).1
        simp at this
        omega
      have e0' : n - st.ls.length = 0 := by rw [← g.len]; exact e0
      rw [e0] at h1
      rw [e0'] at h2
      simp at h1 h2
      subst h1 h2
      exact ⟨vs, p.h, r, by simpa using p.f⟩
theorem Gr.giveC (h : H1 D = none) (g : Gr H1 F1 cm1 H F cm) : Gr H1 F1 cm1 H F (cm ++ [D]) :=
  ⟨g.f, g.c.trans (List.prefix_append _ _), g.k, g.n, fun a e => by
    rcases List.mem_append.mp e with e | e
    · exact g.m a e
    · have : a = D := by simpa using e
      subst this
      exact .inr h⟩
/-- a list made on the way is the value -/
theorem mkL_give {Wx : Value → Option Addr → Hp → Prop} {Q : VK} {c : Bool} {vs : List V} {xs : List P} (p : Pv H F cm D (.lst vs)) (h1 : H1 D = none) (gr : Gr H1 F1 cm1 H F cm) (g : Gd T H F cm st) (r : Rps T F vs xs) (h : Post (RpW T) T Wx Q H1 F1 cm1 (mkL c xs st)) : Q (.ref D) H := by
  unfold mkL at h
  split at h
  · exact h _ _ _ _ (Gr.giveC h1 gr) (g.giveC p r) (.cel (by rw [← g.len]; simp))
  · exact h _ _ _ _ (Gr.give p h1 gr) (g.give p) (.p (.lst upd_same (r.up (upd_keep p.f))))
end

theorem noX_bind {α β : Type} {r : Res α} {f : α → Sto → Res β} : noX (r.bind f) = (noX r).bind fun a st => noX (f a st) := by
  cases r <;> rfl
theorem noX_ok {α : Type} {r : Res α} {a : α} {st : Sto} (h : noX r = .ok a st) : r = .ok a st := by
  cases r <;> first | exact h | cases h
theorem noX_exc {α : Type} {r : Res α} {c : Nat} {fs : List P} {st : Sto} : noX r ≠ .exc c fs st := by
  cases r <;> exact fun h => (nomatch h)
/-- an outcome that is wanted came through -/
theorem noX_ran {α α' β' : Type} {rel' : Hp → Hp → List Addr → β' → α' → Prop} {T : Top} {Wx : Value → Option Addr → Hp → Prop} {Q' : β' → Hp → Prop} {H F : Hp} {cm : List Addr} {r : Res α} {f : α → Sto → Res α'} (h : Post rel' T Wx Q' H F cm ((noX r).bind f)) :
    ∃ a st, r = .ok a st ∧ Post rel' T Wx Q' H F cm (f a st) := by
  cases r with
  | ok a st => exact ⟨a, st, rfl, h⟩
  | exc _ _ _ => exact h.elim
  | no => exact h.elim

/-- what a comprehension keeps between its turns -/
structure LcW (T : Top) (Wx : Value → Option Addr → Hp → Prop) (Q : VK) (H1 F1 : Hp) (cm1 : List Addr) (HB FB : Hp) (cmB : List Addr) (D : Addr) (rest : Sto → Res (List P)) (k : Bool) (H : Hp) : Prop where
  ex : ∃ F cm st acc ys, Gr H1 F1 cm1 H F cm ∧ Gr HB FB cmB H F cm ∧ Gd T H F cm st ∧ Pv H F cm D (.lst acc) ∧ Rps T F acc ys ∧ Post (RpW T) T Wx Q H1 F1 cm1 ((noX (rest st)).bind fun zs st => if lim (ys ++ zs).length then mkL k (ys ++ zs) st else .no)

section
variable {X : Cx} {T : Top} {C : Ctx} {Wx : WX} {pos : Pos} {tg iter elt : Expr} {ifs : List Expr} {tz : Tg} {it : Z.It} {t e : E} {scope : Scope} {own : List (Str × Nat)}
abbrev W0 : WX := fun _ _ _ _ => False
theorem _root_.L2.PTs.mono {ifs : List Expr} {t t' : TT} (h : PTs X ifs t) (k : ∀ σ H Q, t' σ H Q → t σ H Q) : PTs X ifs t' := ⟨fun pins s σ H Q I q => h.run pins s σ H Q I (k σ H Q q)⟩
theorem ts_nil : PTs X [] (rT T C Wx (.bl true)) := pts_nil.mono fun σ H Q ⟨δ, st, F, cm, g, sl, h⟩ => by
  have h : Post relB T (fun c d H' => Wx c d σ H') Q H F cm (((E.bl true).ev C δ st).bind tru) := h
  rw [E.ev] at h
  exact ok_self g h
theorem ts_one {c : Expr} (h : PT X c (rT T C Wx t)) : PTs X [c] (rT T C Wx t) := pts_one h

/-- the item that one turn makes -/
def lcF (C : Ctx) (tz : Tg) (t e : E) (δ0 : Env) (x : P) (st : Sto) : Res (Option P) := match tz.put (.p x) δ0 with
  | some δ1 => ((t.ev C δ1 st).bind tru).bind fun b st => if b then (e.ev C δ1 st).bind fun w st => (keep st w).bind fun y st => .ok (some y) st else .ok none st
  | none => .no
/-- one turn: from the place ahead of it to behind it -/
theorem lc_turn {σ : L2.St} {vs : List Nat} {δ : Env} {H1 F1 HB FB : Hp} {cm1 cmB : List Addr} {D : Addr} {Q : VK} {k : Bool} {Wx' : Value → Option Addr → Hp → Prop} {x : P} {rest : Sto → Res (List P)} {v : V} {H' F F' : Hp} {cm : List Addr} {st : Sto} {acc : List V} {ys : List P} {Nx : Hp → Prop}
    (hvs : ∀ i ∈ tz.slots, i ∈ vs) (hD : H1 D = none) (hDB : HB D = none) (sl : Sl T H' F' cm σ δ) (gr : Gr H1 F1 cm1 H' F' cm) (grB : Gr HB FB cmB H' F' cm) (gd : Gd T H' F' cm st) (pv : Pv H' F' cm D (.lst acc)) (rs : Rps T F' acc ys) (rp : Rp T F' v x)
    (hp : Post (RpW T) T Wx' Q H1 F1 cm1 ((noX ((lcF C tz t e (Z.wipe δ vs) x st).bind fun y st1 => (rest st1).bind fun ys st2 => .ok (match y with
      | some y => y :: ys
      | none => ys) st2)).bind fun zs st => if lim (ys ++ zs).length then mkL k (ys ++ zs) st else .no))
    (hN : ∀ H, LcW T Wx' Q H1 F1 cm1 HB FB cmB D rest k H → Nx H) :
    rG T tz v (L2.wipe σ vs) H' fun σ2 H2 => L2.wipe σ2 vs = L2.wipe σ vs ∧ rT T C W0 t σ2 H2 fun b H3 =>
      if b = true then rE T C W0 e σ2 H3 fun y H4 => ∃ acc, H4 D = some (.lst acc) ∧ acc.length < sizeLine ∧ Nx (upd H4 D (.lst (acc ++ [y]))) else Nx H3 := by
  rw [noX_bind, Res.bind_assoc] at hp
  obtain ⟨y, st5, e1, hp⟩ := noX_ran hp
  have e0 := e1
  unfold lcF at e1
  split at e1
  · rename_i δ1 hput
    have sl0 : Sl T H' F' cm (L2.wipe σ vs) (Z.wipe δ vs) := sl.wipe vs
    refine ⟨Z.wipe δ vs, st, F', cm, .p x, δ1, gd, sl0, .p rp, hput, fun σ2 sl2 sm => ⟨?_, ?_⟩⟩
    · have q := wipe_same sm hvs
      have id2 : ∀ σ : L2.St, L2.wipe (L2.wipe σ vs) vs = L2.wipe σ vs := fun σ => by
        apply List.ext_getElem?
        intro i
        by_cases hi : i ∈ vs
        · by_cases hl : i < σ.length
          · rw [wipe_in (by rw [L2.wipe_length]; exact hl) hi, wipe_in hl hi]
          · rw [List.getElem?_eq_none (by rw [L2.wipe_length, L2.wipe_length]; omega), List.getElem?_eq_none (by rw [L2.wipe_length]; omega)]
        · rw [wipe_get hi]
      rw [q, id2]
    · cases et : (t.ev C δ1 st).bind tru with
      | ok b st3 =>
        rw [et] at e1
        refine ⟨δ1, st, F', cm, gd, sl2, ?_⟩
        rw [et]
        intro b' H3 F3 cm3 g3 gd3 hb
        have hb : b' = b := hb
        subst hb
        have pv3 := pv.up g3
        cases b' with
        | false =>
          rw [if_neg Bool.false_ne_true]
          have e1 : (Res.ok none st3 : Res (Option P)) = .ok y st5 := e1
          cases e1
          refine hN H3 ⟨⟨F3, cm3, st5, acc, ys, gr.trans g3, grB.trans g3, gd3, pv3, rs.up g3.f, ?_⟩⟩
          have e2 : (fun (a : List P) (st : Sto) => (noX (Res.ok a st) : Res (List P)).bind fun zs st => if lim (ys ++ zs).length then mkL k (ys ++ zs) st else .no) = fun zs st => if lim (ys ++ zs).length then mkL k (ys ++ zs) st else .no := rfl
          rw [noX_bind, Res.bind_assoc] at hp
          exact hp
        | true =>
          rw [if_pos rfl]
          have e1 : ((e.ev C δ1 st3).bind fun w st => (keep st w).bind fun y st => .ok (some y) st) = Res.ok y st5 := e1
          cases ee : e.ev C δ1 st3 with
          | ok w st4 =>
            rw [ee] at e1
            have e1 : ((keep st4 w).bind fun y st => .ok (some y) st) = Res.ok y st5 := e1
            cases ek : keep st4 w with
            | ok z st6 =>
              rw [ek] at e1
              have e1 : (Res.ok (some z) st6 : Res (Option P)) = .ok y st5 := e1
              cases e1
              refine ⟨δ1, st3, F3, cm3, gd3, sl2.up g3, ?_⟩
              rw [ee]
              intro u H4 F4 cm4 g4 gd4 r4
              obtain ⟨F5, g5, gd5, r5⟩ := keep_ok gd4 r4 ek
              have pv4 := (pv3.up g4).up g5
              rw [noX_bind, Res.bind_assoc] at hp
              have hp' := hp
              obtain ⟨zs, st7, e7, h7⟩ := noX_ran hp'
              have h7 : Post (RpW T) T Wx' Q H1 F1 cm1 (if lim (ys ++ z :: zs).length then mkL k (ys ++ z :: zs) st7 else .no) := h7
              have hz : lim (ys ++ z :: zs).length = true := by
                cases q : lim (ys ++ z :: zs).length with
                | true => rfl
                | false =>
                  rw [q, if_neg Bool.false_ne_true] at h7
                  exact h7.elim
              refine ⟨acc, pv4.h, ?_, hN _ ⟨⟨F5, cm4, st5, acc ++ [u], ys ++ [z], Gr.put hD (((gr.trans g3).trans g4).trans g5), Gr.put hDB (((grB.trans g3).trans g4).trans g5), gd5.put pv4, pv4.put, (rs.up (fun a o q => g5.f _ _ (g4.f _ _ (g3.f _ _ q)))).app (.cons r5 .nil), ?_⟩⟩⟩
              · have := lim_ok hz
                rw [List.length_append, List.length_cons] at this
                rw [rs.len]
                omega
              · have ef : (fun (zs : List P) (st : Sto) => if lim (ys ++ [z] ++ zs).length then mkL k (ys ++ [z] ++ zs) st else .no) = fun zs st => (if lim (ys ++ z :: zs).length then mkL k (ys ++ z :: zs) st else .no) := by
                  funext zs st
                  rw [List.append_assoc]
                  rfl
                rw [ef]
                exact hp
            | exc _ _ _ =>
              rw [ek] at e1
              cases e1
            | no =>
              rw [ek] at e1
              cases e1
          | exc _ _ _ =>
            rw [ee] at e1
            cases e1
          | no =>
            rw [ee] at e1
            cases e1
      | exc _ _ _ =>
        rw [et] at e1
        cases e1
      | no =>
        rw [et] at e1
        cases e1
  · cases e1

theorem lc_read {σ : L2.St} {H : Hp} {Q : VK} {k : Bool} {vs : List Nat} (hvs : ∀ i ∈ tz.slots, i ∈ vs) (h : rE T C Wx (.lc k vs tz it t e) σ H Q) : tLc (rI T C Wx it) (rG T tz) (rT T C W0 t) (rE T C W0 e) vs σ H Q := by
  obtain ⟨δ, st, F, cm, g, sl, hp⟩ := h
  rw [E.ev] at hp
  refine ⟨δ, st, F, cm, g, sl, ?_⟩
  have h1 := Post.bind (rel := fun _ F' _ (J : L2.It) (xs : List P) => JOk T F' J xs) hp
  cases ei : it.ev C δ st with
  | ok xs0 st0 =>
    rw [ei] at h1
    intro J H1 F1' cm1' g1 gd1 j1
    obtain ⟨F1, cm1, xs, st1, g1, gd1, j1, h2⟩ := h1 J H1 F1' cm1' g1 gd1 j1
    have h2 : Post (RpW T) T (fun c d H' => Wx c d σ H') Q H1 F1 cm1 ((noX (mapR (lcF C tz t e (Z.wipe δ vs)) xs st1)).bind fun ys st => if lim ys.length then mkL k ys st else .no) := h2
    have sl1 := sl.up g1
    intro D hD
    refine ⟨fun i m H => m = xs.length - i ∧ i ≤ xs.length ∧ LcW T (fun c d H' => Wx c d σ H') Q H1 F1 cm1 H1 F1 cm1 D (mapR (lcF C tz t e (Z.wipe δ vs)) (xs.drop i)) k H, ⟨_, rfl, Nat.zero_le _, ⟨⟨F1, cm1, st1, [], [], Gr.side hD, Gr.side hD, gd1.side hD, Pv.new gd1 hD, .nil, h2⟩⟩⟩, ?_⟩
    rintro i m H ⟨rfl, hi, ⟨F2, cm2, st2, acc, ys, gr, -, gd, pv, rs, hp2⟩⟩
    obtain ⟨jstop, jgo⟩ := j1 i H F2 cm2 st2 gd gr.f
    by_cases hlt : i < xs.length
    · obtain ⟨jg, jy⟩ := jgo xs[i] (List.getElem?_eq_getElem hlt)
      refine .inr ⟨jg, fun H' => LcW T (fun c d H' => Wx c d σ H') Q H1 F1 cm1 H1 F1 cm1 D (mapR (lcF C tz t e (Z.wipe δ vs)) (xs.drop (i + 1))) k H', fun H' w => ⟨_, by omega, rfl, hlt, w⟩, fun v H' y => ?_⟩
      obtain ⟨F3, g3, gd3, rp3⟩ := jy v H' y
      rw [List.drop_eq_getElem_cons hlt] at hp2
      exact lc_turn (H' := H') (F' := F3) (F := F3) hvs hD hD (sl1.up (gr.trans g3)) (gr.trans g3) (gr.trans g3) gd3 (pv.up g3) (rs.up g3.f) rp3 hp2 fun _ w => w
    · have ei : i = xs.length := by omega
      subst ei
      rw [List.drop_length] at hp2
      have hp3 : Post (RpW T) T (fun c d H' => Wx c d σ H') Q H1 F1 cm1 (if lim (ys ++ []).length then mkL k (ys ++ []) st2 else .no) := hp2
      rw [List.append_nil] at hp3
      split at hp3
      · exact .inl ⟨jstop (Nat.le_refl _), mkL_give pv hD gr gd rs hp3⟩
      · exact hp3.elim
  | exc _ _ _ =>
    rw [ei] at h1
    exact h1
  | no =>
    rw [ei] at h1
    exact h1
/-- [elt for target in iter if ..] -/
theorem z_lc {k : Bool} (L : Lg X T C Wx) (hi : PI X tg iter (rI T C Wx it)) (ok : BlkOk X.N X.env.scope scope own) (hvs : ∀ i ∈ tz.slots, i ∈ own.map (·.2))
    (hg : ∀ (s : Shared) (H : Hp) (D : Addr) (cl : List (Str × Addr)) (fp : List Addr), PG (X.blk s H scope (compEnvC scope cl D X.env) fp) tg (rG T tz))
    (ht : ∀ (s : Shared) (H : Hp) (D : Addr) (cl : List (Str × Addr)) (fp : List Addr), PTs (X.blk s H scope (compEnvC scope cl D X.env) fp) ifs (rT T C W0 t))
    (he : ∀ (s : Shared) (H : Hp) (D : Addr) (cl : List (Str × Addr)) (fp : List Addr), PE (X.blk s H scope (compEnvC scope cl D X.env) fp) elt (rE T C W0 e)) (hs : ∀ x, foldedSetIterable iter X.env x = pure x) :
    PE X (.ListComp elt [⟨tg, iter, ifs, 0⟩] scope pos) (rE T C Wx (.lc k (own.map (·.2)) tz it t e)) :=
  (pe_lc L.calm L.nd hi ok hg ht he hs).mono fun σ H Q h => lc_read hvs h

theorem wipe_idem (vs : List Nat) (σ : L2.St) : L2.wipe (L2.wipe σ vs) vs = L2.wipe σ vs := by
  apply List.ext_getElem?
  intro i
  by_cases hi : i ∈ vs
  · by_cases hl : i < σ.length
    · rw [wipe_in (by rw [L2.wipe_length]; exact hl) hi, wipe_in hl hi]
    · rw [List.getElem?_eq_none (by rw [L2.wipe_length, L2.wipe_length]; omega), List.getElem?_eq_none (by rw [L2.wipe_length]; omega)]
  · rw [wipe_get hi]
variable {tg1 iter1 : Expr} {ifs1 : List Expr} {tz1 : Tg} {it1 : Z.It} {t1 : E}
/-- a heap without one thing -/
def lift (H : Hp) (D : Addr) : Hp := fun a => if a = D then none else H a
theorem lift_gr {H F : Hp} {cm : List Addr} {D : Addr} : Gr (lift H D) F cm H F cm := by
  refine ⟨fun _ _ h => h, List.prefix_refl _, fun a o e _ => ?_, fun _ _ h => .inl h, fun _ h => .inl h⟩
  unfold lift at e
  split at e
  · cases e
  · exact e
theorem Sl.lift {H F : Hp} {cm : List Addr} {D : Addr} {σ : L2.St} {δ : Env} {vs : List V} (h : Sl T H F cm σ δ) (p : Pv H F cm D (.lst vs)) : Sl T (Z.lift H D) F cm σ δ := by
  refine ⟨h.len, fun i w e => ?_⟩
  obtain ⟨v, e1, r⟩ := h.at_ i w e
  refine ⟨v, e1, ?_⟩
  cases r with
  | p r => exact .p r
  | cel r => exact .cel r
  | @own a dx c vs' fs h1 h2 h3 h4 h5 h6 h7 =>
    have n1 : a ≠ D := fun z => by
      subst z
      rw [p.h] at h1
      cases h1
    have n2 : dx ≠ D := fun z => by
      subst z
      rw [p.h] at h2
      cases h2
    exact .own (by unfold Z.lift; rw [if_neg n1]; exact h1) (by unfold Z.lift; rw [if_neg n2]; exact h2) h3 h4 h5 h6 h7
def lcG (C : Ctx) (tz : Tg) (t : E) (it1 : Z.It) (tz1 : Tg) (t1 e : E) (vs1 : List Nat) (δ0 : Env) (x : P) (st : Sto) : Res (List P) := match tz.put (.p x) δ0 with
  | some δ1 => ((t.ev C δ1 st).bind tru).bind fun b st => if b then (it1.ev C δ1 st).bind fun xs1 st => mapR (lcF C tz1 t1 e (Z.wipe δ1 vs1)) xs1 st else .ok [] st
  | none => .no
/-- the rest of an inner walk, then that of the outer one -/
def rest2 (f : P → Sto → Res (Option P)) (xs : List P) (rest : Sto → Res (List P)) (st : Sto) : Res (List P) := (mapR f xs st).bind fun ys st1 => (rest st1).bind fun zs st2 => .ok (ys ++ zs) st2
theorem rest2_cons {f : P → Sto → Res (Option P)} {x : P} {xs : List P} {rest : Sto → Res (List P)} {st : Sto} : rest2 f (x :: xs) rest st = (f x st).bind fun y st1 => (rest2 f xs rest st1).bind fun ys st2 => .ok (match y with
    | some y => y :: ys
    | none => ys) st2 := by
  unfold rest2
  rw [mapR, Res.bind_assoc]
  congr 1
  funext y st1
  rw [Res.bind_assoc, Res.bind_assoc]
  congr 1
  funext ys st2
  show (rest st2).bind _ = ((rest st2).bind fun zs st2 => Res.ok (ys ++ zs) st2).bind _
  rw [Res.bind_assoc]
  congr 1
  funext zs st3
  cases y <;> rfl
theorem rest2_nil {f : P → Sto → Res (Option P)} {rest : Sto → Res (List P)} {st : Sto} : rest2 f [] rest st = rest st := by
  unfold rest2
  rw [mapR]
  show (rest st).bind (fun zs st2 => Res.ok ([] ++ zs) st2) = rest st
  cases rest st <;> rfl
theorem lc2_read {σ : L2.St} {H : Hp} {Q : VK} {k : Bool} {vs vs1 : List Nat} (hvs : ∀ i ∈ tz.slots, i ∈ vs) (hvs1 : ∀ i ∈ tz1.slots, i ∈ vs1) (h : rE T C Wx (.lc2 k vs vs1 tz it t tz1 it1 t1 e) σ H Q) :
    tLc2 (rI T C Wx it) (rG T tz) (rT T C W0 t) (rI T C W0 it1) (rG T tz1) (rT T C W0 t1) (rE T C W0 e) vs vs1 σ H Q := by
  obtain ⟨δ, st, F, cm, g, sl, hp⟩ := h
  rw [E.ev] at hp
  refine ⟨δ, st, F, cm, g, sl, ?_⟩
  have h1 := Post.bind (rel := fun _ F' _ (J : L2.It) (xs : List P) => JOk T F' J xs) hp
  cases ei : it.ev C δ st with
  | ok xs0 st0 =>
    rw [ei] at h1
    intro J H1 F1' cm1' g1 gd1 j1
    obtain ⟨F1, cm1, xs, st1, g1, gd1, j1, h2⟩ := h1 J H1 F1' cm1' g1 gd1 j1
    have h2 : Post (RpW T) T (fun c d H' => Wx c d σ H') Q H1 F1 cm1 ((noX (mapL (lcG C tz t it1 tz1 t1 e vs1 (Z.wipe δ vs)) xs st1)).bind fun ys st => if lim ys.length then mkL k ys st else .no) := h2
    have sl1 := sl.up g1
    intro D hD
    refine ⟨fun i m H => m = xs.length - i ∧ i ≤ xs.length ∧ LcW T (fun c d H' => Wx c d σ H') Q H1 F1 cm1 H1 F1 cm1 D (mapL (lcG C tz t it1 tz1 t1 e vs1 (Z.wipe δ vs)) (xs.drop i)) k H, ⟨_, rfl, Nat.zero_le _, ⟨⟨F1, cm1, st1, [], [], Gr.side hD, Gr.side hD, gd1.side hD, Pv.new gd1 hD, .nil, h2⟩⟩⟩, ?_⟩
    rintro i m H ⟨rfl, hi, ⟨F2, cm2, st2, acc, ys, gr, -, gd, pv, rs, hp2⟩⟩
    obtain ⟨jstop, jgo⟩ := j1 i H F2 cm2 st2 gd gr.f
    by_cases hlt : i < xs.length
    · obtain ⟨jg, jy⟩ := jgo xs[i] (List.getElem?_eq_getElem hlt)
      refine .inr ⟨jg, fun H' => LcW T (fun c d H' => Wx c d σ H') Q H1 F1 cm1 H1 F1 cm1 D (mapL (lcG C tz t it1 tz1 t1 e vs1 (Z.wipe δ vs)) (xs.drop (i + 1))) k H', fun H' w => ⟨_, by omega, rfl, hlt, w⟩, fun v H' y => ?_⟩
      obtain ⟨F3, g3, gd3, rp3⟩ := jy v H' y
      rw [List.drop_eq_getElem_cons hlt, mapL, noX_bind, Res.bind_assoc] at hp2
      generalize hrest : mapL (lcG C tz t it1 tz1 t1 e vs1 (Z.wipe δ vs)) (List.drop (i + 1) xs) = rest at hp2 ⊢
      have hp2' := hp2
      obtain ⟨y0, st5, e1, -⟩ := noX_ran hp2'
      have grX := gr.trans g3
      have pvX := pv.up g3
      have rsX := rs.up g3.f
      unfold lcG at e1 hp2
      split at e1
      · rename_i δ1 hput
        rw [hput] at hp2
        have sl0 : Sl T H' F3 cm2 (L2.wipe σ vs) (Z.wipe δ vs) := (sl1.up grX).wipe vs
        refine ⟨Z.wipe δ vs, st2, F3, cm2, .p xs[i], δ1, gd3, sl0, .p rp3, hput, fun σ2 sl2 sm => ⟨by rw [wipe_same sm hvs, wipe_idem], ?_⟩⟩
        refine ⟨δ1, st2, F3, cm2, gd3, sl2, ?_⟩
        cases et : (t.ev C δ1 st2).bind tru with
        | ok b st3 =>
          rw [et] at e1
          dsimp only at hp2
          rw [et] at hp2
          intro b' H4 F4 cm4 g4 gd4 hb
          have hb : b' = b := hb
          subst hb
          have pv4 := pvX.up g4
          cases b' with
          | false =>
            rw [if_neg Bool.false_ne_true]
            refine ⟨⟨F4, cm4, st3, acc, ys, grX.trans g4, grX.trans g4, gd4, pv4, rsX.up g4.f, ?_⟩⟩
            have hp3 : Post (RpW T) T (fun c d H' => Wx c d σ H') Q H1 F1 cm1 ((noX ((rest st3).bind fun zs st2 => .ok ([] ++ zs) st2)).bind fun zs st => if lim (ys ++ zs).length then mkL k (ys ++ zs) st else .no) := hp2
            have e4 : ((rest st3).bind fun zs st2 => (.ok ([] ++ zs) st2 : Res (List P))) = rest st3 := by
              cases rest st3 <;> rfl
            rw [e4] at hp3
            exact hp3
          | true =>
            rw [if_pos rfl]
            refine ⟨δ1, st3, F4, cm4, gd4, sl2.up g4, ?_⟩
            have e1 : ((it1.ev C δ1 st3).bind fun xs1 st => mapR (lcF C tz1 t1 e (Z.wipe δ1 vs1)) xs1 st) = .ok y0 st5 := e1
            cases ei1 : it1.ev C δ1 st3 with
            | ok xs1 st6 =>
              intro J1 H5 F5 cm5 g5 gd5 j5
              have hp3 : Post (RpW T) T (fun c d H' => Wx c d σ H') Q H1 F1 cm1 ((noX (rest2 (lcF C tz1 t1 e (Z.wipe δ1 vs1)) xs1 rest st6)).bind fun zs st => if lim (ys ++ zs).length then mkL k (ys ++ zs) st else .no) := by
                unfold rest2
                rw [noX_bind, Res.bind_assoc]
                have hq : Post (RpW T) T (fun c d H' => Wx c d σ H') Q H1 F1 cm1 ((noX ((it1.ev C δ1 st3).bind fun xs1 st => mapR (lcF C tz1 t1 e (Z.wipe δ1 vs1)) xs1 st)).bind fun a st => (noX ((rest st).bind fun zs st2 => .ok (a ++ zs) st2)).bind fun zs st => if lim (ys ++ zs).length then mkL k (ys ++ zs) st else .no) := hp2
                rw [ei1] at hq
                exact hq
              have pv5 := pv4.up g5
              have sl5 : Sl T H5 F5 cm5 σ2 δ1 := (sl2.up g4).up g5
              have gr5 := (grX.trans g4).trans g5
              have rs5 := rsX.up (fun a o q => g5.f _ _ (g4.f _ _ q))
              have hB : (lift H5 D) D = none := if_pos rfl
              have grB : Gr (lift H5 D) F5 cm5 H5 F5 cm5 := lift_gr
              have slB : Sl T (lift H5 D) F5 cm5 σ2 δ1 := sl5.lift pv5
              refine ⟨fun j m H => m = xs1.length - j ∧ j ≤ xs1.length ∧ LcW T (fun c d H' => Wx c d σ H') Q H1 F1 cm1 (lift H5 D) F5 cm5 D (rest2 (lcF C tz1 t1 e (Z.wipe δ1 vs1)) (xs1.drop j) rest) k H, ⟨_, rfl, Nat.zero_le _, ⟨⟨F5, cm5, st6, acc, ys, gr5, grB, gd5, pv5, rs5, hp3⟩⟩⟩, ?_⟩
              rintro j m H ⟨rfl, hj, ⟨F6, cm6, st7, acc6, ys6, gr6, grB6, gd6, pv6, rs6, hp6⟩⟩
              obtain ⟨kstop, kgo⟩ := j5 j H F6 cm6 st7 gd6 grB6.f
              by_cases hjl : j < xs1.length
              · obtain ⟨kg, ky⟩ := kgo xs1[j] (List.getElem?_eq_getElem hjl)
                refine .inr ⟨kg, fun H' => LcW T (fun c d H' => Wx c d σ H') Q H1 F1 cm1 (lift H5 D) F5 cm5 D (rest2 (lcF C tz1 t1 e (Z.wipe δ1 vs1)) (xs1.drop (j + 1)) rest) k H', fun H' w => ⟨_, by omega, rfl, hjl, w⟩, fun v H' y => ?_⟩
                obtain ⟨F7, g7, gd7, rp7⟩ := ky v H' y
                rw [List.drop_eq_getElem_cons hjl, rest2_cons] at hp6
                exact lc_turn (H' := H') (F' := F7) (F := F7) hvs1 hD hB (slB.up (grB6.trans g7)) (gr6.trans g7) (grB6.trans g7) gd7 (pv6.up g7) (rs6.up g7.f) rp7 hp6 fun _ w => w
              · have ej : j = xs1.length := by omega
                subst ej
                rw [List.drop_length, rest2_nil] at hp6
                exact .inl ⟨kstop (Nat.le_refl _), ⟨⟨F6, cm6, st7, acc6, ys6, gr6, gr6, gd6, pv6, rs6, hp6⟩⟩⟩
            | exc _ _ _ =>
              rw [ei1] at e1
              cases e1
            | no =>
              rw [ei1] at e1
              cases e1
        | exc _ _ _ =>
          rw [et] at e1
          cases e1
        | no =>
          rw [et] at e1
          cases e1
      · cases e1
    · have ei : i = xs.length := by omega
      subst ei
      rw [List.drop_length, mapL] at hp2
      have hp3 : Post (RpW T) T (fun c d H' => Wx c d σ H') Q H1 F1 cm1 (if lim (ys ++ []).length then mkL k (ys ++ []) st2 else .no) := hp2
      rw [List.append_nil] at hp3
      split at hp3
      · exact .inl ⟨jstop (Nat.le_refl _), mkL_give pv hD gr gd rs hp3⟩
      · exact hp3.elim
  | exc _ _ _ =>
    rw [ei] at h1
    exact h1
  | no =>
    rw [ei] at h1
    exact h1

/-- [elt for target in iter if .. for target1 in iter1 if ..] -/
theorem z_lc2 {k : Bool} {vs1 : List Nat} (L : Lg X T C Wx) (hi : PI X tg iter (rI T C Wx it)) (ok : BlkOk X.N X.env.scope scope own) (hv : ∀ i ∈ vs1, i ∈ own.map (·.2)) (hvs : ∀ i ∈ tz.slots, i ∈ own.map (·.2)) (hvs1 : ∀ i ∈ tz1.slots, i ∈ vs1)
    (hg : ∀ (s : Shared) (H : Hp) (D : Addr) (cl : List (Str × Addr)) (fp : List Addr), PG (X.blk s H scope (compEnvC scope cl D X.env) fp) tg (rG T tz))
    (ht : ∀ (s : Shared) (H : Hp) (D : Addr) (cl : List (Str × Addr)) (fp : List Addr), PTs (X.blk s H scope (compEnvC scope cl D X.env) fp) ifs (rT T C W0 t))
    (hi1 : ∀ (s : Shared) (H : Hp) (D : Addr) (cl : List (Str × Addr)) (fp : List Addr), PI (X.blk s H scope (compEnvC scope cl D X.env) fp) tg1 iter1 (rI T C W0 it1))
    (hg1 : ∀ (s : Shared) (H : Hp) (D : Addr) (cl : List (Str × Addr)) (fp : List Addr), PG (X.blk s H scope (compEnvC scope cl D X.env) fp) tg1 (rG T tz1))
    (ht1 : ∀ (s : Shared) (H : Hp) (D : Addr) (cl : List (Str × Addr)) (fp : List Addr), PTs (X.blk s H scope (compEnvC scope cl D X.env) fp) ifs1 (rT T C W0 t1))
    (he : ∀ (s : Shared) (H : Hp) (D : Addr) (cl : List (Str × Addr)) (fp : List Addr), PE (X.blk s H scope (compEnvC scope cl D X.env) fp) elt (rE T C W0 e)) (hs : ∀ x, foldedSetIterable iter X.env x = pure x) (hs1 : ∀ env x, foldedSetIterable iter1 env x = pure x) :
    PE X (.ListComp elt [⟨tg, iter, ifs, 0⟩, ⟨tg1, iter1, ifs1, 0⟩] scope pos) (rE T C Wx (.lc2 k (own.map (·.2)) vs1 tz it t tz1 it1 t1 e)) :=
  (pe_lc2 L.calm L.nd hi ok hv hg ht hi1 hg1 ht1 he hs hs1).mono fun σ H Q h => lc2_read hvs hvs1 h
end
end Z

namespace Z
open PySem PySem.Spec PyProof.Rows L2

/-- how a state may grow where the instances at ow are being made -/
structure Gw (ow : List Addr) (H F : Hp) (cm : List Addr) (H' F' : Hp) (cm' : List Addr) : Prop where
  f : ∀ a o, F a = some o → F' a = some o
  c : cm <+: cm'
  k : ∀ a o, H a = some o → a ∉ cm → a ∉ ow → H' a = some o
  s : ∀ a o, H a = some o → ∃ o', H' a = some o'
  n : ∀ a o, F' a = some o → F a = some o ∨ H a = none ∨ a ∈ cm
  m : ∀ a, a ∈ cm' → a ∈ cm ∨ H a = none
  o : ∀ a, a ∉ cm → ∀ c dx fs, H a = some (.ins c dx fs) → ∃ fs', H' a = some (.ins c dx fs')
theorem Gr.gw {ow : List Addr} {T : Top} {H F H' F' : Hp} {cm cm' : List Addr} {st : Sto} (g : Gr H F cm H' F' cm') (gd : Gd T H' F' cm' st) : Gw ow H F cm H' F' cm' :=
  ⟨g.f, g.c, fun a o e h _ => g.k a o e h, fun a o e => by
    by_cases h : a ∈ cm
    · obtain ⟨n, hn, q⟩ := List.getElem_of_mem (g.c.subset h)
      have hn2 : n < st.ls.length := by rw [← gd.len]; exact hn
      obtain ⟨vs, z, _⟩ := gd.cell n a st.ls[n] (by rw [List.getElem?_eq_getElem hn, q]) (List.getElem?_eq_getElem hn2)
      exact ⟨_, z⟩
    · exact ⟨_, g.k a o e h⟩, g.n, g.m, fun a h c dx fs e => ⟨fs, g.k a _ e h⟩⟩
theorem Gw.gr {H F H' F' : Hp} {cm cm' : List Addr} (g : Gw [] H F cm H' F' cm') : Gr H F cm H' F' cm' := ⟨g.f, g.c, fun a o e h => g.k a o e h (by simp), g.n, g.m⟩
theorem Gw.refl (ow : List Addr) (H F : Hp) (cm : List Addr) : Gw ow H F cm H F cm := ⟨fun _ _ h => h, List.prefix_refl _, fun _ _ h _ _ => h, fun _ o h => ⟨o, h⟩, fun _ _ h => .inl h, fun _ h => .inl h, fun _ _ _ _ fs h => ⟨fs, h⟩⟩
theorem Gw.trans {ow : List Addr} {H F H1 F1 H2 F2 : Hp} {cm cm1 cm2 : List Addr} (a : Gw ow H F cm H1 F1 cm1) (b : Gw ow H1 F1 cm1 H2 F2 cm2) : Gw ow H F cm H2 F2 cm2 := by
  have back : ∀ x, H1 x = none → H x = none := fun x e => by
    cases q : H x with
    | none => rfl
    | some o =>
      obtain ⟨o', z⟩ := a.s x o q
      rw [z] at e
      cases e
  refine ⟨fun x o h => b.f x o (a.f x o h), a.c.trans b.c, fun x o e hx hy => b.k x o (a.k x o e hx hy) (fun hm => ?_) hy, fun x o e => ?_, fun x o e => ?_, fun x e => ?_, fun x hx c dx fs e => ?_⟩
  · rcases a.m x hm with z | z
    · exact hx z
    · rw [e] at z
      cases z
  · obtain ⟨o', z⟩ := a.s x o e
    exact b.s x o' z
  · rcases b.n x o e with z | z | z
    · exact a.n x o z
    · exact .inr (.inl (back x z))
    · rcases a.m x z with y | y
      · exact .inr (.inr y)
      · exact .inr (.inl y)
  · rcases b.m x e with z | z
    · exact a.m x z
    · exact .inr (back x z)
  · obtain ⟨fs1, e1⟩ := a.o x hx c dx fs e
    exact b.o x (fun hm => by
      rcases a.m x hm with z | z
      · exact hx z
      · rw [e] at z
        cases z) c dx fs1 e1

/-- an instance that is being made stands in slot 0 alone, at ow -/
def Ow (ow : List Addr) (σ : L2.St) (δ : Env) : Prop := ∀ i c fs, δ[i]? = some (some (.own c fs)) → i = 0 ∧ ∃ a, a ∈ ow ∧ σ[0]? = some (some (.ref a))
/-- a place between statements -/
structure Nd (T : Top) (ow : List Addr) (σ : L2.St) (δ : Env) (H F : Hp) (cm : List Addr) (st : Sto) : Prop where
  g : Gd T H F cm st
  sl : Sl T H F cm σ δ
  ow : Ow ow σ δ
theorem Nd.up {T : Top} {ow : List Addr} {σ : L2.St} {δ : Env} {H F H' F' : Hp} {cm cm' : List Addr} {st st' : Sto} (n : Nd T ow σ δ H F cm st) (gr : Gr H F cm H' F' cm') (g : Gd T H' F' cm' st') : Nd T ow σ δ H' F' cm' st' := ⟨g, n.sl.up gr, n.ow⟩
theorem Ow.set {ow : List Addr} {σ : L2.St} {δ : Env} (h : Ow ow σ δ) (i : Nat) (v : V) {w : W} (hw : notOwn w = true) (hl : σ.length = δ.length) : Ow ow (σ.set i (some v)) (δ.set i (some w)) := fun j c fs e => by
  by_cases hj : i = j
  · subst hj
    rw [List.getElem?_set] at e
    simp only [if_true] at e
    split at e
    · cases e
      cases hw
    · cases e
  · rw [List.getElem?_set_ne hj] at e
    obtain ⟨h0, a, ha, hs⟩ := h j c fs e
    subst h0
    exact ⟨rfl, a, ha, by rw [List.getElem?_set_ne hj]; exact hs⟩

def PostS (T : Top) (Wx : WX) (D : Ends) (ow : List Addr) (H F : Hp) (cm : List Addr) : SR → Prop
  | .nx δ st => ∀ σ' H' F' cm', Gw ow H F cm H' F' cm' → Nd T ow σ' δ H' F' cm' st → D.nx σ' H'
  | .bk δ st => ∀ σ' H' F' cm', Gw ow H F cm H' F' cm' → Nd T ow σ' δ H' F' cm' st → D.bk σ' H'
  | .ct δ st => ∀ σ' H' F' cm', Gw ow H F cm H' F' cm' → Nd T ow σ' δ H' F' cm' st → D.ct σ' H'
  | .rt w st => ∀ v H' F' cm', Gw ow H F cm H' F' cm' → Gd T H' F' cm' st → RpW T H' F' cm' v w → D.rt v H'
  | .xc c fs δ st => ∀ σ' H' F' cm' d, Gw ow H F cm H' F' cm' → Nd T ow σ' δ H' F' cm' st → ExR T H' F' cm' d c fs → Wx (.ref (T.ca c)) d σ' H'
  | .no => False
theorem PostS.up {T : Top} {Wx : WX} {D : Ends} {ow : List Addr} {H F H1 F1 : Hp} {cm cm1 : List Addr} (g : Gw ow H F cm H1 F1 cm1) : ∀ {r : SR}, PostS T Wx D ow H F cm r → PostS T Wx D ow H1 F1 cm1 r
  | .nx _ _, h => fun σ' H' F' cm' g' => h σ' H' F' cm' (g.trans g')
  | .bk _ _, h => fun σ' H' F' cm' g' => h σ' H' F' cm' (g.trans g')
  | .ct _ _, h => fun σ' H' F' cm' g' => h σ' H' F' cm' (g.trans g')
  | .rt _ _, h => fun v H' F' cm' g' => h v H' F' cm' (g.trans g')
  | .xc _ _ _ _, h => fun σ' H' F' cm' d g' => h σ' H' F' cm' d (g.trans g')
  | .no, h => h

def rS (T : Top) (C : Ctx) (Wx : WX) (s : S) : TS := fun D σ H => ∃ δ st F cm ow, Nd T ow σ δ H F cm st ∧ PostS T Wx D ow H F cm (s.ev C δ st)
def rSs (T : Top) (C : Ctx) (Wx : WX) (s : Ss) : TS := fun D σ H => ∃ δ st F cm ow, Nd T ow σ δ H F cm st ∧ PostS T Wx D ow H F cm (s.ev C δ st)

theorem _root_.L2.PS.mono {X : Cx} {e : Stmt} {t t' : TS} (h : PS X e t) (k : ∀ D σ H, t' D σ H → t D σ H) : PS X e t' := ⟨fun pins s σ H Q I q => h.run pins s σ H Q I (k Q σ H q)⟩
theorem _root_.L2.PSs.mono {X : Cx} {e : List Stmt} {t t' : TS} (h : PSs X e t) (k : ∀ D σ H, t' D σ H → t D σ H) : PSs X e t' := ⟨fun pins s σ H Q I q => h.run pins s σ H Q I (k Q σ H q)⟩

section
variable {T : Top} {C : Ctx} {Wx : WX} {D : Ends} {ow : List Addr} {σ : L2.St} {δ : Env} {H F : Hp} {cm : List Addr} {st : Sto} {e : E}
/-- an expression in a statement -/
theorem sr_e {f : W → Sto → SR} (n : Nd T ow σ δ H F cm st) (h : PostS T Wx D ow H F cm ((e.ev C δ st).sr δ f)) :
    rE T C Wx e σ H fun v H1 => ∃ F1 cm1 w st1, Gr H F cm H1 F1 cm1 ∧ Nd T ow σ δ H1 F1 cm1 st1 ∧ RpW T H1 F1 cm1 v w ∧ PostS T Wx D ow H1 F1 cm1 (f w st1) := by
  refine ⟨δ, st, F, cm, n.g, n.sl, ?_⟩
  cases q : e.ev C δ st with
  | ok w st1 =>
    rw [q] at h
    exact fun v H1 F1 cm1 g gd r => ⟨F1, cm1, w, st1, g, n.up g gd, r, PostS.up (g.gw gd) h⟩
  | exc c fs st1 =>
    rw [q] at h
    exact fun H1 F1 cm1 d g gd r => h σ H1 F1 cm1 d (g.gw gd) (n.up g gd) r
  | no =>
    rw [q] at h
    exact h
theorem sr_es {es : Es} {f : List W → Sto → SR} (n : Nd T ow σ δ H F cm st) (h : PostS T Wx D ow H F cm ((es.ev C δ st).sr δ f)) :
    rEs T C Wx es σ H fun v H1 => ∃ F1 cm1 w st1, Gr H F cm H1 F1 cm1 ∧ Nd T ow σ δ H1 F1 cm1 st1 ∧ RpWs T H1 F1 cm1 v w ∧ PostS T Wx D ow H1 F1 cm1 (f w st1) := by
  refine ⟨δ, st, F, cm, n.g, n.sl, ?_⟩
  cases q : es.ev C δ st with
  | ok w st1 =>
    rw [q] at h
    exact fun v H1 F1 cm1 g gd r => ⟨F1, cm1, w, st1, g, n.up g gd, r, PostS.up (g.gw gd) h⟩
  | exc c fs st1 =>
    rw [q] at h
    exact fun H1 F1 cm1 d g gd r => h σ H1 F1 cm1 d (g.gw gd) (n.up g gd) r
  | no =>
    rw [q] at h
    exact h
theorem sr_tru {f : Bool → Sto → SR} (n : Nd T ow σ δ H F cm st) (h : PostS T Wx D ow H F cm ((e.ev C δ st).sr δ fun w st1 => (tru w st1).sr δ f)) :
    rT T C Wx e σ H fun b H1 => ∃ F1 cm1 st1, Gr H F cm H1 F1 cm1 ∧ Nd T ow σ δ H1 F1 cm1 st1 ∧ PostS T Wx D ow H1 F1 cm1 (f b st1) := by
  refine ⟨δ, st, F, cm, n.g, n.sl, ?_⟩
  cases q : e.ev C δ st with
  | ok w st1 =>
    rw [q] at h
    show Post _ _ _ _ _ _ _ (tru w st1)
    have h : PostS T Wx D ow H F cm ((tru w st1).sr δ f) := h
    cases q2 : tru w st1 with
    | ok b st2 =>
      rw [q2] at h
      intro b' H1 F1 cm1 g gd r
      have r : b' = b := r
      subst r
      exact ⟨F1, cm1, st2, g, n.up g gd, PostS.up (g.gw gd) h⟩
    | exc c fs st2 =>
      rw [q2] at h
      exact fun H1 F1 cm1 d g gd r => h σ H1 F1 cm1 d (g.gw gd) (n.up g gd) r
    | no =>
      rw [q2] at h
      exact h
  | exc c fs st1 =>
    rw [q] at h
    exact fun H1 F1 cm1 d g gd r => h σ H1 F1 cm1 d (g.gw gd) (n.up g gd) r
  | no =>
    rw [q] at h
    exact h
theorem sr_i {it : Z.It} {f : List P → Sto → SR} (n : Nd T ow σ δ H F cm st) (h : PostS T Wx D ow H F cm ((it.ev C δ st).sr δ f)) :
    rI T C Wx it σ H fun J H1 => ∃ F1 cm1 xs st1, Gr H F cm H1 F1 cm1 ∧ Nd T ow σ δ H1 F1 cm1 st1 ∧ JOk T F1 J xs ∧ PostS T Wx D ow H1 F1 cm1 (f xs st1) := by
  refine ⟨δ, st, F, cm, n.g, n.sl, ?_⟩
  cases q : it.ev C δ st with
  | ok w st1 =>
    rw [q] at h
    exact fun v H1 F1 cm1 g gd r => ⟨F1, cm1, w, st1, g, n.up g gd, r, PostS.up (g.gw gd) h⟩
  | exc c fs st1 =>
    rw [q] at h
    exact fun H1 F1 cm1 d g gd r => h σ H1 F1 cm1 d (g.gw gd) (n.up g gd) r
  | no =>
    rw [q] at h
    exact h
/-- read for good, in a statement -/
theorem sr_keep {f : P → Sto → SR} (n : Nd T ow σ δ H F cm st) {v : V} {w : W} (r : RpW T H F cm v w) (h : PostS T Wx D ow H F cm ((keep st w).sr δ f)) :
    ∃ x st' F', Gr H F cm H F' cm ∧ Nd T ow σ δ H F' cm st' ∧ Rp T F' v x ∧ PostS T Wx D ow H F' cm (f x st') := by
  cases e : keep st w with
  | ok x st' =>
    rw [e] at h
    obtain ⟨F', a, b, c⟩ := keep_ok n.g r e
    exact ⟨x, st', F', a, n.up a b, c, PostS.up (a.gw b) h⟩
  | exc c fs st' =>
    cases w with
    | p x => cases e
    | cel n =>
      simp only [keep] at e
      split at e <;> cases e
    | own c fs => cases e
  | no =>
    rw [e] at h
    exact h.elim
end

section
variable {X : Cx} {T : Top} {C : Ctx} {Wx : WX} {pos : Pos} {pe : Expr} {e : E} {ps pb : List Stmt} {p1 : Stmt} {s : S} {ss sb : Ss}
theorem zs_nil : PSs X [] (rSs T C Wx .nil) := pss_nil.mono fun D σ H ⟨δ, st, F, cm, ow, n, h⟩ => by
  rw [Ss.ev] at h
  exact h σ H F cm (Gw.refl _ _ _ _) n
theorem zs_cons (h1 : PS X p1 (rS T C Wx s)) (h2 : PSs X ps (rSs T C Wx ss)) : PSs X (p1 :: ps) (rSs T C Wx (.cons s ss)) := (pss_cons h1 h2).mono fun D σ H ⟨δ, st, F, cm, ow, n, h⟩ => by
  rw [Ss.ev] at h
  refine ⟨δ, st, F, cm, ow, n, ?_⟩
  cases q : s.ev C δ st with
  | nx δ1 st1 =>
    rw [q] at h
    exact fun σ' H' F' cm' g n' => ⟨δ1, st1, F', cm', ow, n', PostS.up g h⟩
  | rt w st1 => rw [q] at h; exact h
  | bk δ1 st1 => rw [q] at h; exact h
  | ct δ1 st1 => rw [q] at h; exact h
  | xc c fs δ1 st1 => rw [q] at h; exact h
  | no => rw [q] at h; exact h
theorem zs_bad : PS X p1 (rS T C Wx .bad) := ps_never.mono fun D σ H ⟨δ, st, F, cm, ow, n, h⟩ => by
  rw [S.ev] at h
  exact h
theorem z_pass : PS X (.Pass pos) (rS T C Wx .pass) := ps_pass.mono fun D σ H ⟨δ, st, F, cm, ow, n, h⟩ => by
  rw [S.ev] at h
  exact h σ H F cm (Gw.refl _ _ _ _) n
theorem z_brk : PS X (.Break pos) (rS T C Wx .brk) := ps_break.mono fun D σ H ⟨δ, st, F, cm, ow, n, h⟩ => by
  rw [S.ev] at h
  exact h σ H F cm (Gw.refl _ _ _ _) n
theorem z_cnt : PS X (.Continue pos) (rS T C Wx .cnt) := ps_continue.mono fun D σ H ⟨δ, st, F, cm, ow, n, h⟩ => by
  rw [S.ev] at h
  exact h σ H F cm (Gw.refl _ _ _ _) n
theorem z_doc {x j pos'} : PS X (.Expr (.Constant (.str x) j pos) pos') (rS T C Wx .doc) := ps_doc.mono fun D σ H ⟨δ, st, F, cm, ow, n, h⟩ => by
  rw [S.ev] at h
  exact h σ H F cm (Gw.refl _ _ _ _) n
theorem z_expr (he : PE X pe (rE T C Wx e)) (hs : swapsWith pe none pos.line X.env = pure false) : PS X (.Expr pe pos) (rS T C Wx (.ex e)) := (ps_expr he hs).mono fun D σ H ⟨δ, st, F, cm, ow, n, h⟩ => by
  rw [S.ev] at h
  exact rE_imp (sr_e n h) fun v H1 ⟨F1, cm1, w, st1, g, n1, r, h1⟩ => h1 σ H1 F1 cm1 (Gw.refl _ _ _ _) n1
theorem z_ret (he : PE X pe (rE T C Wx e)) : PS X (.Return (some pe) pos) (rS T C Wx (.ret e)) := (ps_ret he).mono fun D σ H ⟨δ, st, F, cm, ow, n, h⟩ => by
  rw [S.ev] at h
  exact rE_imp (sr_e n h) fun v H1 ⟨F1, cm1, w, st1, g, n1, r, h1⟩ => h1 v H1 F1 cm1 (Gw.refl _ _ _ _) n1.g r
theorem z_retn : PS X (.Return none pos) (rS T C Wx .retn) := ps_retN.mono fun D σ H ⟨δ, st, F, cm, ow, n, h⟩ => by
  rw [S.ev] at h
  exact h .non H F cm (Gw.refl _ _ _ _) n.g (.p .non)
theorem z_if (ht : PT X pe (rT T C Wx e)) (ha : PSs X ps (rSs T C Wx ss)) (hb : PSs X pb (rSs T C Wx sb)) : PS X (.If pe ps pb pos) (rS T C Wx (.ife e ss sb)) := (ps_if ht ha hb).mono fun D σ H ⟨δ, st, F, cm, ow, n, h⟩ => by
  rw [S.ev] at h
  refine rT_imp (sr_tru n h) fun b H1 ⟨F1, cm1, st1, g, n1, h1⟩ => ?_
  cases b with
  | true => exact ⟨δ, st1, F1, cm1, ow, n1, h1⟩
  | false => exact ⟨δ, st1, F1, cm1, ow, n1, h1⟩
theorem z_while {pb : List Stmt} (hp : PassesOwn (model X.prog X.w) X.A X.env X.xe) (ht : PT X pe (rT T C Wx e)) (hb : PSs X pb (rSs T C Wx sb)) : PS X (.While pe pb [] pos) (rS T C Wx (.whl e sb)) := (ps_while hp ht hb).mono fun D σ H ⟨δ, st, F, cm, ow, n, h⟩ => by
  rw [S.ev] at h
  refine ⟨fun m σ H => ∃ δ st F cm, Nd T ow σ δ H F cm st ∧ PostS T Wx D ow H F cm (whlR (fun δ st => e.ev C δ st) (fun δ st => sb.ev C δ st) m δ st), ⟨C.fuel, δ, st, F, cm, n, h⟩, ?_⟩
  rintro m σ1 H1 ⟨δ1, st1, F1, cm1, n1, h1⟩
  cases m with
  | zero => exact h1.elim
  | succ m =>
    rw [whlR] at h1
    refine rT_imp (sr_tru n1 h1) fun b H2 ⟨F2, cm2, st2, g, n2, h2⟩ => ?_
    cases b with
    | false =>
      rw [if_neg Bool.false_ne_true] at h2 ⊢
      exact h2 σ1 H2 F2 cm2 (Gw.refl _ _ _ _) n2
    | true =>
      rw [if_pos rfl] at h2 ⊢
      refine ⟨fun σ H => ∃ δ st F cm, Nd T ow σ δ H F cm st ∧ PostS T Wx D ow H F cm (whlR (fun δ st => e.ev C δ st) (fun δ st => sb.ev C δ st) m δ st), fun σ' H' w => ⟨m, Nat.lt_succ_self _, w⟩, δ1, st2, F2, cm2, ow, n2, ?_⟩
      cases q : sb.ev C δ1 st2 with
      | nx δ3 st3 =>
        rw [q] at h2
        exact fun σ' H' F' cm' g' n' => ⟨δ3, st3, F', cm', n', PostS.up g' h2⟩
      | ct δ3 st3 =>
        rw [q] at h2
        exact fun σ' H' F' cm' g' n' => ⟨δ3, st3, F', cm', n', PostS.up g' h2⟩
      | bk δ3 st3 => rw [q] at h2; exact h2
      | rt w st3 => rw [q] at h2; exact h2
      | xc c fs δ3 st3 => rw [q] at h2; exact h2
      | no => rw [q] at h2; exact h2
end

mutual
theorem put_own : ∀ {tg : Tg} {w : W} {δ δ' : Env}, tg.put w δ = some δ' → ∀ i c fs, δ'[i]? = some (some (.own c fs)) → δ[i]? = some (some (.own c fs)) ∧ i ∉ tg.slots
  | .n j, w, δ, δ', e, i, c, fs, h => by
    rw [Tg.put] at e
    split at e
    · rename_i hc
      rw [Bool.and_eq_true] at hc
      cases e
      by_cases hj : j = i
      · subst hj
        rw [List.getElem?_set] at h
        simp only [if_true] at h
        split at h
        · cases h
          cases hc.2
        · cases h
      · rw [List.getElem?_set_ne hj] at h
        exact ⟨h, by simpa [Tg.slots] using fun z => hj z.symm⟩
    · cases e
  | .t ts, w, δ, δ', e, i, c, fs, h => by
    cases w with
    | p x =>
      cases x with
      | tup xs =>
        rw [Tg.put] at e
        rw [Tg.slots]
        exact puts_own e i c fs h
      | lst xs =>
        rw [Tg.put] at e
        rw [Tg.slots]
        exact puts_own e i c fs h
      | _ => cases e
    | _ => cases e
theorem puts_own : ∀ {ts : List Tg} {xs : List P} {δ δ' : Env}, Tg.puts ts xs δ = some δ' → ∀ i c fs, δ'[i]? = some (some (.own c fs)) → δ[i]? = some (some (.own c fs)) ∧ i ∉ Tg.slotss ts
  | [], [], δ, δ', e, i, c, fs, h => by
    rw [Tg.puts] at e
    cases e
    exact ⟨h, by simp [Tg.slotss]⟩
  | [], _ :: _, _, _, e, _, _, _, _ => by rw [Tg.puts] at e <;> cases e
  | _ :: _, [], _, _, e, _, _, _, _ => by rw [Tg.puts] at e <;> cases e
  | t :: ts, x :: xs, δ, δ', e, i, c, fs, h => by
    rw [Tg.puts] at e
    split at e
    · rename_i δ1 e1
      obtain ⟨h1, k1⟩ := puts_own e i c fs h
      obtain ⟨h2, k2⟩ := put_own e1 i c fs h1
      exact ⟨h2, by simp [Tg.slotss, k1, k2]⟩
    · cases e
end
theorem Ow.put {ow : List Addr} {σ σ' : L2.St} {δ δ' : Env} {tg : Tg} {w : W} (h : Ow ow σ δ) (e : tg.put w δ = some δ') (s : Same1 tg.slots σ σ') : Ow ow σ' δ' := fun i c fs q => by
  obtain ⟨h1, h2⟩ := put_own e i c fs q
  obtain ⟨h0, a, ha, hs⟩ := h i c fs h1
  subst h0
  exact ⟨rfl, a, ha, by rw [s.2 0 h2]; exact hs⟩
section
variable {X : Cx} {T : Top} {C : Ctx} {Wx : WX} {pos : Pos} {pe : Expr} {e : E}
/-- name = value -/
theorem set_read {i : Nat} {D : Ends} {σ : L2.St} {H : Hp} (h : rS T C Wx (.set (.n i) e) D σ H) : tAsg (rE T C Wx e) (gName i) D σ H := by
  obtain ⟨δ, st, F, cm, ow, n, h⟩ := h
  rw [S.ev] at h
  refine rE_imp (sr_e n h) fun v H1 ⟨F1, cm1, w, st1, g, n1, r, h1⟩ => ?_
  by_cases hc : (i < δ.length && notOwn w) = true
  · have h1 : PostS T Wx D ow H1 F1 cm1 (if (i < δ.length && notOwn w) = true then SR.nx (δ.set i (some w)) st1 else SR.no) := by simpa using h1
    rw [if_pos hc] at h1
    rw [Bool.and_eq_true] at hc
    exact h1 _ H1 F1 cm1 (Gw.refl _ _ _ _) ⟨n1.g, n1.sl.set r i, n1.ow.set i v hc.2 n1.sl.len⟩
  · have h1 : PostS T Wx D ow H1 F1 cm1 (if (i < δ.length && notOwn w) = true then SR.nx (δ.set i (some w)) st1 else SR.no) := by simpa using h1
    rw [if_neg hc] at h1
    exact h1.elim
theorem z_set {i : Nat} {x : Str} {pos' : Pos} (hN : X.N.Nodup) (hi : X.N[i]? = some x) (hx : Loc X.env.scope x) (he : PE X pe (rE T C Wx e)) (hs : swapsWith pe (some (.Name x pos')) pos.line X.env = pure false) (hf : X.fn x = true ∨ X.env.scope.names.lookup x = some .local) :
    PS X (.Assign [.Name x pos'] pe pos) (rS T C Wx (.set (.n i) e)) := (ps_set hN hi hx he hs hf).mono fun _ _ _ h => set_read h
/-- targets = value -/
theorem z_sett {pt : Expr} {ts : List Tg} (he : PE X pe (rE T C Wx e)) (hg : PG X pt (rG T (.t ts))) (hs : swapsWithSole [pt] pe pos.line X.env = pure false) (hw : swappedStores [pt] pe X.env = pure none) (h1 : (assignEach [pt] X.env).map (·.2) = [assign pt X.env]) :
    PS X (.Assign [pt] pe pos) (rS T C Wx (.set (.t ts) e)) := (ps_asg he hg hs hw h1).mono fun D σ H ⟨δ, st, F, cm, ow, n, h⟩ => by
  rw [S.ev] at h
  refine rE_imp (sr_e n h) fun v H1 ⟨F1, cm1, w, st1, g, n1, r, h1⟩ => ?_
  obtain ⟨x, st2, F2, g2, n2, r2, h2⟩ := sr_keep n1 r h1
  split at h2
  · rename_i δ1 e1
    exact ⟨δ, st2, F2, cm1, .p x, δ1, n2.g, n2.sl, .p r2, e1, fun σ' sl' sm => h2 σ' H1 F2 cm1 (Gw.refl _ _ _ _) ⟨n2.g, sl', n2.ow.put e1 sm⟩⟩
  · exact h2.elim
/-- for -/
theorem z_for {pt pi : Expr} {pb : List Stmt} {tz : Tg} {it : Z.It} {sb : Ss} (hp : PassesOwn (model X.prog X.w) X.A X.env X.xe) (hc : X.calm = true) (hi : PI X pt pi (rI T C Wx it)) (hg : PG X pt (rG T tz)) (hb : PSs X pb (rSs T C Wx sb)) (hs : ∀ x, foldedSetIterable pi X.env x = pure x) :
    PS X (.For pt pi pb [] pos) (rS T C Wx (.for_ tz it sb)) := (ps_for hp hc hi hg hb hs).mono fun D σ H ⟨δ, st, F, cm, ow, n, h⟩ => by
  rw [S.ev] at h
  have h0 := sr_i n h
  obtain ⟨δ0, st0, F0, cm0, g0, sl0, h0⟩ := h0
  refine ⟨δ0, st0, F0, cm0, g0, sl0, ?_⟩
  cases q : it.ev C δ0 st0 with
  | exc c fs st1 =>
    rw [q] at h0
    exact h0
  | no =>
    rw [q] at h0
    exact h0
  | ok xs0 st1' =>
    rw [q] at h0
    intro J H1 F1' cm1' g1' gd1' j1'
    obtain ⟨F1, cm1, xs, st1, g1, n1, jk, h1⟩ := h0 J H1 F1' cm1' g1' gd1' j1'
    refine ⟨fun i m σ H => i ≤ xs.length ∧ m = xs.length - i ∧ ∃ δ st F cm, Nd T ow σ δ H F cm st ∧ (∀ a o, F1 a = some o → F a = some o) ∧ PostS T Wx D ow H F cm (forR tz (fun δ st => sb.ev C δ st) (xs.drop i) δ st), ⟨xs.length, Nat.zero_le _, rfl, δ, st1, F1, cm1, n1, fun _ _ z => z, h1⟩, ?_⟩
    rintro i m σ2 H2 ⟨hi, rfl, δ2, st2, F2, cm2, n2, up2, h2⟩
    obtain ⟨j1, j2⟩ := jk i H2 F2 cm2 st2 n2.g up2
    by_cases hlt : i < xs.length
    · right
      have hx : xs[i]? = some xs[i] := List.getElem?_eq_getElem hlt
      obtain ⟨go, yl⟩ := j2 _ hx
      refine ⟨go, ?_⟩
      rw [List.drop_eq_getElem_cons hlt, forR] at h2
      refine ⟨fun σ H => ∃ δ st F cm, Nd T ow σ δ H F cm st ∧ (∀ a o, F1 a = some o → F a = some o) ∧ PostS T Wx D ow H F cm (forR tz (fun δ st => sb.ev C δ st) (xs.drop (i + 1)) δ st), fun σ' H' w => ⟨xs.length - (i + 1), by omega, by omega, rfl, w⟩, fun v H3 y => ?_⟩
      obtain ⟨F3, g3, gd3, rp⟩ := yl v H3 y
      have n3 := n2.up g3 gd3
      have h3 := PostS.up (g3.gw gd3) h2
      split at h3
      · rename_i δ4 e4
        refine ⟨δ2, st2, F3, cm2, .p xs[i], δ4, gd3, n3.sl, .p rp, e4, fun σ4 sl4 sm => ⟨δ4, st2, F3, cm2, ow, ⟨gd3, sl4, n3.ow.put e4 sm⟩, ?_⟩⟩
        cases q : sb.ev C δ4 st2 with
        | nx δ5 st5 =>
          rw [q] at h3
          exact fun σ' H' F' cm' g' n' => ⟨δ5, st5, F', cm', n', fun a o z => g'.f a o (g3.f a o (up2 a o z)), PostS.up g' h3⟩
        | ct δ5 st5 =>
          rw [q] at h3
          exact fun σ' H' F' cm' g' n' => ⟨δ5, st5, F', cm', n', fun a o z => g'.f a o (g3.f a o (up2 a o z)), PostS.up g' h3⟩
        | bk δ5 st5 => rw [q] at h3; exact h3
        | rt w st5 => rw [q] at h3; exact h3
        | xc c fs δ5 st5 => rw [q] at h3; exact h3
        | no => rw [q] at h3; exact h3
      · exact h3.elim
    · left
      have hl : xs.length ≤ i := by omega
      refine ⟨j1 hl, ?_⟩
      rw [List.drop_eq_nil_of_le hl, forR] at h2
      exact h2 σ2 H2 F2 cm2 (Gw.refl _ _ _ _) n2
end
end Z

namespace Z
open PySem PySem.Spec PyProof.Rows L2

section
variable {X : Cx} {T : Top} {C : Ctx} {Wx : WX} {pos : Pos} {pe : Expr} {e : E}
theorem z_setLc {k : Bool} {i : Nat} {y : Str} {py spos : Pos} {elt tg iter : Expr} {ifs : List Expr} {scope : Scope} {own : List (Str × Nat)} {tz : Tg} {it : Z.It} {t e : E} (L : Lg X T C Wx) (hy : X.N[i]? = some y) (hyl : X.env.scope.names.lookup y = some .local)
    (hsw : swapsWith (.ListComp elt [⟨tg, iter, ifs, 0⟩] scope pos) (some (.Name y py)) spos.line X.env = pure true) (hi : PI X tg iter (rI T C Wx it)) (ok : BlkOk X.N X.env.scope scope own) (hvs : ∀ i ∈ tz.slots, i ∈ own.map (·.2))
    (hg : ∀ (s : Shared) (H : Hp) (D : Addr) (cl : List (Str × Addr)) (fp : List Addr), PG (X.blk s H scope (compEnvC scope cl D X.env) fp) tg (rG T tz)) (ht : ∀ (s : Shared) (H : Hp) (D : Addr) (cl : List (Str × Addr)) (fp : List Addr), PTs (X.blk s H scope (compEnvC scope cl D X.env) fp) ifs (rT T C W0 t))
    (he : ∀ (s : Shared) (H : Hp) (D : Addr) (cl : List (Str × Addr)) (fp : List Addr), PE (X.blk s H scope (compEnvC scope cl D X.env) fp) elt (rE T C W0 e)) (hs : ∀ x, foldedSetIterable iter X.env x = pure x) :
    PS X (.Assign [.Name y py] (.ListComp elt [⟨tg, iter, ifs, 0⟩] scope pos) spos) (rS T C Wx (.set (.n i) (.lc k (own.map (·.2)) tz it t e))) :=
  (ps_setLc L.calm L.nd hy hyl hsw hi ok hg ht he hs).mono fun D σ H h => lc_read hvs (set_read h)
theorem z_setLc2 {k : Bool} {i : Nat} {y : Str} {py spos : Pos} {elt tg iter tg1 iter1 : Expr} {ifs ifs1 : List Expr} {scope : Scope} {own : List (Str × Nat)} {vs1 : List Nat} {tz tz1 : Tg} {it it1 : Z.It} {t t1 e : E} (L : Lg X T C Wx) (hy : X.N[i]? = some y) (hyl : X.env.scope.names.lookup y = some .local)
    (hsw : swapsWith (.ListComp elt [⟨tg, iter, ifs, 0⟩, ⟨tg1, iter1, ifs1, 0⟩] scope pos) (some (.Name y py)) spos.line X.env = pure true) (hi : PI X tg iter (rI T C Wx it)) (ok : BlkOk X.N X.env.scope scope own) (hv : ∀ i ∈ vs1, i ∈ own.map (·.2)) (hvs : ∀ i ∈ tz.slots, i ∈ own.map (·.2)) (hvs1 : ∀ i ∈ tz1.slots, i ∈ vs1)
    (hg : ∀ (s : Shared) (H : Hp) (D : Addr) (cl : List (Str × Addr)) (fp : List Addr), PG (X.blk s H scope (compEnvC scope cl D X.env) fp) tg (rG T tz)) (ht : ∀ (s : Shared) (H : Hp) (D : Addr) (cl : List (Str × Addr)) (fp : List Addr), PTs (X.blk s H scope (compEnvC scope cl D X.env) fp) ifs (rT T C W0 t))
    (hi1 : ∀ (s : Shared) (H : Hp) (D : Addr) (cl : List (Str × Addr)) (fp : List Addr), PI (X.blk s H scope (compEnvC scope cl D X.env) fp) tg1 iter1 (rI T C W0 it1))
    (hg1 : ∀ (s : Shared) (H : Hp) (D : Addr) (cl : List (Str × Addr)) (fp : List Addr), PG (X.blk s H scope (compEnvC scope cl D X.env) fp) tg1 (rG T tz1)) (ht1 : ∀ (s : Shared) (H : Hp) (D : Addr) (cl : List (Str × Addr)) (fp : List Addr), PTs (X.blk s H scope (compEnvC scope cl D X.env) fp) ifs1 (rT T C W0 t1))
    (he : ∀ (s : Shared) (H : Hp) (D : Addr) (cl : List (Str × Addr)) (fp : List Addr), PE (X.blk s H scope (compEnvC scope cl D X.env) fp) elt (rE T C W0 e)) (hs : ∀ x, foldedSetIterable iter X.env x = pure x) (hs1 : ∀ env x, foldedSetIterable iter1 env x = pure x) :
    PS X (.Assign [.Name y py] (.ListComp elt [⟨tg, iter, ifs, 0⟩, ⟨tg1, iter1, ifs1, 0⟩] scope pos) spos) (rS T C Wx (.set (.n i) (.lc2 k (own.map (·.2)) vs1 tz it t tz1 it1 t1 e))) :=
  (ps_setLc2 L.calm L.nd hy hyl hsw hi ok hv hg ht hi1 hg1 ht1 he hs hs1).mono fun D σ H h => lc2_read hvs hvs1 (set_read h)

theorem putAll_nd {ow : List Addr} {H F : Hp} {cm : List Addr} {st : Sto} : ∀ {is : List Nat} {ws : List W} {vs : List V} {σ : L2.St} {δ δ' : Env}, Nd T ow σ δ H F cm st → RpWs T H F cm vs ws → putAll is ws δ = some δ' →
    ∃ σ', Nd T ow σ' δ' H F cm st ∧ is.length = vs.length ∧ σ' = (is.zip vs).foldl (fun σ p => σ.set p.1 (some p.2)) σ
  | [], [], _, σ, δ, δ', n, r, e => by
    cases r
    rw [putAll] at e
    cases e
    exact ⟨σ, n, rfl, rfl⟩
  | i :: is, w :: ws, _, σ, δ, δ', n, r, e => by
    cases r with
    | @cons v _ vs _ r rs =>
      rw [putAll] at e
      split at e
      · rename_i hc
        rw [Bool.and_eq_true] at hc
        have n1 : Nd T ow (σ.set i (some v)) (δ.set i (some w)) H F cm st := ⟨n.g, n.sl.set r i, n.ow.set i v hc.2 n.sl.len⟩
        obtain ⟨σ', a, b, c⟩ := putAll_nd n1 rs e
        exact ⟨σ', a, by simp [b], by rw [c]; rfl⟩
      · cases e
  | [], _ :: _, _, _, _, _, _, _, e => by rw [putAll] at e <;> cases e
  | _ :: _, [], _, _, _, _, _, _, e => by rw [putAll] at e <;> cases e
section
variable {is : List Nat} {es : Es} {D : Ends} {σ : L2.St} {H : Hp}
theorem par_read (h : rS T C Wx (.par is es) D σ H) : rEs T C Wx es σ H fun vs H1 => is.length = vs.length ∧ ∃ F1 cm1 st1 ow δ', Gd T H1 F1 cm1 st1 ∧ Nd T ow ((is.zip vs).foldl (fun σ p => σ.set p.1 (some p.2)) σ) δ' H1 F1 cm1 st1 ∧
    PostS T Wx D ow H1 F1 cm1 (.nx δ' st1) := by
  obtain ⟨δ, st, F, cm, ow, n, h⟩ := h
  rw [S.ev] at h
  have h0 := sr_es n h
  obtain ⟨δ0, st0, F0, cm0, g0, sl0, h0⟩ := h0
  refine ⟨δ0, st0, F0, cm0, g0, sl0, ?_⟩
  cases q : es.ev C δ0 st0 with
  | exc c fs st1 => rw [q] at h0; exact h0
  | no => rw [q] at h0; exact h0
  | ok ws0 st1 =>
    rw [q] at h0
    intro vs H1 F1' cm1' g1' gd1' r1'
    obtain ⟨F1, cm1, ws, st2, g1, n1, r1, h1⟩ := h0 vs H1 F1' cm1' g1' gd1' r1'
    split at h1
    · rename_i δ1 e1
      obtain ⟨σ', n2, hl, e2⟩ := putAll_nd n1 r1 e1
      subst e2
      exact ⟨hl, F1, cm1, st2, ow, δ1, n1.g, n2, h1⟩
    · exact h1.elim
theorem rEs_imp {Q Q' : List V → Hp → Prop} (h : rEs T C Wx es σ H Q) (k : ∀ v H1, Q v H1 → Q' v H1) : rEs T C Wx es σ H Q' := by
  obtain ⟨δ, st, F, cm, g, sl, hp⟩ := h
  refine ⟨δ, st, F, cm, g, sl, ?_⟩
  cases e : es.ev C δ st with
  | ok t st1 =>
    rw [e] at hp
    exact fun b H1 F1 cm1 g1 gd1 r1 => k _ _ (hp b H1 F1 cm1 g1 gd1 r1)
  | exc _ _ _ =>
    rw [e] at hp
    exact hp
  | no =>
    rw [e] at hp
    exact hp
end
theorem z_par2 {i j : Nat} {x y : Str} {a b : Expr} {es : Es} {px py pt : Pos} {kt k2 pt2} (L : Lg X T C Wx) (hi : X.N[i]? = some x) (hj : X.N[j]? = some y) (hij : i ≠ j)
    (hx : X.env.scope.names.lookup x = some .local) (hy : X.env.scope.names.lookup y = some .local) (ha : PA X [a, b] (rEs T C Wx es))
    (hw : swappedStores [.Tuple [.Name x px, .Name y py] kt pt] (.Tuple [a, b] k2 pt2) X.env = pure (some [x, y])) (hs : swapsWithSole [.Tuple [.Name x px, .Name y py] kt pt] (.Tuple [a, b] k2 pt2) pos.line X.env = pure false) :
    PS X (.Assign [.Tuple [.Name x px, .Name y py] kt pt] (.Tuple [a, b] k2 pt2) pos) (rS T C Wx (.par [i, j] es)) := (ps_par L.calm L.nd hi hj hij hx hy ha hw hs).mono fun D σ H h =>
  rEs_imp (par_read h) fun vs H1 ⟨hl, F1, cm1, st1, ow, δ', gd, n, h1⟩ => by
    match vs, hl with
    | [v, w], _ => exact ⟨v, w, rfl, h1 _ H1 F1 cm1 (Gw.refl _ _ _ _) n⟩
theorem z_par3 {i j l : Nat} {x y z : Str} {a b c : Expr} {es : Es} {px py pz pt : Pos} {kt k2 pt2} (L : Lg X T C Wx) (hi : X.N[i]? = some x) (hj : X.N[j]? = some y) (hl : X.N[l]? = some z) (hij : i ≠ j) (hil : i ≠ l) (hjl : j ≠ l)
    (hx : X.env.scope.names.lookup x = some .local) (hy : X.env.scope.names.lookup y = some .local) (hz : X.env.scope.names.lookup z = some .local) (ha : PA X [a, b, c] (rEs T C Wx es))
    (hw : swappedStores [.Tuple [.Name x px, .Name y py, .Name z pz] kt pt] (.Tuple [a, b, c] k2 pt2) X.env = pure (some [x, y, z])) (hs : swapsWithSole [.Tuple [.Name x px, .Name y py, .Name z pz] kt pt] (.Tuple [a, b, c] k2 pt2) pos.line X.env = pure false) :
    PS X (.Assign [.Tuple [.Name x px, .Name y py, .Name z pz] kt pt] (.Tuple [a, b, c] k2 pt2) pos) (rS T C Wx (.par [i, j, l] es)) := (ps_par3 L.calm L.nd hi hj hl hij hil hjl hx hy hz ha hw hs).mono fun D σ H h =>
  rEs_imp (par_read h) fun vs H1 ⟨hl, F1, cm1, st1, ow, δ', gd, n, h1⟩ => by
    match vs, hl with
    | [v, w, u], _ => exact ⟨v, w, u, rfl, h1 _ H1 F1 cm1 (Gw.refl _ _ _ _) n⟩
/-- through a pair, from the left -/
def rNs (is : List Nat) : TGs := fun vs σ H Q => is.length = vs.length ∧ Q ((is.zip vs).foldl (fun σ p => σ.set p.1 (some p.2)) σ) H
theorem ns_nil : PGs X [] (rNs []) := pgs_nil.mono fun vs σ H Q ⟨h, q⟩ => by
  match vs, h with
  | [], _ => exact ⟨rfl, q⟩
theorem ns_cons {x : Str} {p : Pos} {i : Nat} {es : List Expr} {is : List Nat} (hN : X.N.Nodup) (hi : X.N[i]? = some x) (hx : Loc X.env.scope x) (hf : X.fn x = true ∨ X.env.scope.names.lookup x = some .local) (h : PGs X es (rNs is)) : PGs X (.Name x p :: es) (rNs (i :: is)) :=
  (pgs_cons (pg_name hN hi hx hf) h (by rw [asg_cons rfl]; rfl)).mono fun vs σ H Q ⟨hl, q⟩ => by
    match vs, hl with
    | v :: vs, hl => exact ⟨v, vs, rfl, by simpa using hl, q⟩
theorem z_parT {ts : List Expr} {pes : List Expr} {is : List Nat} {es : Es} {pt pt2 : Pos} {kt k2} (L : Lg X T C Wx) (hg : PGs X ts (rNs is)) (hn : ts.all notStar = true) (hl : ts.length = is.length) (ha : PA X pes (rEs T C Wx es)) (hz : lim is.length = true)
    (hw : swappedStores [.Tuple ts kt pt] (.Tuple pes k2 pt2) X.env = pure none) (hs : swapsWithSole [.Tuple ts kt pt] (.Tuple pes k2 pt2) pos.line X.env = pure false) (h1 : (assignEach [.Tuple ts kt pt] X.env).map (·.2) = [assign (.Tuple ts kt pt) X.env]) :
    PS X (.Assign [.Tuple ts kt pt] (.Tuple pes k2 pt2) pos) (rS T C Wx (.par is es)) := by
  obtain ⟨l1, l2⟩ := asg_len (env := X.env) hn
  refine (ps_asg (pe_tup ha) (pg_tup L.calm hg (l1.trans hl) l2) hs hw h1).mono fun D σ H h => rEs_imp (par_read h) fun vs H1 ⟨hl, F1, cm1, st1, ow, δ', gd, n, h1⟩ => ?_
  refine ⟨by rw [← hl]; exact lim_ok hz, fun p hp => ⟨p, vs, rfl, SqT.of upd_same, hl.symm, hl, ?_⟩⟩
  exact h1 _ _ F1 cm1 (Gr.gw (Gr.side hp) (gd.side hp)) (n.up (Gr.side hp) (gd.side hp))

theorem Gd.write {H F : Hp} {cm : List Addr} {st : Sto} {n : Nat} {a : Addr} {c : Cell} {vs : List V} {ys : List P} (g : Gd T H F cm st) (e : cm[n]? = some a) (hc : st.ls[n]? = some c) (hf : c.fro = false) (r : Rps T F vs ys) :
    Gd T (upd H a (.lst vs)) F cm { st with ls := st.ls.set n ⟨ys, false⟩ } := by
  obtain ⟨ws, h1, h2, h3⟩ := g.cell n a c e hc
  rw [hf, if_neg Bool.false_ne_true] at h3
  refine ⟨fun b o q => ?_, by simp [g.len], g.nd, fun m b d q1 q2 => ?_⟩
  · have hb : b ≠ a := fun z => by
      subst z
      rw [h3] at q
      cases q
    rw [upd_ne hb]
    exact g.sub _ _ q
  · by_cases hm : n = m
    · subst hm
      rw [e] at q1
      cases q1
      rw [List.getElem?_set_self (List.getElem?_eq_some_iff.mp hc).1] at q2
      cases q2
      exact ⟨vs, upd_same, r, by simpa using h3⟩
    · rw [List.getElem?_set_ne hm] at q2
      obtain ⟨us, e1, e2, e3⟩ := g.cell m b d q1 q2
      have hb : b ≠ a := fun z => by
        subst z
        have l1 := List.getElem?_eq_some_iff.mp e
        exact hm ((List.getElem?_inj l1.1 g.nd).mp (e.trans q1.symm))
      exact ⟨us, by rw [upd_ne hb]; exact e1, e2, e3⟩
theorem Gr.write {H F : Hp} {cm : List Addr} {a : Addr} {o : HO} (e : a ∈ cm) : Gr H F cm (upd H a o) F cm :=
  ⟨fun _ _ h => h, List.prefix_refl _, fun b u q n => by rw [upd_ne (fun z => n (by rw [z]; exact e))]; exact q, fun _ _ h => .inl h, fun _ h => .inl h⟩
/-- a list that may be written, written -/
theorem wrt_run {H F : Hp} {cm : List Addr} {st st' : Sto} {n : Nat} {v : V} {w : W} {f : List P → Option (List P × P)} (g : Gd T H F cm st) (r : RpW T H F cm v (.cel n)) (h : wrt n f st = .ok w st') :
    ∃ a vs xs ys y, v = .ref a ∧ H a = some (.lst vs) ∧ Rps T F vs xs ∧ f xs = some (ys, y) ∧ w = .p y ∧ ∀ ws, Rps T F ws ys → Gr H F cm (upd H a (.lst ws)) F cm ∧ Gd T (upd H a (.lst ws)) F cm st' := by
  cases r with
  | @cel _ a e =>
    unfold wrt at h
    split at h
    · rename_i c hc
      split at h
      · cases h
      · rename_i hf
        split at h
        · rename_i ys y hy
          cases h
          obtain ⟨vs, h1, h2, h3⟩ := g.cell n a c e hc
          exact ⟨a, vs, c.xs, ys, y, rfl, h1, h2, hy, rfl, fun ws r => ⟨Gr.write (List.mem_of_getElem? e), g.write e hc (by simpa using hf) r⟩⟩
        · cases h
    · cases h
theorem wrt_exc {n : Nat} {f : List P → Option (List P × P)} {st st' : Sto} {c : Nat} {fs : List P} : wrt n f st ≠ .exc c fs st' := by
  unfold wrt
  split
  · split
    · exact fun h => nomatch h
    · split
      · exact fun h => nomatch h
      · exact fun h => nomatch h
  · exact fun h => nomatch h
theorem z_seti {po pi : Expr} {o i : E} {p2 : Pos} (he : PE X pe (rE T C Wx e)) (ho : PE X po (rE T C Wx o)) (hi : PE X pi (rE T C Wx i)) (hs : swapsWithSole [.Subscript po pi p2] pe pos.line X.env = pure false) (hw : swappedStores [.Subscript po pi p2] pe X.env = pure none)
    (h1 : (assignEach [.Subscript po pi p2] X.env).map (·.2) = [assign (.Subscript po pi p2) X.env])
    (ha : ∀ v, assign (.Subscript po pi p2) X.env v = (do
      let ov ← holding [v] (eval po X.env)
      let iv ← holding [v, ov] (eval pi X.env)
      standAt p2
      holding [v, ov, iv] (setItem ov iv v)
      release [v, ov, iv] [])) :
    PS X (.Assign [.Subscript po pi p2] pe pos) (rS T C Wx (.seti o i e)) := (ps_asg he (pg_sub ho hi set_list ha) hs hw h1).mono fun D σ H ⟨δ, st, F, cm, ow, n, h⟩ => by
  rw [S.ev] at h
  refine rE_imp (sr_e n h) fun v H1 ⟨F1, cm1, w, st1, g1, n1, r1, h1⟩ => ?_
  obtain ⟨x, st2, F2, g2, n2, r2, h2⟩ := sr_keep n1 r1 h1
  refine rE_imp (sr_e n2 h2) fun ov H3 ⟨F3, cm3, w3, st3, g3, n3, r3, h3⟩ => ?_
  refine rE_imp (sr_e n3 h3) fun iv H4 ⟨F4, cm4, w4, st4, g4, n4, r4, h4⟩ => ?_
  split at h4
  · rename_i m k _
    cases q : wrt m (setAt k x) st4 with
    | ok w5 st5 =>
      rw [q] at h4
      obtain ⟨a, vs, xs, ys, y, rfl, ha, rvs, hf, hw, fin⟩ := wrt_run n4.g (r3.up g4) q
      have ek : iv = .int k := by
        cases r4 with
        | p r => cases r; rfl
      subst ek
      unfold setAt at hf
      split at hf
      · rename_i j hj
        cases hf
        obtain ⟨gr, gd⟩ := fin _ (Rps.put (r2.up fun a o z => g4.f a o (g3.f a o z)) j rvs)
        exact ⟨a, vs, k, j, rfl, rfl, ha, by rw [rvs.len]; exact hj, h4 σ _ F4 cm4 (gr.gw gd) (n4.up gr gd)⟩
      · cases hf
    | exc _ _ _ => exact absurd q wrt_exc
    | no => rw [q] at h4; exact h4.elim
  · exact h4.elim

theorem putF_zip {f : Str} {y : V} : ∀ {ns : List Str} {vs : List V}, ns.Nodup → ns[vs.length]? = some f → putF f y (ns.zip vs) = ns.zip (vs ++ [y])
  | [], vs, _, h => by simp at h
  | n :: ns, [], _, h => by
    simp at h
    subst h
    simp [putF]
  | n :: ns, v :: vs, nd, h => by
    have h' : ns[vs.length]? = some f := by simpa using h
    have hn : n ≠ f := fun z => (List.nodup_cons.mp nd).1 (z ▸ List.mem_of_getElem? h')
    show (if n = f then _ else _) = _
    rw [if_neg hn]
    show _ :: putF f y (ns.zip vs) = _
    rw [putF_zip (List.nodup_cons.mp nd).2 h']
    rfl
theorem z_sown {k i : Nat} {x f : Str} {p p2 : Pos} (L : Lg X T C Wx) (hN : X.N[0]? = some x) (hv : Vis X.env.scope x) (hd : (x == ("__debug__" : Str)) = false) (hcd : (x == ("__classdict__" : Str)) = false) (he : PE X pe (rE T C Wx e))
    (hs : swapsWith pe (some (.Attribute (.Name x p) f p2)) pos.line X.env = pure false) (cf : ClsF T k) (hf : (T.nm k)[i]? = some f) (hz : (T.nm k).length < 1000) :
    PS X (.Assign [.Attribute (.Name x p) f p2] pe pos) (rS T C Wx (.sown k i e)) := (ps_fld (pe_var hN hv hd hcd) he hs).mono fun D σ H ⟨δ, st, F, cm, ow, n, h⟩ => by
  rw [S.ev] at h
  refine rE_imp (sr_e n h) fun v H1 ⟨F1, cm1, w, st1, g1, n1, r1, h1⟩ => ?_
  obtain ⟨y, st2, F2, g2, n2, r2, h2⟩ := sr_keep n1 r1 h1
  split at h2
  · rename_i c fs hδ
    split at h2
    · rename_i hc
      rw [Bool.and_eq_true, beq_iff_eq, beq_iff_eq] at hc
      obtain ⟨hc, hl⟩ := hc
      subst hc
      obtain ⟨v0, hv0, rv0⟩ := n2.sl.at_ 0 _ hδ
      obtain ⟨_, a0, ha0, hs0⟩ := n2.ow 0 c fs hδ
      cases rv0 with
      | @own a dx _ vs _ q1 q2 q3 q4 q5 q6 q7 =>
        rw [hs0] at hv0
        cases hv0
        refine ⟨_, hs0, a0, T.ca c, dx, _, rfl, q1, by rw [L.K]; exact cf.cls, by rw [L.K]; exact cf.noat f (List.mem_of_getElem? hf), ?_, ?_⟩
        · rw [List.length_zip]
          omega
        · have hlv : vs.length = i := by rw [q7.len, hl]
          rw [putF_zip cf.nd (by rw [hlv]; exact hf)]
          have nda : dx ≠ a0 := fun z => by
            subst z
            rw [q1] at q2
            cases q2
          have gd3 : Gd T (upd H1 a0 (.ins (T.ca c) dx ((T.nm c).zip (vs ++ [v])))) F2 cm1 st2 := Gd.put (o := .ins (T.ca c) dx ((T.nm c).zip vs)) ⟨q1, q3, q5⟩ n2.g
          have gw3 : Gw ow H1 F2 cm1 (upd H1 a0 (.ins (T.ca c) dx ((T.nm c).zip (vs ++ [v])))) F2 cm1 := by
            refine ⟨fun _ _ z => z, List.prefix_refl _, fun b o e1 e2 e3 => ?_, fun b o e1 => ?_, fun _ _ z => .inl z, fun _ z => .inl z, fun b _ c' dx' fs' e1 => ?_⟩
            · rw [upd_ne (fun z => e3 (by rw [z]; exact ha0))]
              exact e1
            · by_cases hb : b = a0
              · subst hb
                exact ⟨_, upd_same⟩
              · exact ⟨o, by rw [upd_ne hb]; exact e1⟩
            · by_cases hb : b = a0
              · subst hb
                rw [q1] at e1
                cases e1
                exact ⟨_, upd_same⟩
              · exact ⟨fs', by rw [upd_ne hb]; exact e1⟩
          have hlt : 0 < δ.length := by
            rcases Nat.lt_or_ge 0 δ.length with z | z
            · exact z
            · rw [List.getElem?_eq_none z] at hδ
              cases hδ
          refine h2 σ _ F2 cm1 gw3 ⟨gd3, ⟨by simp [n2.sl.len], fun j u ej => ?_⟩, fun j c' fs' ej => ?_⟩
          · by_cases hj : 0 = j
            · subst hj
              rw [List.getElem?_set_self hlt] at ej
              cases ej
              exact ⟨_, hs0, .own upd_same (by rw [upd_ne nda]; exact q2) q3 q4 q5 q6 (q7.app (.cons r2 .nil))⟩
            · rw [List.getElem?_set_ne hj] at ej
              obtain ⟨u', e1, e2⟩ := n2.sl.at_ j u ej
              refine ⟨u', e1, ?_⟩
              cases e2 with
              | p z => exact .p z
              | cel z => exact .cel z
              | own => exact absurd (n2.ow j _ _ ej).1.symm hj
          · by_cases hj : 0 = j
            · subst hj
              exact ⟨rfl, a0, ha0, hs0⟩
            · rw [List.getElem?_set_ne hj] at ej
              exact n2.ow j c' fs' ej
    · exact h2.elim
  · exact h2.elim
end
end Z

namespace Z
open PySem PySem.Spec PyProof.Rows L2

theorem guards_deeper {A : Around} {env : PySem.Env} (h : A.guards = some []) : (A.deeper env).guards = some [] := h
theorem guards_in1 {A : Around} (h : A.guards = some []) : A.in1.guards = some [] := h
theorem guards_make {A : Around} {c : Addr} {us : List Value} (h : A.guards = some []) : (A.under (.builtin "type.__call__" ⟨.ref c :: us, []⟩)).guards = some [] := by
  first
    | exact h
    | simp [Around.under, Code.guards, Code.isGuard, guardIds, pushGuards, h]

/-- a def's promise, where nothing stands in the way of repr -/
structure FnG (P : Program) (w : World) (K : PySem.W.Frag) (mg : Str → Option Value) (base : Heap) (k : Nat) (f : Addr) (fd : FuncData) (ps : List Str) (sp : Sp) : Prop where
  run : ∀ (A : Around) (outer : List PySem.Env) (s : Shared) (H : Hp) (args : Args) (us : List Value) (vs : List V) (Q : VK) (E : XK), Room k A → A.guards = some [] → Env0 P w K mg base A outer s H → us.length = ps.length → BindsTo s fd args (ps.zip us) → Vals vs us → sp vs H Q E →
    codeAny (model P w) A (.call (.ref f) args) (CR (CX P w) outer P w H s Q E) s

/-- a def by its body -/
theorem fnG_of {P : Program} {w : World} {K : PySem.W.Frag} {mg : Str → Option Value} {base : Heap} {k : Nat} {x qual : Str} {params : Arguments} {body : List Stmt} {scope : Scope} {dvs : List V} {kws : List (Str × V)} {f : Addr} {fd : FuncData} {N ps : List Str} {sp : Sp}
    (F : FunD K x qual params body scope dvs kws f fd) (S : FnScope N ps scope)
    (hbody : ∀ (cdv : Value) (A : Around) (outer : List PySem.Env) (s : Shared) (H : Hp) (vs : List V) (Q : VK) (E : XK), Room k (A.deeper (envOfC qual scope s.heap.objs.size f cdv)) → A.guards = some [] → vs.length = ps.length → sp vs H Q E →
      ∃ t, PSs (cxOf (CX P w) P w K mg base N qual scope f cdv A outer s H E) body t ∧ t { nx := fun _ H' => Q .non H', rt := Q } (L2.start N vs) H) : FnG P w K mg base (k + 1) f fd ps sp := by
  obtain ⟨oc, od, dV, kV, doc, pm, an, cdv, ct, osl, rfl, lk, hcd, _, _⟩ := F.ex
  refine ⟨fun A outer s H args us vs Q E room hg ev hn bd rv promise => ?_⟩
  have lenV : vs.length = ps.length := rv.length.trans hn
  have inK : K.In s.heap := ev.mod.kin.keeps fun b o e => (ev.bs b o e).1
  have roomy : s.heap.NoLimit := ev.mod.nolimit.keeps fun b o e => (ev.bs b o e).1
  have places : ∀ y ∈ ps.zip us, scope.names.lookup y.1 = some .local ∨ (scope.names.lookup y.1 = some .cell ∧ ((cellsFrom (s.heap.objs.size + 1) scope.names []).lookup y.1).isSome = true) := by
    rintro ⟨n, v⟩ hy
    rcases S.par n (List.of_mem_zip hy).1 with q | q
    · exact .inl q
    · exact .inr ⟨q, PySem.W.cellsFrom_some _ _ _ (.inl q)⟩
  have opened := hbody cdv A outer s H vs Q E (room.deeper _) hg lenV promise
  obtain ⟨t, runs, tq⟩ := opened
  refine codeAny_call_function room.depth (inK _ _ lk) rfl S.co S.gen rfl (PySem.W.codeRec_of inK hcd) (bd _ _ _ _ (wpAny_newFunctionEnv_cells S.kind places fun env henv s1 frame => ?_))
  subst henv
  refine ⟨roomy.keeps frame.toInCall.keep, codeAny_func ?_⟩
  have at0 := inv_start (CX := CX P w) (E := E) S room.hd ev lenV rv frame
  refine wpAny_mono (runs.run [] s1 (L2.start N vs) H _ at0 tq) (fun flow s' out => ?_) fun _ _ out => out
  cases flow with
  | next =>
    obtain ⟨σ2, H2, J, q⟩ := out
    exact ⟨.non, H2, J.os, J.bare, J.base, J.hok, rfl, q⟩
  | ret u =>
    obtain ⟨v, σ2, H2, J, rel, q⟩ := out
    exact ⟨v, H2, J.os, J.bare, J.base, J.hok, rel, q⟩
  | brk =>
    obtain ⟨_, _, _, q⟩ := out
    exact q.elim
  | cont =>
    obtain ⟨_, _, _, q⟩ := out
    exact q.elim

def spC (T : Top) (call : Nat → List W → Sto → Res W) (f : Nat) : Sp := fun vs H Q E => ∃ ws st F cm, Gd T H F cm st ∧ RpWs T H F cm vs ws ∧ Post (RpW T) T E Q H F cm (call f ws st)
/-- of an __init__: the new instance first -/
def spN (T : Top) (new : Nat → Nat → List W → Sto → Res (List P)) (c f : Nat) : Sp := fun vs H Q E => ∃ a dx vr ws st F cm, vs = .ref a :: vr ∧ H a = some (.ins (T.ca c) dx []) ∧ H dx = some (.own a) ∧ F a = none ∧ F dx = none ∧ a ∉ cm ∧ dx ∉ cm ∧ Gd T H F cm st ∧ RpWs T H F cm vr ws ∧
  match new c f ws st with
  | .ok fs st' => ∀ H' F' cm' us, Gw [a] H F cm H' F' cm' → Gd T H' F' cm' st' → H' a = some (.ins (T.ca c) dx ((T.nm c).zip us)) → H' dx = some (.own a) → F' a = none → F' dx = none → a ∉ cm' → dx ∉ cm' → Rps T F' us fs → Q .non H'
  | .exc k fs st' => ∀ H' F' cm' d, Gw [a] H F cm H' F' cm' → Gd T H' F' cm' st' → ExR T H' F' cm' d k fs → E (.ref (T.ca k)) d H'
  | .no => False

section
variable {X : Cx} {T : Top} {C : Ctx} {Wx : WX}
/-- the def at f may be called from here -/
def CallS (X : Cx) (T : Top) (C : Ctx) (Wx : WX) (f : Nat) : Prop := ∀ (pins : List (Addr × Obj)) (σ : L2.St) (H : Hp) (s : Shared) (us : List Value) (vs : List V) (Q : VK), Inv X pins σ H s → Vals vs us →
  spC T C.call f vs H Q (WE Wx σ) → wpAny (model X.prog X.w) X.A (call (.ref (T.fa f)) us) (EP X pins σ Q) X.xe s
theorem callS_of {k f : Nat} {fd : FuncData} {ps : List Str} (F : FnG X.prog X.w X.K X.mg X.base k (T.fa f) fd ps (spC T C.call f)) (hr : Room k X.A) (hg : X.A.guards = some []) (hb : Binds X.K fd ps []) (tk : Takes X Wx)
    (hl : ∀ ws st, C.call f ws st ≠ .no → ws.length = ps.length) : CallS X T C Wx f := fun pins σ H s us vs Q I rv q => by
  have q0 := q
  obtain ⟨ws, st, F0, cm, gd, rw0, hp⟩ := q
  have hlen : us.length = ps.length := by
    rw [← rv.length, rw0.len]
    refine hl ws st fun z => ?_
    rw [z] at hp
    exact hp
  have bd := hb s us I.kIn (by rw [List.append_nil]; exact hlen)
  rw [List.append_nil] at bd
  refine wpAny_call (codeAny_mono (F.run X.A X.stack s H ⟨us, []⟩ us vs Q (WE Wx σ) hr hg I.env0 hlen bd rv q0) fun r s' out => ?_)
  cases r with
  | error e => exact passAt tk σ pins H s e s' I out
  | ok flow =>
    cases flow with
    | ret u => exact I.after out
    | _ => exact out.elim
end

section
variable {T : Top} {H F H' F' : Hp} {cm cm' : List Addr} {st st' : Sto}
theorem cut_take (g : Gd T H F cm st) (gr : cm <+: cm') : cm'.take st.ls.length = cm := by
  rw [← g.len]
  exact (List.prefix_iff_eq_take.mp gr).symm
theorem Gd.cut (g : Gd T H F cm st) (k : Nat) : Gd T H F (cm.take k) (st.cut k) := by
  refine ⟨g.sub, by simp [Sto.cut, g.len], g.nd.sublist (List.take_sublist _ _), fun n a c h1 h2 => ?_⟩
  simp only [Sto.cut, List.getElem?_take] at h1 h2
  split at h1
  · rename_i hn
    rw [if_pos hn] at h2
    exact g.cell n a c h1 h2
  · cases h1
theorem Gr.cutb (g0 : Gd T H F cm st) (gr : Gr H F cm H' F' cm') : Gr H F cm H' F' (cm'.take st.ls.length) := by
  rw [cut_take g0 gr.c]
  exact ⟨gr.f, List.prefix_refl _, gr.k, gr.n, fun a h => .inl h⟩
theorem RpW.cutp {v : V} {x : P} {k : Nat} (r : RpW T H F cm v (.p x)) : RpW T H F (cm.take k) v (.p x) := by
  cases r with
  | p r => exact .p r
theorem RpW.cutc {v : V} {m k : Nat} (r : RpW T H F cm v (.cel m)) (h : m < k) : RpW T H F (cm.take k) v (.cel m) := by
  cases r with
  | cel e => exact .cel (by rw [List.getElem?_take, if_pos h]; exact e)
/-- a body's outcome is the call's outcome -/
theorem leave_ok {Q : VK} {E : XK} {rc : Bool} {r : SR} {Wx : WX} (hW : ∀ c d σ H, E c d H → Wx c d σ H) (g0 : Gd T H F cm st) (h : Post (RpW T) T E Q H F cm (leave rc st.ls.length r)) :
    PostS T Wx { nx := fun _ H' => Q .non H', rt := Q } [] H F cm r := by
  cases r with
  | nx δ st1 =>
    intro σ1 H1 F1 cm1 gw n1
    exact h .non H1 F1 (cm1.take st.ls.length) (Gr.cutb g0 gw.gr) (n1.g.cut _) (.p .non)
  | rt w st1 =>
    intro v H1 F1 cm1 gw gd1 rw1
    have gr := gw.gr
    cases w with
    | p x => exact h v H1 F1 (cm1.take st.ls.length) (Gr.cutb g0 gr) (gd1.cut _) rw1.cutp
    | own c fs => exact h.elim
    | cel m =>
      simp only [leave] at h
      split at h
      · rename_i hm
        exact h v H1 F1 (cm1.take st.ls.length) (Gr.cutb g0 gr) (gd1.cut _) (rw1.cutc hm)
      · rename_i hm
        cases rw1 with
        | @cel _ a e =>
          have ct := cut_take g0 gr.c
          have na : a ∉ cm := fun z => by
            obtain ⟨j, hj, ej⟩ := List.getElem_of_mem z
            have hj1 : cm1[j]? = some a := by
              obtain ⟨t, et⟩ := gr.c
              rw [← et, List.getElem?_append_left hj, List.getElem?_eq_getElem hj, ej]
            have : j = m := (List.getElem?_inj (List.getElem?_eq_some_iff.mp hj1).1 gd1.nd).mp (hj1.trans e.symm)
            rw [← g0.len] at hm
            omega
          have Ha : H a = none := by
            rcases gr.m a (List.mem_of_getElem? e) with z | z
            · exact absurd z na
            · exact z
          split at h
          · rename_i c hc
            obtain ⟨vs, h1, h2, h3⟩ := gd1.cell m a c e hc
            have gcut := gd1.cut st.ls.length
            rw [ct] at gcut
            have grc : Gr H F cm H1 F1 cm := by
              have := Gr.cutb g0 gr
              rwa [ct] at this
            split at h
            · split at h
              · exact h.elim
              · rename_i hf
                have hf : c.fro = false := by simpa using hf
                rw [hf, if_neg Bool.false_ne_true] at h3
                have pv : Pv H1 F1 cm a (.lst vs) := ⟨h1, h3, na⟩
                have hk : st.ls.length = (st1.cut st.ls.length).ls.length := by rw [← gcut.len, g0.len]
                refine h (.ref a) H1 F1 (cm ++ [a]) (Gr.giveC Ha grc) (gcut.giveC pv h2) (.cel ?_)
                rw [← g0.len]
                simp
            · cases hf : c.fro with
              | true =>
                rw [hf, if_pos rfl] at h3
                exact h (.ref a) H1 F1 cm grc gcut (.p (.lst h3 h2))
              | false =>
                rw [hf, if_neg Bool.false_ne_true] at h3
                have pv : Pv H1 F1 cm a (.lst vs) := ⟨h1, h3, na⟩
                exact h (.ref a) H1 _ cm (Gr.give pv Ha grc) (gcut.give pv) (.p (.lst upd_same (h2.up (upd_keep h3))))
          · exact h.elim
  | xc c fs δ st1 =>
    intro σ1 H1 F1 cm1 d gw n1 ex
    refine hW _ _ _ _ (h H1 F1 (cm1.take st.ls.length) d (Gr.cutb g0 gw.gr) (n1.g.cut _) ?_)
    rcases ex with ⟨e1, e2, e3⟩ | ⟨dx, vs, e1, e2, e3, e4, e5, e6⟩
    · exact .inl ⟨e1, e2, e3⟩
    · exact .inr ⟨dx, vs, e1, e2, e3, fun z => e4 (List.mem_of_mem_take z), e5, e6⟩
  | bk δ st1 => exact h.elim
  | ct δ st1 => exact h.elim
  | no => exact h.elim
end
end Z

namespace Z
open PySem PySem.Spec PyProof.Rows L2

theorem backTo_plain {env : PySem.Env} {pos : Pos} : ∀ {es : List Expr}, es.all notStar = true → (backTo pos (starEach es env)).any (·.1) = false
  | [], _ => rfl
  | e :: es, h => by
    simp only [List.all_cons, Bool.and_eq_true] at h
    rw [star_cons h.1]
    exact backTo_plain h.2
section
variable {X : Cx} {T : Top} {C : Ctx} {Wx : WX} {p pos apos : Pos} {x m : Str} {f c : Nat} {pe po : Expr} {pes : List Expr} {zs : Es} {o : E}
theorem z_call (hc : CallS X T C Wx f) (hg : Gl X x) (hm : X.mg x = some (.ref (T.fa f))) (hk : PySem.W.keepIn X.K (.ref (T.fa f)) = true) (ha : PA X (pe :: pes) (rEs T C Wx zs)) (hn : (pe :: pes).all notStar = true) (hd : (x == ("__debug__" : Str)) = false) :
    PE X (.Call (.Name x p) (pe :: pes) [] pos) (rE T C Wx (.call f zs)) := mk_e fun pins σ δ s H F cm st Q at0 hp => by
  rw [E.ev] at hp
  have run := run_es (pos := pos) ha at0 hp
  refine wpAny_Call_Name_kw (ld_glob at0.I hg hm ?_ hd)
  simp only [List.all_cons, Bool.and_eq_true] at hn
  exact PySem.W.callWith_K (h₀ := X.base) at0.I.ok.mod.kin hk (thn run fun us s1 ⟨vs, H1, F1, cm1, ws, st1, at1, g1, r1, q1, h1⟩ => ⟨at1.I.kIn, hc pins σ H1 s1 us vs Q at1.I r1 ⟨ws, st1, F1, cm1, at1.g, q1, h1⟩⟩) (star_cons hn.1) (backTo_plain hn.2)
theorem z_call0 (hc : CallS X T C Wx f) (hg : Gl X x) (hm : X.mg x = some (.ref (T.fa f))) (hk : PySem.W.keepIn X.K (.ref (T.fa f)) = true) (hd : (x == ("__debug__" : Str)) = false) :
    PE X (.Call (.Name x p) [] [] pos) (rE T C Wx (.call f .nil)) := mk_e fun pins σ δ s H F cm st Q at0 hp => by
  rw [E.ev, Es.ev] at hp
  refine wpAny_Call_Name_kw (ld_glob at0.I hg hm ?_ hd)
  exact PySem.W.callWith_K0 at0.I.kIn hk (hc pins σ H s [] [] Q at0.I .nil ⟨[], st, F, cm, at0.g, .nil, hp⟩)

theorem zip_none {ns : List Str} : ∀ {vs : List V} {x : Str}, x ∉ ns → (ns.zip vs).lookup x = none := by
  induction ns with
  | nil => intro vs x _; rfl
  | cons n ns ih =>
    intro vs x h
    cases vs with
    | nil => rfl
    | cons v vs =>
      simp only [List.mem_cons, not_or] at h
      have : (x == n) = false := beq_eq_false_iff_ne.mpr h.1
      simp only [List.zip_cons_cons, List.lookup, this]
      exact ih h.2
theorem rp_ins {F : Hp} {v : V} {fs : List P} (r : Rp T F v (.ins c fs)) : ∃ a dx vs, v = .ref a ∧ F a = some (.ins (T.ca c) dx ((T.nm c).zip vs)) ∧ F dx = some (.own a) ∧ vs.length = (T.nm c).length ∧ Rps T F vs fs := by
  cases r with
  | ins q1 q2 q3 q4 => exact ⟨_, _, _, rfl, q1, q2, q3, q4⟩
theorem z_meth {pl : Sem Bool} (ho : PE X po (rE T C Wx o)) (hc : CallS X T C Wx f) (cl : Cls X.K (T.ca c)) (me : Meth X.K (T.ca c) m (T.fa f)) (hm : m ∉ T.nm c) (ha : PA X (pe :: pes) (rEs T C Wx zs)) (hn : (pe :: pes).all notStar = true)
    (ht : eval (.Call (.Attribute po m apos) (pe :: pes) [] pos) X.env = (do
      let ov ← eval po X.env
      standAt apos.atName
      let (f, first) ← holding [ov] (getMethod ov m pl)
      callWith pos f first (backTo pos (starEach (pe :: pes) X.env)) (backToKw pos (keywordEach [] X.env)))) :
    PE X (.Call (.Attribute po m apos) (pe :: pes) [] pos) (rE T C Wx (.meth c f o zs)) := mk_e fun pins σ δ s H F cm st Q at0 hp => by
  rw [E.ev] at hp
  simp only [List.all_cons, Bool.and_eq_true] at hn
  refine PySem.W.methodCall_KW (pl := pl) (thn (run_e ho at0 hp) fun u s1 ⟨v, H1, F1, cm1, w, st1, at1, g1, r1, q1, h1⟩ => ?_) ht
  split at h1
  · rename_i k fs
    split at h1
    · rename_i hk
      have hk : k = c := by simpa using hk
      subst hk
      cases q1 with
      | p q1 =>
        obtain ⟨a, dx, vs, rfl, e1, e2, e3, e4⟩ := rp_ins q1
        obtain rfl : u = Value.ref a := r1
        refine getmeth_ok at1.I (at1.g.sub _ _ e1) cl me (zip_none hm) ?_
        refine PySem.W.callWith_K (first := [.ref a]) (h₀ := X.base) at1.I.ok.mod.kin me.kp (thn (run_es (pos := pos) ha at1 h1) fun us s2 ⟨ws, H2, F2, cm2, zs2, st2, at2, g2, r2, q2, h2⟩ => ⟨at2.I.kIn, ?_⟩) (star_cons hn.1) (backTo_plain hn.2)
        exact hc pins σ H2 s2 (.ref a :: us) (.ref a :: ws) Q at2.I (.cons rfl r2) ⟨_, st2, F2, cm2, at2.g, .cons (.p (q1.up g2.f)) q2, h2⟩
    · exact h1.elim
  · exact h1.elim
theorem z_meth0 {pl : Sem Bool} (ho : PE X po (rE T C Wx o)) (hc : CallS X T C Wx f) (cl : Cls X.K (T.ca c)) (me : Meth X.K (T.ca c) m (T.fa f)) (hm : m ∉ T.nm c)
    (ht : eval (.Call (.Attribute po m apos) [] [] pos) X.env = (do
      let ov ← eval po X.env
      standAt apos.atName
      let (f, first) ← holding [ov] (getMethod ov m pl)
      callWith pos f first (backTo pos (starEach [] X.env)) (backToKw pos (keywordEach [] X.env)))) :
    PE X (.Call (.Attribute po m apos) [] [] pos) (rE T C Wx (.meth c f o .nil)) := mk_e fun pins σ δ s H F cm st Q at0 hp => by
  rw [E.ev] at hp
  refine PySem.W.methodCall_KW (pl := pl) (thn (run_e ho at0 hp) fun u s1 ⟨v, H1, F1, cm1, w, st1, at1, g1, r1, q1, h1⟩ => ?_) ht
  split at h1
  · rename_i k fs
    split at h1
    · rename_i hk
      have hk : k = c := by simpa using hk
      subst hk
      cases q1 with
      | p q1 =>
        obtain ⟨a, dx, vs, rfl, e1, e2, e3, e4⟩ := rp_ins q1
        obtain rfl : u = Value.ref a := r1
        refine getmeth_ok at1.I (at1.g.sub _ _ e1) cl me (zip_none hm) ?_
        rw [Es.ev] at h1
        exact PySem.W.callWith_K0 (first := [.ref a]) at1.I.kIn me.kp (hc pins σ H1 s1 [.ref a] [.ref a] Q at1.I (.cons rfl .nil) ⟨_, st1, F1, cm1, at1.g, .cons (.p q1) .nil, h1⟩)
    · exact h1.elim
  · exact h1.elim

/-- the property x of class c may be read from here -/
def PropS (X : Cx) (T : Top) (C : Ctx) (c : Nat) (x : Str) (f : Nat) : Prop := ∀ (pins : List (Addr × Obj)) (σ : L2.St) (H F : Hp) (cm : List Addr) (st st' : Sto) (s : Shared) (a dx : Addr) (ws : List (Str × V)) (fs : List P) (w : W) (Q : VK) (b : Bool), Inv X pins σ H s → Gd T H F cm st → H a = some (.ins (T.ca c) dx ws) →
  Rp T F (.ref a) (.ins c fs) → C.call f [.p (.ins c fs)] st = .ok w st' → (∀ v H' F' cm', Gr H F cm H' F' cm' → Gd T H' F' cm' st' → RpW T H' F' cm' v w → Q v H') → wpAny (model X.prog X.w) X.A (getAttr (.ref a) x b) (EP X pins σ Q) X.xe s
theorem z_prop (ho : PE X po (rE T C Wx o)) (hp : PropS X T C c x f) (hb : attributeBase po x X.env (eval po X.env) = eval po X.env) : PE X (.Attribute po x pos) (rE T C Wx (.prop c f o)) := mk_e fun pins σ δ s H F cm st Q at0 hq => by
  rw [E.ev] at hq
  refine attr_of hb (thn (run_e ho at0 hq) fun u s1 ⟨v, H1, F1, cm1, w, st1, at1, g1, r1, q1, h1⟩ => ?_)
  split at h1
  · rename_i k fs
    split at h1
    · rename_i hk
      have hk : k = c := by simpa using hk
      subst hk
      cases q1 with
      | p q1 =>
        obtain ⟨a, dx, vs, rfl, e1, e2, e3, e4⟩ := rp_ins q1
        obtain rfl : u = Value.ref a := r1
        cases e : C.call f [.p (.ins k fs)] st1 with
        | ok w2 st2 =>
          rw [e] at h1
          exact hp pins σ H1 F1 cm1 st1 st2 s1 a dx _ fs w2 Q true at1.I at1.g (at1.g.sub _ _ e1) q1 e h1
        | exc c' fs' st2 =>
          rw [e] at h1
          exact h1.elim
        | no =>
          rw [e] at h1
          exact h1.elim
    · exact h1.elim
  · exact h1.elim
theorem propS_of {k : Nat} {pa : Addr} {fd : FuncData} {ps : List Str} (F : FnG X.prog X.w X.K X.mg X.base k (T.fa f) fd ps (spC T C.call f)) (hr : Room (k + 1) X.A) (hg : X.A.guards = some []) (hb : Binds X.K fd ps []) (h1 : ps.length = 1) (cl : Cls X.K (T.ca c)) (pr : PropOf X.K (T.ca c) x pa (T.fa f))
    (tk : Takes X Wx) (hx : ∀ u s, X.xe u s → X.xe u s) : PropS X T C c x f := fun pins σ H F0 cm st st' s a dx ws fs w Q b I gd ea rp e hq => by
  obtain ⟨mA, obj, _, _, _, _⟩ := ins_get I.hok ea
  obtain ⟨od, J, _⟩ := obj.look
  obtain ⟨rest, hrec⟩ := pr.rec_
  have It := I.tok (s.toks + 1)
  have hcl : (PySem.W.clsIn X.K (T.ca c)).isSome = true := by
    obtain ⟨cd, q, _⟩ := PySem.W.any_some cl.hd
    rw [q]
    rfl
  have bd := hb { s with toks := s.toks + 1 } [.ref a] It.kIn (by rw [h1]; rfl)
  rw [List.append_nil] at bd
  refine PySem.W.get_bind I.kIn J (PySem.W.plainGet_of (cl.get x)).1 (PySem.W.findObj_data hcl pr.at_ pr.get pr.tak) (PySem.W.plainGet_of (cl.get x)).2 (wpAny_call (PySem.W.prop_get (s := { s with toks := s.toks + 1 }) I.kIn hrec ?_))
  refine codeAny_mono (F.run X.A.in1 X.stack { s with toks := s.toks + 1 } H ⟨[.ref a], []⟩ [.ref a] [.ref a] Q (fun _ _ _ => False) hr.in1 (guards_in1 hg) It.env0.in1 h1.symm bd (.cons rfl .nil) ⟨[.p (.ins c fs)], st, F0, cm, gd, .cons (.p rp) .nil, by rw [e]; exact hq⟩) fun r s' out => ?_
  cases r with
  | error er =>
    have : XE X (fun _ _ _ _ => False) er s' := XE.of_call (E := fun _ _ _ => False) It (fun _ _ _ z => z) out
    obtain ⟨_, _, _, _, _, _, _, _, _, _, _, _, _, _, _, _, z⟩ := this
    exact z.elim
  | ok flow =>
    cases flow with
    | ret u =>
      obtain ⟨v, H', I3, rv, q3⟩ := It.after out
      show wpAny _ _ (handedOut u) _ _ _
      rw [PySem.W.handedOut_of (handed_of rv)]
      exact wpAny_pure ⟨v, H', I3, rv, q3⟩
    | _ => exact out.elim
end
end Z

namespace Z
open PySem PySem.Spec PyProof.Rows L2

section
variable {X : Cx} {T : Top} {C : Ctx} {Wx : WX} {p pos apos : Pos} {x m : Str} {f c k : Nat} {pe po : Expr} {pes : List Expr} {zs : Es} {o : E}
/-- instances of class c may be made from here, by the __init__ at f -/
def NewS (X : Cx) (T : Top) (C : Ctx) (Wx : WX) (c f k : Nat) : Prop := ∀ (pins : List (Addr × Obj)) (σ : L2.St) (H F : Hp) (cm : List Addr) (st : Sto) (s : Shared) (us : List Value) (vs : List V) (ws : List W) (Q : VK), Inv X pins σ H s → Vals vs us → Gd T H F cm st → RpWs T H F cm vs ws →
  Post (RpW T) T (WE Wx σ) Q H F cm ((C.new c f ws st).bind fun fs st => if fs.length == k then .ok (.p (.ins c fs)) st else .no) → wpAny (model X.prog X.w) X.A (call (.ref (T.ca c)) us) (EP X pins σ Q) X.xe s
theorem z_new (hc : NewS X T C Wx c f k) (hg : Gl X x) (hm : X.mg x = some (.ref (T.ca c))) (hk : PySem.W.keepIn X.K (.ref (T.ca c)) = true) (ha : PA X (pe :: pes) (rEs T C Wx zs)) (hn : (pe :: pes).all notStar = true) (hd : (x == ("__debug__" : Str)) = false) :
    PE X (.Call (.Name x p) (pe :: pes) [] pos) (rE T C Wx (.new c f k zs)) := mk_e fun pins σ δ s H F cm st Q at0 hp => by
  rw [E.ev] at hp
  refine wpAny_Call_Name_kw (ld_glob at0.I hg hm ?_ hd)
  simp only [List.all_cons, Bool.and_eq_true] at hn
  exact PySem.W.callWith_K (h₀ := X.base) at0.I.ok.mod.kin hk (thn (run_es (pos := pos) ha at0 hp) fun us s1 ⟨vs, H1, F1, cm1, ws, st1, at1, g1, r1, q1, h1⟩ => ⟨at1.I.kIn, hc pins σ H1 F1 cm1 st1 s1 us vs ws Q at1.I r1 at1.g q1 h1⟩) (star_cons hn.1) (backTo_plain hn.2)

theorem upd_none {H : Hp} {a b : Addr} {o : HO} (h : upd H a o b = none) : H b = none := by
  by_cases e : b = a
  · subst e
    rw [upd_same] at h
    cases h
  · rwa [upd_ne e] at h
/-- a thing of one's own is handed on -/
theorem Gd.give2 {H F : Hp} {cm : List Addr} {st : Sto} {a dx : Addr} {o1 o2 : HO} (g : Gd T H F cm st) (h1 : H a = some o1) (h2 : H dx = some o2) (f1 : F a = none) (f2 : F dx = none) (c1 : a ∉ cm) (c2 : dx ∉ cm) (ne : dx ≠ a) :
    Gd T H (upd (upd F dx o2) a o1) cm st ∧ (∀ b o, F b = some o → upd (upd F dx o2) a o1 b = some o) := by
  have up1 : ∀ b o, F b = some o → upd F dx o2 b = some o := upd_keep f2
  have up : ∀ b o, F b = some o → upd (upd F dx o2) a o1 b = some o := fun b o e => upd_keep (by rw [upd_ne (Ne.symm ne)]; exact f1) b o (up1 b o e)
  refine ⟨⟨fun b o e => ?_, g.len, g.nd, fun n b c q1 q2 => ?_⟩, up⟩
  · by_cases hb : b = a
    · subst hb
      rw [upd_same] at e
      cases e
      exact h1
    · rw [upd_ne hb] at e
      by_cases hd : b = dx
      · subst hd
        rw [upd_same] at e
        cases e
        exact h2
      · rw [upd_ne hd] at e
        exact g.sub _ _ e
  · obtain ⟨vs, e1, r, e2⟩ := g.cell n b c q1 q2
    have hm := List.mem_of_getElem? q1
    have hb : b ≠ a := fun z => c1 (z ▸ hm)
    have hd : b ≠ dx := fun z => c2 (z ▸ hm)
    refine ⟨vs, e1, r.up up, ?_⟩
    rw [upd_ne hb, upd_ne hd]
    exact e2
theorem newS_of {j : Nat} {fd : FuncData} {ps : List Str} (M : Mk X.K (T.ca c) (T.fa f)) (F : FnG X.prog X.w X.K X.mg X.base j (T.fa f) fd ps (spN T C.new c f)) (hr : Room (j + 1) X.A) (hg : X.A.guards = some []) (hb : Binds X.K fd ps []) (tk : Takes X Wx)
    (hl : ∀ ws st, C.new c f ws st ≠ .no → ws.length + 1 = ps.length) (hnm : (T.nm c).length = k) : NewS X T C Wx c f k := fun pins σ H F0 cm st s us vs ws Q I rv gd rw0 hp => by
  have I2 := Inv.made (C := T.ca c) I
  generalize hx : s.heap.objs.size + 1 = a at I2
  generalize hdx : s.heap.objs.size = dx at I2 hx
  have na : H a = none := I.hok.fresh (by omega)
  have ndx : H dx = none := I.hok.fresh (by omega)
  have ne : dx ≠ a := by omega
  have H1a : upd (upd H dx (.own a)) a (.ins (T.ca c) dx []) a = some (.ins (T.ca c) dx []) := upd_same
  have H1d : upd (upd H dx (.own a)) a (.ins (T.ca c) dx []) dx = some (.own a) := by rw [upd_ne ne, upd_same]
  have gd1 : Gd T (upd H dx (.own a)) F0 cm st := gd.side ndx
  have na1 : upd H dx (.own a) a = none := by rw [upd_ne (Ne.symm ne)]; exact na
  have gd2 : Gd T (upd (upd H dx (.own a)) a (.ins (T.ca c) dx [])) F0 cm st := gd1.side na1
  have gr2 : Gr H F0 cm (upd (upd H dx (.own a)) a (.ins (T.ca c) dx [])) F0 cm := (Gr.side ndx).trans (Gr.side na1)
  have fa : F0 a = none := gd.freshF na
  have fdx : F0 dx = none := gd.freshF ndx
  have ca : a ∉ cm := gd.notin na
  have cdx : dx ∉ cm := gd.notin ndx
  have hnn : C.new c f ws st ≠ .no := fun z => by
    rw [z] at hp
    exact hp
  have hlen : (Value.ref a :: us).length = ps.length := by
    rw [← hl ws st hnn, List.length_cons, ← rv.length, rw0.len]
  have promise : spN T C.new c f (.ref a :: vs) (upd (upd H dx (.own a)) a (.ins (T.ca c) dx [])) (fun v H2 => v = .non ∧ Q (.ref a) H2) (WE Wx σ) := by
    refine ⟨a, dx, vs, ws, st, F0, cm, rfl, H1a, H1d, fa, fdx, ca, cdx, gd2, rw0.up gr2, ?_⟩
    cases e : C.new c f ws st with
    | no => exact hnn e
    | exc k' fs st' =>
      rw [e] at hp
      intro H' F' cm' d gw gd' ex
      refine hp H' F' cm' d ?_ gd' ex
      exact ⟨gw.f, gw.c, fun b o q nb => gw.k b o (gr2.k b o q nb) nb (by simpa using ne_of_none q na), fun b o q => (gw.n b o q).imp id fun z => z.imp (fun z => upd_none (upd_none z)) id, fun b q => (gw.m b q).imp id fun z => upd_none (upd_none z)⟩
    | ok fs st' =>
      rw [e] at hp
      intro H' F' cm' us' gw gd' q1 q2 q3 q4 q5 q6 q7
      have hp : Post (RpW T) T (WE Wx σ) Q H F0 cm (if (fs.length == k) = true then .ok (.p (.ins c fs)) st' else .no) := hp
      by_cases hk : (fs.length == k) = true
      · rw [if_pos hk] at hp
        obtain ⟨g3, up3⟩ := gd'.give2 q1 q2 q3 q4 q5 q6 ne
        refine ⟨rfl, hp (.ref a) H' (upd (upd F' dx (.own a)) a (.ins (T.ca c) dx ((T.nm c).zip us'))) cm' ?_ g3 (.p (.ins upd_same (by rw [upd_ne ne, upd_same]) ?_ (q7.up up3)))⟩
        · refine ⟨fun b o q => up3 b o (gw.f b o q), gw.c, fun b o q nb => gw.k b o (gr2.k b o q nb) nb (by simpa using ne_of_none q na), fun b o q => ?_, fun b q => (gw.m b q).imp id fun z => upd_none (upd_none z)⟩
          by_cases hb : b = a
          · subst hb
            exact .inr (.inl na)
          · rw [upd_ne hb] at q
            by_cases hd : b = dx
            · subst hd
              exact .inr (.inl ndx)
            · rw [upd_ne hd] at q
              exact (gw.n b o q).imp id fun z => z.imp (fun z => upd_none (upd_none z)) id
        · rw [q7.len, hnm]
          exact beq_iff_eq.mp hk
      · rw [if_neg hk] at hp
        exact hp.elim
  have bd := hb _ (Value.ref a :: us) I2.kIn (by rw [List.append_nil]; exact hlen)
  rw [List.append_nil] at bd
  subst hdx
  subst hx
  refine wpAny_call (make_map (f := T.fa f) I.kIn M.makes M.init (beq_iff_eq.mp M.fn) (codeAny_mono (F.run _ X.stack _ _ ⟨Value.ref (s.heap.objs.size + 1) :: us, []⟩ (Value.ref (s.heap.objs.size + 1) :: us) (V.ref (s.heap.objs.size + 1) :: vs) (fun v H2 => v = .non ∧ Q (.ref (s.heap.objs.size + 1)) H2) (WE Wx σ) (hr.make _ us []) (guards_make hg) (I2.env0.make _ us []) hlen bd (.cons rfl rv) promise) fun r s' out => ?_))
  cases r with
  | error e => exact passAt tk σ pins _ _ e s' I2 out
  | ok flow =>
    cases flow with
    | ret u =>
      obtain ⟨v, H', I3, rel, ev, q3⟩ := I2.after out
      subst ev
      exact ⟨rel, ⟨.ref (s.heap.objs.size + 1), H', I3, rfl, q3⟩⟩
    | _ => exact out.elim

def LenS (X : Cx) (T : Top) (C : Ctx) (Wx : WX) (c f : Nat) : Prop := ∀ (pins : List (Addr × Obj)) (σ : L2.St) (H F : Hp) (cm : List Addr) (st : Sto) (s : Shared) (v : V) (u : Value) (fs : List P) (Q : VK), Inv X pins σ H s → Gd T H F cm st → RelV v u → Rp T F v (.ins c fs) →
  Post (RpW T) T (WE Wx σ) Q H F cm ((C.call f [.p (.ins c fs)] st).bind (dunR .len)) → wpAny (model X.prog X.w) X.A (call (.builtin "len") [u]) (EP X pins σ Q) X.xe s
theorem lenS_of {j : Nat} {fd : FuncData} {ps : List Str} (F : FnG X.prog X.w X.K X.mg X.base j (T.fa f) fd ps (spC T C.call f)) (hr : Room (j + 1) X.A) (hg : X.A.guards = some []) (hb : Binds X.K fd ps []) (h1 : ps.length = 1) (tk : Takes X Wx)
    (hs : PySem.W.findIn X.K (.ref (T.ca c)) "__len__" = some (some (.ref (T.fa f)))) (hf : PySem.W.isFn X.K (.ref (T.fa f)) = true) : LenS X T C Wx c f := fun pins σ H F0 cm st s v u fs Q I gd rv rp hp => by
  obtain ⟨a, dx, vs, rfl, e1, e2, e3, e4⟩ := rp_ins rp
  obtain rfl : u = Value.ref a := rv
  obtain ⟨mA, obj, _, _, _, _⟩ := ins_get I.hok (gd.sub _ _ e1)
  obtain ⟨od, J, _⟩ := obj.look
  obtain ⟨mm, hns, _⟩ := I.loc
  have fr : PyProof.Rows.Fr X.base X.env.locals s.heap mm := ⟨hns, I.bk, Nat.le_trans I.ok.bsz I.ok.above⟩
  have bd := hb s [.ref a] I.kIn (by rw [h1]; rfl)
  rw [List.append_nil] at bd
  refine PySem.W.len_K fr I.ok.mod.kin J hs hf (wpAny_call (codeAny_mono (F.run X.A.in1 X.stack s H ⟨[.ref a], []⟩ [.ref a] [.ref a] (fun v H' => ∃ n : Int, v = .int n ∧ 0 ≤ n ∧ n < 2 ^ 62 ∧ Q (.int n) H') (WE Wx σ) hr.in1 (guards_in1 hg) I.env0.in1 h1.symm bd (.cons rfl .nil) ?_) fun r s' out => ?_))
  · refine ⟨[.p (.ins c fs)], st, F0, cm, gd, .cons (.p rp) .nil, ?_⟩
    cases e : C.call f [.p (.ins c fs)] st with
    | no =>
      rw [e] at hp
      exact hp
    | exc k' fs' st' =>
      rw [e] at hp
      exact hp
    | ok w st' =>
      rw [e] at hp
      have hp : Post (RpW T) T (WE Wx σ) Q H F0 cm (dunR .len w st') := hp
      intro v' H' F' cm' gr gd' rw'
      cases w with
      | p y =>
        cases y with
        | int n =>
          cases rw' with
          | p r =>
            cases r
            simp only [dunR] at hp
            split at hp
            · rename_i hz
              rw [Bool.and_eq_true] at hz
              exact ⟨n, rfl, of_decide_eq_true hz.1, (small62_ok hz.2).2, hp _ H' F' cm' gr gd' (.p (.int n))⟩
            · exact hp.elim
        | _ => exact hp.elim
      | _ => exact hp.elim
  · cases r with
    | error e => exact passAt tk σ pins _ _ e s' I out
    | ok flow =>
      cases flow with
      | ret u =>
        obtain ⟨v, H', I3, rel, n, ev, n0, n1, q3⟩ := I.after out
        subst ev
        obtain ⟨t, rfl⟩ := rel
        refine ⟨⟨n0, by omega⟩, .int n, H', I3.tok _, ⟨_, rfl⟩, q3⟩
      | _ => exact out.elim
end
end Z

namespace Z
open PySem PySem.Spec PyProof.Rows L2

section
variable {X : Cx} {T : Top} {C : Ctx} {Wx : WX} {p pos apos : Pos} {x m : Str} {f c : Nat} {pe po : Expr} {pes : List Expr} {es : Es} {o e : E} {b : Bi} {k : Bool}

def BiS (X : Cx) (T : Top) (C : Ctx) (Wx : WX) (b : Bi) : Prop := ∀ (k : Bool) (pins : List (Addr × Obj)) (σ : L2.St) (H F : Hp) (cm : List Addr) (st : Sto) (s : Shared) (us : List Value) (vs : List V) (ws : List W) (Q : VK), Inv X pins σ H s → Vals vs us → Gd T H F cm st → RpWs T H F cm vs ws →
  Post (RpW T) T (WE Wx σ) Q H F cm (biW C b k ws st) → wpAny (model X.prog X.w) X.A (call (biV b) us) (EP X pins σ Q) X.xe s
/-- the built-in functions that are carried here -/
def soft : Bi → Bool
  | .repr => false
  | .bool => false
  | .setl => false
  | _ => true
theorem bil_ok (L : Lg X T C Wx) (hs : soft b = true) {pins : List (Addr × Obj)} {σ : L2.St} {H F : Hp} {cm : List Addr} {st : Sto} {s : Shared} {us : List Value} {vs : List V} {xs ys : List P} {Q : VK} (I : Inv X pins σ H s) (r : Vals vs us) (g : Gd T H F cm st) (rx : Rvs T H F vs xs) (h : biL b xs = some ys)
    (hp : Post (RpW T) T (WE Wx σ) Q H F cm (mkL k ys st)) : wpAny (model X.prog X.w) X.A (call (biV b) us) (EP X pins σ Q) X.xe s := by
  unfold biL at h
  split at h
  · cases h
    obtain ⟨v, rfl, rv⟩ := rx.one
    obtain ⟨a, ws, rfl, ha, ra⟩ := rv.lst g
    exact call_list_of pins s σ H _ us _ I r ⟨a, ws, rfl, .inl (SqL.of ha), mkL_run g ra hp⟩
  · cases h
    obtain ⟨v, rfl, rv⟩ := rx.one
    obtain ⟨a, ws, rfl, ha, ra⟩ := rv.tup
    exact call_list_of pins s σ H _ us _ I r ⟨a, ws, rfl, .inr (by rw [L.K]; exact sqT_up g.sub ha), mkL_run g ra hp⟩
  · unfold sortP at h
    split at h
    · rename_i hz
      cases h
      obtain ⟨v, rfl, rv⟩ := rx.one
      cases r with
      | cons r1 r2 =>
        cases r2
        exact sorted_ok L.K L.un I g rv r1 hz fun p vs hp' rvs => mkL_run g rvs hp p hp'
    · cases h
  · cases hs
  · cases h
theorem biS_of (L : Lg X T C Wx) (hs : soft b = true) (hd : ∀ d c f, dunOf b = some d → C.dun c d = some f → b = .len ∧ LenS X T C Wx c f) : BiS X T C Wx b := fun k pins σ H F cm st s us vs ws Q I r g rw0 hp => by
  have plain : Post (RpW T) T (WE Wx σ) Q H F cm (biG b k ws st) → wpAny (model X.prog X.w) X.A (call (biV b) us) (EP X pins σ Q) X.xe s := fun hp => by
    unfold biG at hp
    split at hp
    · rename_i xs e1
      have rx := peeks_rv g rw0 e1
      split at hp
      · rename_i y e2
        have hh : hard b = false := by cases b <;> first | rfl | cases hs
        exact thn (bip_ok L.K L.calm hh I g rx r e2) fun u s' q => out_ep q hp
      · split at hp
        · rename_i ys e3
          exact bil_ok (k := k) L hs I r g rx e3 hp
        · exact hp.elim
    · exact hp.elim
  unfold biW at hp
  split at hp
  · rename_i c fs
    split at hp
    · rename_i d hdd
      split at hp
      · rename_i f hf
        obtain ⟨rfl, hl⟩ := hd d c f hdd hf
        cases rw0 with
        | cons r1 r2 =>
          cases r2
          cases r with
          | cons q1 q2 =>
            cases q2
            cases r1 with
            | p r1 => exact hl pins σ H F cm st s _ _ fs Q I g q1 r1 hp
      · exact hp.elim
    · exact plain hp
  · exact plain hp
def biNm : Bi → Str
  | .len => "len"
  | .abs => "abs"
  | .int => "int"
  | .str => "str"
  | .bool => "bool"
  | .repr => "repr"
  | .min1 => "min"
  | .max1 => "max"
  | .min2 => "min"
  | .max2 => "max"
  | .sum => "sum"
  | .all => "all"
  | .any => "any"
  | .tuple => "tuple"
  | .list => "list"
  | .sorted => "sorted"
  | .setl => "sorted"
theorem biNm_ok (hs : soft b = true) : bootBuiltins (biNm b) = some (biV b) ∧ biNm b ≠ "__name__" ∧ (biNm b == ("__debug__" : Str)) = false := by
  cases b <;> first | (cases hs; done) | exact ⟨by decide +kernel, by decide +kernel, by decide +kernel⟩
theorem biV_kind (b : Bi) : (∃ i, biV b = .builtin i) ∨ ∃ i, biV b = .type i := by
  cases b <;> first | exact .inl ⟨_, rfl⟩ | exact .inr ⟨_, rfl⟩
theorem callWith_bi {v : Value} {s : Shared} {Q : Value → Shared → Prop} {E : Value → Shared → Prop} (hv : (∃ i, v = .builtin i) ∨ ∃ i, v = .type i) (run : wpAny (model X.prog X.w) X.A (spliced (backTo pos (starEach (pe :: pes) X.env))) (fun us s1 => wpAny (model X.prog X.w) X.A (call v us) Q E s1) E s)
    (hn : (pe :: pes).all notStar = true) : wpAny (model X.prog X.w) X.A (callWith pos v [] (backTo pos (starEach (pe :: pes) X.env)) []) Q E s := by
  simp only [List.all_cons, Bool.and_eq_true] at hn
  rcases hv with ⟨i, rfl⟩ | ⟨i, rfl⟩
  · exact PyProof.Rows.callWith_builtin1 run (star_cons hn.1) (backTo_plain hn.2)
  · exact PyProof.Rows.callWith_type1 run (star_cons hn.1) (backTo_plain hn.2)
theorem z_bi (hb : BiS X T C Wx b) (hs : soft b = true) (hg : Gl X (biNm b)) (hm : X.mg (biNm b) = none) (ha : PA X (pe :: pes) (rEs T C Wx es)) (hn : (pe :: pes).all notStar = true) : PE X (.Call (.Name (biNm b) p) (pe :: pes) [] pos) (rE T C Wx (.bi b k es)) := mk_e fun pins σ δ s H F cm st Q at0 hp => by
  rw [E.ev] at hp
  obtain ⟨b1, b2, b3⟩ := biNm_ok hs
  exact wpAny_Call_Name_kw (ld_blt at0.I hg hm b1 (callWith_bi (biV_kind b) (thn (run_es (pos := pos) ha at0 hp) fun us s1 ⟨vs, H1, F1, cm1, ws, st1, at1, g1, r1, q1, h1⟩ => hb k pins σ H1 F1 cm1 st1 s1 us vs ws Q at1.I r1 at1.g q1 h1) hn) b2 b3)

theorem kind_ty {T : Top} {f : Nat → Bool} {x : P} (h : kindP f x = true) : tyP T x ≠ none := by
  cases x <;> first | (cases h; done) | exact fun z => nomatch z
theorem run_isi {t : Ty} (L : Lg X T C Wx) (hI : ∀ c, C.inst c = true → IsiF T c) (ok : IsiOk T C t) {u2 : Value} {tn : Expr} {te : TE} (ha : PE X pe (rE T C Wx e)) (ht : PE X tn (tC (isiV T t))) (hg : Gl X "isinstance") (hm : X.mg "isinstance" = none) (hn : notStar pe = true) (hn2 : notStar tn = true) :
    PE X (.Call (.Name "isinstance" p) [pe, tn] [] pos) (rE T C Wx (.isi t e)) := mk_e fun pins σ δ s H F cm st Q at0 hp => by
  rw [E.ev] at hp
  have all2 : [pe, tn].all notStar = true := by simp [hn, hn2]
  have arr : PA X [pe, tn] (tCons (rE T C Wx e) (tCons (tC (isiV T t)) tNil)) := pa_cons ha (pa_cons ht pa_nil (star_cons hn2)) (star_cons hn)
  refine wpAny_Call_Name_kw (ld_blt at0.I hg hm PyProof.Rows.boot_isinstance (callWith_bi (.inl ⟨_, rfl⟩) ?_ all2))
  refine thn (arr.run pos pins s σ H (fun vs H1 => ∃ v F1 cm1 w st1, vs = [v, isiV T t] ∧ Gd T H1 F1 cm1 st1 ∧ RpW T H1 F1 cm1 v w ∧ Post (RpW T) T (fun c d H' => Wx c d σ H') Q H1 F1 cm1 (Res.one (fun x => if kindP C.inst x then some (.bl (isP C.sub t x)) else none) w st1)) at0.I ?_) fun us s1 ⟨vs, H1, I1, r1, v, F1, cm1, w, st1, e1, gd1, rw1, h1⟩ => ?_
  · exact rE_imp (rE_bind at0.g at0.sl hp) fun v H1 ⟨F1, cm1, w, st1, g1, gd1, sl1, rw1, h1⟩ => ⟨v, F1, cm1, w, st1, rfl, gd1, rw1, h1⟩
  · subst e1
    cases r1 with
    | cons q1 q2 =>
      cases q2 with
      | cons q2 q3 =>
        cases q3
        obtain ⟨x, z, e2, e3, h2⟩ := one_run h1
        split at e3
        · rename_i hk
          cases e3
          exact thn (isi_ok L.K (fun c ⟨fs, ec⟩ => hI c (by subst ec; exact hk)) ok (fun c fs ec => by subst ec; exact hk) I1 gd1 (peek_rv gd1 rw1 e2) q1 q2 (kind_ty hk)) fun u s' o => out_ep o h2
        · cases e3
end
end Z

namespace Z
open PySem PySem.Spec PyProof.Rows L2

/-- what is no call of super -/
def notSuper : Expr → Bool
  | .Call (.Name id _) [] [] _ => !(id == ("super" : Str))
  | _ => true
theorem base_ok {o : Expr} {f : Str} {env : PySem.Env} {x : Sem Value} (h : notSuper o = true) : attributeBase o f env x = x := by
  unfold attributeBase
  split
  · rename_i id p1 pos
    have h2 : (id == ("super" : Str)) = false := by simpa [notSuper] using h
    have h3 : (id != ("super" : Str)) = true := by simp [bne, h2]
    rw [h3]
    simp
  · rfl
section
variable {X : Cx} {T : Top} {C : Ctx} {Wx : WX} {p pos apos : Pos} {x m : Str} {f c : Nat} {pe po : Expr} {pes : List Expr} {es : Es} {o e : E} {k : Bool}
theorem few_ok {pos : Pos} {env : PySem.Env} (hn : notStar pe = true) : ((backTo pos (starEach [pe] env)).all (fun x => !x.1) && (backToKw pos (keywordEach [] env)).all (fun x => x.1.isSome)
      && decide (([pe]).length + ([] : List Keyword).length + (if ([] : List Keyword).isEmpty then 0 else 1) < 30)) = true := by
  rw [star_cons hn]
  rfl
theorem txts_vals {F : Hp} {vs : List V} {xs : List P} {ss : List Str} (r : Rps T F vs xs) (h : txts xs = some ss) : vs = ss.map V.str := txts_rp r h
/-- s.join(xs) -/
theorem z_join (L : Lg X T C Wx) (ho : PE X po (rE T C Wx o)) (ha : PA X [pe] (rEs T C Wx es)) (hn : notStar pe = true) (hs : notSuper po = true) (hl : (apos.endLine == pos.line) = true) : PE X (.Call (.Attribute po "join" apos) [pe] [] pos) (rE T C Wx (.sm .join k o es)) :=
  (pe_bm PySem.F.plainAttrs_str PySem.F.slot_str_join PySem.F.type_str_join mt_join ho ha (base_ok hs) (few_ok hn) hl (star_cons hn) (backTo_plain (by rfl))).mono fun σ H Q ⟨δ, st, F, cm, g, sl, hp⟩ => by
    rw [E.ev] at hp
    refine rE_imp (rE_bind g sl hp) fun v H1 ⟨F1, cm1, w, st1, g1, gd1, sl1, r1, h1⟩ => ?_
    split at h1
    · rename_i s
      have ev : v = .str s := by
        cases r1 with
        | p r => cases r; rfl
      subst ev
      refine ⟨rfl, δ, st1, F1, cm1, gd1, sl1, ?_⟩
      have h2 := Post.bind (rel := RpWs T) h1
      cases e1 : es.ev C δ st1 with
      | ok ws st2 =>
        rw [e1] at h2
        intro vs H2 F2 cm2 g2 gd2 r2
        obtain ⟨F3, cm3, ws3, st3, g3, gd3, r3, h3⟩ := h2 vs H2 F2 cm2 g2 gd2 r2
        split at h3
        · rename_i xs e2
          have rx := peeks_rv gd3 r3 e2
          split at h3
          · rename_i y e3
            unfold smP at e3
            split at e3
            · rename_i zs
              split at e3
              · rename_i ss e4
                unfold joinS at e3
                split at e3
                · rename_i hz
                  cases e3
                  obtain ⟨v0, rfl, rv⟩ := rx.one
                  obtain ⟨a, us, rfl, hh, ru⟩ := rv.lst gd3
                  have eu := txts_rp ru e4
                  subst eu
                  refine ⟨_, a, ss, rfl, rfl, .inl (SqL.of hh), by simpa [lim] using hz, ?_⟩
                  rw [TL.join_eq]
                  exact h3 _ _ F3 cm3 (Gr.refl _ _ _) gd3 (.p (.str _))
                · cases e3
              · cases e3
            · rename_i zs
              split at e3
              · rename_i ss e4
                unfold joinS at e3
                split at e3
                · rename_i hz
                  cases e3
                  obtain ⟨v0, rfl, rv⟩ := rx.one
                  obtain ⟨a, us, rfl, hh, ru⟩ := rv.tup
                  have eu := txts_rp ru e4
                  subst eu
                  refine ⟨_, a, ss, rfl, rfl, .inr (by rw [L.K]; exact sqT_up gd3.sub hh), by simpa [lim] using hz, ?_⟩
                  rw [TL.join_eq]
                  exact h3 _ _ F3 cm3 (Gr.refl _ _ _) gd3 (.p (.str _))
                · cases e3
              · cases e3
            · cases e3
          · rename_i e3
            split at h3
            · rename_i ys e4
              unfold smL at e4
              cases e4
            · exact h3.elim
        · exact h3.elim
      | exc _ _ _ => rw [e1] at h2; exact h2
      | no => rw [e1] at h2; exact h2
    · exact h1.elim

theorem cel_list {H F : Hp} {cm : List Addr} {st : Sto} {v : V} {n : Nat} (g : Gd T H F cm st) (r : RpW T H F cm v (.cel n)) (hn : n < st.ls.length) : tyV X.K "list" v H := by
  cases r with
  | @cel _ a e =>
    obtain ⟨vs, h1, _⟩ := g.cell n a _ e (List.getElem?_eq_getElem hn)
    exact .inl ⟨rfl, vs, SqL.of h1⟩
theorem lm_read {σ : L2.St} {H : Hp} {Q : VK} {m : Lm} {r : V → List V → Hp → VK → Prop} (h : rE T C Wx (.lm m o es) σ H Q)
    (fin : ∀ (H F : Hp) (cm : List Addr) (st st' : Sto) (a : Addr) (vs us : List V) (xs ys zs : List P) (y : P) (Q : VK), Gd T H F cm st → Rps T F us xs → H a = some (.lst vs) → Rps T F vs ys → lmF m xs ys = some (zs, y) →
      (∀ ws, Rps T F ws zs → ∀ v, Rp T F v y → Q v (upd H a (.lst ws))) → r (.ref a) us H Q) : tBM X.K "list" r (rE T C Wx o) (rEs T C Wx es) σ H Q := by
  obtain ⟨δ, st, F, cm, g, sl, hp⟩ := h
  rw [E.ev] at hp
  refine rE_imp (rE_bind g sl hp) fun v H1 ⟨F1, cm1, w, st1, g1, gd1, sl1, r1, h1⟩ => ?_
  split at h1
  · rename_i n
    split at h1
    · rename_i hn
      refine ⟨cel_list gd1 r1 hn, δ, st1, F1, cm1, gd1, sl1, ?_⟩
      have h2 := Post.bind (rel := RpWs T) h1
      cases e1 : es.ev C δ st1 with
      | ok ws st2 =>
        rw [e1] at h2
        intro vs H2 F2 cm2 g2 gd2 r2
        obtain ⟨F3, cm3, ws3, st3, g3, gd3, r3, h3⟩ := h2 vs H2 F2 cm2 g2 gd2 r2
        obtain ⟨xs, st4, F4, g4, gd4, r4, h4⟩ := keeps_run gd3 r3 h3
        have rc := (r1.up g3).up g4
        cases e5 : wrt n (lmF m xs) st4 with
        | ok w5 st5 =>
          rw [e5] at h4
          obtain ⟨a, us, ys, zs, y, rfl, ha, rus, hf, rfl, done⟩ := wrt_run gd4 rc e5
          exact fin H2 F4 cm3 st4 st5 a us vs xs ys zs y Q gd4 r4 ha rus hf fun ws rws v rv => h4 v _ F4 cm3 (done ws rws).1 (done ws rws).2 (.p rv)
        | exc _ _ _ => exact absurd e5 wrt_exc
        | no => rw [e5] at h4; exact h4.elim
      | exc _ _ _ => rw [e1] at h2; exact h2
      | no => rw [e1] at h2; exact h2
    · exact h1.elim
  · exact h1.elim
theorem rps_one {F : Hp} {vs : List V} {x : P} (r : Rps T F vs [x]) : ∃ v, vs = [v] ∧ Rp T F v x := by
  cases r with
  | cons a b =>
    cases b
    exact ⟨_, rfl, a⟩
theorem z_append (ho : PE X po (rE T C Wx o)) (ha : PA X [pe] (rEs T C Wx es)) (hn : notStar pe = true) (hs : notSuper po = true) (hl : (apos.endLine == pos.line) = true) : PE X (.Call (.Attribute po "append" apos) [pe] [] pos) (rE T C Wx (.lm .append o es)) :=
  (pe_bm PySem.F.plainAttrs_list PySem.F.slot_list_append PySem.F.type_list_append mt_append ho ha (base_ok hs) (few_ok hn) hl (star_cons hn) (backTo_plain (by rfl))).mono fun σ H Q h => lm_read h fun H F cm st st' a vs us xs ys zs y Q gd rus ha rvs hf hq => by
    unfold lmF at hf
    split at hf
    · split at hf
      · rename_i hz
        cases hf
        obtain ⟨u, rfl, ru⟩ := rps_one rus
        refine ⟨a, vs, u, rfl, rfl, ha, ?_, hq _ (rvs.app (.cons ru .nil)) _ .non⟩
        have := lim_ok hz
        rw [rvs.len]
        omega
      · cases hf
    all_goals first | (rename_i h; cases h; done) | (cases hf; done) | skip
theorem z_extend (ho : PE X po (rE T C Wx o)) (ha : PA X [pe] (rEs T C Wx es)) (hn : notStar pe = true) (hs : notSuper po = true) (hl : (apos.endLine == pos.line) = true) : PE X (.Call (.Attribute po "extend" apos) [pe] [] pos) (rE T C Wx (.lm .extend o es)) :=
  (pe_bm PySem.F.plainAttrs_list PySem.F.slot_list_extend PySem.F.type_list_extend mt_extend ho ha (base_ok hs) (few_ok hn) hl (star_cons hn) (backTo_plain (by rfl))).mono fun σ H Q h => lm_read h fun H F cm st st' a vs us xs ys zs y Q gd rus ha rvs hf hq => by
    unfold lmF at hf
    split at hf
    case h_4 =>
      rename_i xs'
      split at hf
      · rename_i hz
        cases hf
        obtain ⟨u, rfl, ru⟩ := rps_one rus
        cases ru with
        | @lst b ws _ q1 q2 =>
          refine ⟨a, b, vs, ws, rfl, rfl, ha, gd.sub _ _ q1, ?_, hq _ (rvs.app q2) _ .non⟩
          rw [rvs.len, q2.len]
          exact lim_ok hz
      · cases hf
    all_goals first | (rename_i h; cases h; done) | (cases hf; done) | skip
theorem z_pop (ho : PE X po (rE T C Wx o)) (hs : notSuper po = true) (hl : (apos.endLine == pos.line) = true) : PE X (.Call (.Attribute po "pop" apos) [] [] pos) (rE T C Wx (.lm .pop o .nil)) :=
  (pe_bm0 PySem.F.plainAttrs_list PySem.F.slot_list_pop PySem.F.type_list_pop mt_pop ho (base_ok hs) hl).mono fun σ H Q h => by
    obtain ⟨δ, st, F, cm, g, sl, hp⟩ := h
    rw [E.ev] at hp
    refine rE_imp (rE_bind g sl hp) fun v H1 ⟨F1, cm1, w, st1, g1, gd1, sl1, r1, h1⟩ => ?_
    split at h1
    · rename_i n
      split at h1
      · rename_i hn
        refine ⟨cel_list gd1 r1 hn, ?_⟩
        rw [Es.ev] at h1
        have h1 : Post (RpW T) T (fun c d H' => Wx c d σ H') Q H1 F1 cm1 (wrt n (lmF .pop []) st1) := h1
        cases e5 : wrt n (lmF .pop []) st1 with
        | ok w5 st5 =>
          rw [e5] at h1
          obtain ⟨a, us, ys, zs, y, rfl, ha, rus, hf, rfl, done⟩ := wrt_run gd1 r1 e5
          simp only [lmF] at hf
          split at hf
          · rename_i y' hy
            cases hf
            rw [List.getLast?_eq_getElem?] at hy
            obtain ⟨u, hu, ru⟩ := rus.at hy
            refine ⟨a, us, u, rfl, rfl, ha, by rw [rus.len]; exact hu, ?_⟩
            have rz : Rps T F1 us.dropLast ys.dropLast := by
              rw [List.dropLast_eq_take, List.dropLast_eq_take, rus.len]
              exact rus.take _
            exact h1 u _ F1 cm1 (done _ rz).1 (done _ rz).2 (.p ru)
          · cases hf
        | exc _ _ _ => exact absurd e5 wrt_exc
        | no => rw [e5] at h1; exact h1.elim
      · exact h1.elim
    · exact h1.elim
theorem z_popi (ho : PE X po (rE T C Wx o)) (ha : PA X [pe] (rEs T C Wx es)) (hn : notStar pe = true) (hs : notSuper po = true) (hl : (apos.endLine == pos.line) = true) : PE X (.Call (.Attribute po "pop" apos) [pe] [] pos) (rE T C Wx (.lm .popi o es)) :=
  (pe_bm PySem.F.plainAttrs_list PySem.F.slot_list_pop PySem.F.type_list_pop mt_popAt ho ha (base_ok hs) (few_ok hn) hl (star_cons hn) (backTo_plain (by rfl))).mono fun σ H Q h => lm_read h fun H F cm st st' a vs us xs ys zs y Q gd rus ha rvs hf hq => by
    unfold lmF at hf
    split at hf
    case h_3 =>
      rename_i i
      split at hf
      · rename_i hsm
        split at hf
        · rename_i k hk
          split at hf
          · rename_i y' hy
            cases hf
            obtain ⟨u, rfl, ru⟩ := rps_one rus
            cases ru
            obtain ⟨v, hv, rv⟩ := rvs.at hy
            obtain ⟨b1, b2, b3, b4⟩ := ixN_seq hk
            obtain ⟨s1, s2⟩ := small62_ok hsm
            exact ⟨a, vs, _, k, v, rfl, rfl, ha, by omega, by omega, by rw [rvs.len]; exact b1, hv, hq _ (rvs.erase k) v rv⟩
          · cases hf
        · cases hf
      · cases hf
    all_goals first | (rename_i h; cases h; done) | (cases hf; done) | skip

inductive FJ (X : Cx) (T : Top) (C : Ctx) (Wx : WX) : List Expr → Es → List TE → Prop
  | nil : FJ X T C Wx [] .nil []
  | cs {s : Str} {j : Nat} {p : Pos} {r : List Expr} {es : Es} {ts : List TE} : FJ X T C Wx r es ts → FJ X T C Wx (.Constant (.str s) j p :: r) (.cons (.str s) es) (tC (.str s) :: ts)
  | fm {pe : Expr} {e : E} {p : Pos} {r : List Expr} {es : Es} {ts : List TE} : PE X pe (rE T C Wx e) → FJ X T C Wx r es ts → FJ X T C Wx (.FormattedValue pe (-1) none p :: r) (.cons e es) (tFmt (rE T C Wx e) :: ts)
theorem FJ.pj {pes : List Expr} {es : Es} {ts : List TE} (h : FJ X T C Wx pes es ts) : PJ X pes ts := by
  induction h with
  | nil => exact .nil
  | cs _ ih => exact .cons pe_str ih
  | fm hp _ ih => exact .cons (pe_fmt hp) ih
theorem Str.length_append (a b : Str) : (a ++ b).length = a.length + b.length := Array.size_append
theorem fj_read {pes : List Expr} {es : Es} {ts : List TE} (h : FJ X T C Wx pes es ts) : ∀ {σ : L2.St} {H F : Hp} {cm : List Addr} {st : Sto} {δ : Env} {Q : VK} {acc : Str}, Gd T H F cm st → Sl T H F cm σ δ → Post (RpW T) T (fun c d H' => Wx c d σ H') Q H F cm (es.fj C acc δ st) → tJs ts acc σ H fun out H1 => Q (.str out) H1 := by
  induction h with
  | nil =>
    intro σ H F cm st δ Q acc g sl hp
    rw [Es.fj] at hp
    exact hp _ _ _ _ (Gr.refl _ _ _) g (.p (.str _))
  | @cs s j p r es ts _ ih =>
    intro σ H F cm st δ Q acc g sl hp
    rw [Es.fj, E.ev] at hp
    have hp : Post (RpW T) T (fun c d H' => Wx c d σ H') Q H F cm (if (lim (acc ++ s).length && lim s.length) = true then es.fj C (acc ++ s) δ st else .no) := hp
    split at hp
    · rename_i hz
      rw [Bool.and_eq_true] at hz
      exact ⟨s, rfl, lim_ok hz.1, ih g sl hp⟩
    · exact hp.elim
  | @fm pe e p r es ts _ _ ih =>
    intro σ H F cm st δ Q acc g sl hp
    rw [Es.fj] at hp
    refine rE_imp (rE_bind g sl hp) fun v H1 ⟨F1, cm1, w, st1, g1, gd1, sl1, r1, h1⟩ => ?_
    split at h1
    · rename_i y hy
      split at h1
      · rename_i hz
        rw [Bool.and_eq_true] at hz
        unfold fmP at hy
        split at hy
        · cases hy
          cases r1 with
          | p r1 =>
            cases r1
            exact .inl ⟨y, rfl, lim_ok hz.2, y, rfl, lim_ok hz.1, ih gd1 sl1 h1⟩
        · split at hy
          · rename_i i hi
            cases hy
            cases r1 with
            | p r1 =>
              cases r1
              exact .inr ⟨i, rfl, showI_ok hi, _, rfl, lim_ok hz.1, ih gd1 sl1 h1⟩
          · cases hy
        · cases hy
      · exact h1.elim
    · exact h1.elim
theorem z_fst {v1 v2 : Expr} {rest : List Expr} {ts : List TE} (h : FJ X T C Wx (v1 :: v2 :: rest) es ts) : PE X (.JoinedStr (v1 :: v2 :: rest) pos) (rE T C Wx (.fst es)) := (pe_joined h.pj).mono fun σ H Q ⟨δ, st, F, cm, g, sl, hp⟩ => by
  rw [E.ev] at hp
  exact fj_read h g sl hp
/-- f'{x}' alone -/
theorem z_fst1 {p : Pos} (h : PE X pe (rE T C Wx e)) : PE X (.JoinedStr [.FormattedValue pe (-1) none p] pos) (rE T C Wx (.fst (.cons e .nil))) := (pe_joined1 (pe_fmt h)).mono fun σ H Q ⟨δ, st, F, cm, g, sl, hp⟩ => by
  rw [E.ev, Es.fj] at hp
  refine rE_imp (rE_bind g sl hp) fun v H1 ⟨F1, cm1, w, st1, g1, gd1, sl1, r1, h1⟩ => ?_
  split at h1
  · rename_i y hy
    split at h1
    · rename_i hz
      rw [Bool.and_eq_true] at hz
      rw [Es.fj] at h1
      have e0 : ((⟨#[]⟩ : Str) ++ y) = y := by
        show (⟨#[] ++ y.cps⟩ : Str) = y
        simp
      rw [e0] at h1
      unfold fmP at hy
      split at hy
      · cases hy
        cases r1 with
        | p r1 =>
          cases r1
          exact .inl ⟨y, rfl, lim_ok hz.2, h1 _ _ _ _ (Gr.refl _ _ _) gd1 (.p (.str _))⟩
      · split at hy
        · rename_i i hi
          cases hy
          cases r1 with
          | p r1 =>
            cases r1
            exact .inr ⟨i, rfl, showI_ok hi, h1 _ _ _ _ (Gr.refl _ _ _) gd1 (.p (.str _))⟩
        · cases hy
      · cases hy
    · exact h1.elim
  · exact h1.elim

theorem rpws_p {H F : Hp} {cm : List Addr} : ∀ {vs : List V} {xs : List P}, Rps T F vs xs → RpWs T H F cm vs (xs.map .p)
  | _, _, .nil => .nil
  | _, _, .cons a r => .cons (.p a) (rpws_p r)
theorem rpws_app {H F : Hp} {cm : List Addr} : ∀ {vs us : List V} {ws zs : List W}, RpWs T H F cm vs ws → RpWs T H F cm us zs → RpWs T H F cm (vs ++ us) (ws ++ zs)
  | _, _, _, _, .nil, h => h
  | _, _, _, _, .cons a r, h => .cons a (rpws_app r h)
theorem za_star (L : Lg X T C Wx) (ha : PE X pe (rE T C Wx e)) (hr : PA X pes (rEs T C Wx es)) : PA X (.Starred pe p :: pes) (rEs T C Wx (.star e es)) :=
  (StX.pa_star ha hr (by rfl)).mono fun σ H Q ⟨δ, st, F, cm, g, sl, hp⟩ => by
    rw [Es.ev] at hp
    show rE T C Wx e σ H _
    refine ⟨δ, st, F, cm, g, sl, ?_⟩
    have h1 := Post.bind (rel := RpW T) hp
    have tail : ∀ {H1 F1 cm1 st1 xs vs}, Gd T H1 F1 cm1 st1 → Sl T H1 F1 cm1 σ δ → Rps T F1 vs xs → Post (RpWs T) T (fun c d H' => Wx c d σ H') Q H1 F1 cm1 ((es.ev C δ st1).bind fun ws st => .ok (xs.map .p ++ ws) st) → rEs T C Wx es σ H1 fun ys H2 => Q (vs ++ ys) H2 := by
      intro H1 F1 cm1 st1 xs vs gd sl1 rv hq
      refine ⟨δ, st1, F1, cm1, gd, sl1, ?_⟩
      have h2 := Post.bind (rel := RpWs T) hq
      cases e1 : es.ev C δ st1 with
      | ok ws st2 =>
        rw [e1] at h2
        intro us H2 F2 cm2 g2 gd2 r2
        obtain ⟨F3, cm3, ws3, st3, g3, gd3, r3, h3⟩ := h2 us H2 F2 cm2 g2 gd2 r2
        exact h3 _ _ F3 cm3 (Gr.refl _ _ _) gd3 (rpws_app (rpws_p (rv.up g3.f)) r3)
      | exc _ _ _ => rw [e1] at h2; exact h2
      | no => rw [e1] at h2; exact h2
    cases e0 : e.ev C δ st with
    | ok w st1 =>
      rw [e0] at h1
      intro v H1 F1 cm1 g1 gd1 r1
      obtain ⟨F2, cm2, w2, st2, g2, gd2, r2, h2⟩ := h1 v H1 F1 cm1 g1 gd1 r1
      split at h2
      · rename_i xs e2
        obtain ⟨a, vs, rfl, hh, rv⟩ := (peek_rv gd2 r2 e2).tup
        exact ⟨a, vs, rfl, .inl (by rw [L.K]; exact sqT_up gd2.sub hh), tail gd2 (sl.up g2) rv h2⟩
      · rename_i xs e2
        obtain ⟨a, vs, rfl, hh, rv⟩ := (peek_rv gd2 r2 e2).lst gd2
        exact ⟨a, vs, rfl, .inr (SqL.of hh), tail gd2 (sl.up g2) rv h2⟩
      · exact h2.elim
    | exc _ _ _ => rw [e0] at h1; exact h1
    | no => rw [e0] at h1; exact h1
end
end Z

namespace Z
open PySem PySem.Spec PyProof.Rows L2

theorem z_neg {X : Cx} {T : Top} {C : Ctx} {Wx : WX} {pos : Pos} {pa : Expr} {a : E} (ha : PE X pa (rE T C Wx a)) : PE X (.UnaryOp .USub pa pos) (rE T C Wx (.neg a)) := (pe_un un_neg ha).mono fun σ H Q ⟨δ, st, F, cm, g, sl, hp⟩ => by
  rw [E.ev] at hp
  refine rE_imp (rE_bind g sl hp) fun v H1 ⟨F1, cm1, w, st1, g1, gd1, sl1, r1, h1⟩ => ?_
  obtain ⟨x, z, e1, e2, h2⟩ := one_run h1
  split at e2
  · rename_i i
    cases e2
    have ev := (peek_rv gd1 r1 e1).int
    exact ⟨i, ev, h2 _ _ _ _ (Gr.refl _ _ _) gd1 (.p (.int _))⟩
  · cases e2

theorem rg_rps {T : Top} {F : Hp} {n : Int} {xs : List P} (h : rngP 0 n = some xs) : Rps T F (rgV 0 n) xs ∧ -(2 ^ 62) ≤ n ∧ n < 2 ^ 62 ∧ xs.length = (n - 0).toNat := by
  unfold rngP at h
  split at h
  · rename_i hz
    rw [Bool.and_eq_true] at hz
    obtain ⟨z1, z2⟩ := small62_ok hz.2
    cases h
    refine ⟨?_, z1, z2, by simp⟩
    unfold rgV
    generalize List.range (n - 0).toNat = l
    induction l with
    | nil => exact .nil
    | cons a l ih => exact .cons (.int _) ih
  · cases h
section
variable {X : Cx} {T : Top} {C : Ctx} {Wx : WX} {pos p p2 pos2 : Pos} {pa : Expr} {a : E}
theorem rgt_read {l c : Bool} {σ : L2.St} {H : Hp} {Q : VK} (h : rE T C Wx (.rgt l c a) σ H Q) : rE T C Wx a σ H fun x H1 => ∃ n, x = .int n ∧ RgOk 0 n ∧ ∃ F1 cm1 st1 xs, Gd T H1 F1 cm1 st1 ∧ Rps T F1 (rgV 0 n) xs ∧ Post (RpW T) T (fun c d H' => Wx c d σ H') Q H1 F1 cm1 (if l then mkL c xs st1 else .ok (.p (.tup xs)) st1) := by
  obtain ⟨δ, st, F, cm, g, sl, hp⟩ := h
  rw [E.ev] at hp
  refine rE_imp (rE_bind g sl hp) fun v H1 ⟨F1, cm1, w, st1, g1, gd1, sl1, r1, h1⟩ => ?_
  unfold rgtR at h1
  split at h1
  · rename_i n
    split at h1
    · rename_i xs e
      split at h1
      · rename_i hz
        obtain ⟨r, z1, z2, z3⟩ := rg_rps (T := T) (F := F1) e
        have ev : v = .int n := by
          cases r1 with
          | p r => cases r; rfl
        have hl := lim_ok hz
        rw [z3] at hl
        exact ⟨n, ev, ⟨by omega, by omega, z1, z2, hl⟩, F1, cm1, st1, xs, gd1, r, h1⟩
      · exact h1.elim
    · exact h1.elim
  · exact h1.elim
theorem z_rgt {c : Bool} (L : Lg X T C Wx) (hg : Gl X "tuple") (hm : X.mg "tuple" = none) (hg2 : Gl X "range") (hm2 : X.mg "range" = none) (hs : notStar pa = true) (ha : PE X pa (rE T C Wx a)) : PE X (.Call (.Name "tuple" p) [.Call (.Name "range" p2) [pa] [] pos2] [] pos) (rE T C Wx (.rgt false c a)) :=
  (pe_tupRg L.calm hg hm (prg_1 hg2 hm2 ha (star_cons hs)) (by rfl)).mono fun σ H Q h => rE_imp (rgt_read h) fun x H1 ⟨n, e, ok, F1, cm1, st1, xs, gd, r, hp⟩ => by
    rw [if_neg Bool.false_ne_true] at hp
    exact ⟨n, e, ok, fun q hq => hp _ _ _ _ (Gr.lay gd hq) (gd.lay hq) (.p (.tup (SqT.of upd_same) (r.up (upd_keep (gd.freshF hq)))))⟩
theorem z_rgl {c : Bool} (L : Lg X T C Wx) (hg : Gl X "list") (hm : X.mg "list" = none) (hg2 : Gl X "range") (hm2 : X.mg "range" = none) (hs : notStar pa = true) (ha : PE X pa (rE T C Wx a)) : PE X (.Call (.Name "list" p) [.Call (.Name "range" p2) [pa] [] pos2] [] pos) (rE T C Wx (.rgt true c a)) :=
  (pe_listRg L.calm hg hm (prg_1 hg2 hm2 ha (star_cons hs)) (by rfl)).mono fun σ H Q h => rE_imp (rgt_read h) fun x H1 ⟨n, e, ok, F1, cm1, st1, xs, gd, r, hp⟩ => by
    rw [if_pos rfl] at hp
    exact ⟨n, e, ok, fun q hq => mkL_run gd r hp q hq⟩
end
theorem zip_at {T : Top} {F : Hp} : ∀ {xs ys : List P} {i : Nat} {z : P}, (zipP xs ys)[i]? = some z → ∃ x y, xs[i]? = some x ∧ ys[i]? = some y ∧ z = .tup [x, y]
  | [], ys, i, z, h => by simp [zipP] at h
  | x :: xs, [], i, z, h => by simp [zipP] at h
  | x :: xs, y :: ys, 0, z, h => by
    simp [zipP] at h
    exact ⟨x, y, rfl, rfl, h.symm⟩
  | x :: xs, y :: ys, i + 1, z, h => by
    obtain ⟨x', y', a, b, c⟩ := zip_at (T := T) (F := F) (xs := xs) (ys := ys) (i := i) (z := z) (by simpa [zipP] using h)
    exact ⟨x', y', by simpa using a, by simpa using b, c⟩
theorem zip_len : ∀ {xs ys : List P}, (zipP xs ys).length = min xs.length ys.length
  | [], ys => by simp [zipP]
  | x :: xs, [] => by simp [zipP]
  | x :: xs, y :: ys => by
    simp only [zipP, List.length_cons, zip_len]
    omega
theorem jok_pair {T : Top} {F H F' : Hp} {cm : List Addr} {st : Sto} {p : Addr} {x y : P} {v u : V} (g : Gd T H F cm st) (hp : H p = none) (r1 : Rp T F v x) (r2 : Rp T F u y) :
    Gr H F cm (upd H p (.tup [v, u])) (upd F p (.tup [v, u])) cm ∧ Gd T (upd H p (.tup [v, u])) (upd F p (.tup [v, u])) cm st ∧ Rp T (upd F p (.tup [v, u])) (.ref p) (.tup [x, y]) :=
  ⟨Gr.lay g hp, g.lay hp, .tup (SqT.of upd_same) (Rps.up (upd_keep (g.freshF hp)) (.cons r1 (.cons r2 .nil)))⟩
theorem jok_zipT {T : Top} {F0 : Hp} {a b : Addr} {vs us : List V} {xs ys : List P} (h1 : SqT T.K F0 a vs) (h2 : SqT T.K F0 b us) (r1 : Rps T F0 vs xs) (r2 : Rps T F0 us ys) : JOk T F0 (RZ.ItzT T.K a b) (zipP xs ys) := fun i H F cm st g k => by
  have s1 : SqT T.K H a vs := sqT_up g.sub (sqT_up k h1)
  have s2 : SqT T.K H b us := sqT_up g.sub (sqT_up k h2)
  refine ⟨fun hi => ⟨vs, us, s1, s2, ?_⟩, fun z hz => ?_⟩
  · rw [zip_len] at hi
    rw [r1.len, r2.len]
    omega
  · obtain ⟨x, y, e1, e2, rfl⟩ := zip_at (T := T) (F := F0) hz
    obtain ⟨v, ev, rv⟩ := r1.at e1
    obtain ⟨u, eu, ru⟩ := r2.at e2
    refine ⟨⟨vs, us, v, u, s1, s2, ev, eu⟩, fun w H' ⟨p, v', u', e, hp, eH, y1, y2⟩ => ?_⟩
    subst e eH
    have q1 := y1 vs s1
    have q2 := y2 us s2
    rw [ev] at q1
    rw [eu] at q2
    cases q1
    cases q2
    obtain ⟨a1, a2, a3⟩ := jok_pair g hp (rv.up k) (ru.up k) (F' := F)
    exact ⟨_, a1, a2, a3⟩
theorem jok_zipL {T : Top} {F0 : Hp} {a b : Addr} {vs us : List V} {xs ys : List P} (h1 : F0 a = some (.lst vs)) (h2 : F0 b = some (.lst us)) (r1 : Rps T F0 vs xs) (r2 : Rps T F0 us ys) : JOk T F0 (Itz T.K a b) (zipP xs ys) := fun i H F cm st g k => by
  have s1 : SqL T.K H a vs := SqL.of (g.sub _ _ (k _ _ h1))
  have s2 : SqL T.K H b us := SqL.of (g.sub _ _ (k _ _ h2))
  refine ⟨fun hi => ⟨vs, us, s1, s2, ?_⟩, fun z hz => ?_⟩
  · rw [zip_len] at hi
    rw [r1.len, r2.len]
    omega
  · obtain ⟨x, y, e1, e2, rfl⟩ := zip_at (T := T) (F := F0) hz
    obtain ⟨v, ev, rv⟩ := r1.at e1
    obtain ⟨u, eu, ru⟩ := r2.at e2
    refine ⟨⟨vs, us, v, u, s1, s2, ev, eu⟩, fun w H' ⟨p, v', u', e, hp, eH, y1, y2⟩ => ?_⟩
    subst e eH
    have q1 := y1 vs s1
    have q2 := y2 us s2
    rw [ev] at q1
    rw [eu] at q2
    cases q1
    cases q2
    obtain ⟨a1, a2, a3⟩ := jok_pair g hp (rv.up k) (ru.up k) (F' := F)
    exact ⟨_, a1, a2, a3⟩
theorem enum_at : ∀ {xs : List P} {n i : Nat} {z : P}, (enumP n xs)[i]? = some z → ∃ x, xs[i]? = some x ∧ z = .tup [.int ((n + i : Nat) : Int), x]
  | [], n, i, z, h => by simp [enumP] at h
  | x :: xs, n, 0, z, h => by
    simp [enumP] at h
    exact ⟨x, rfl, by rw [← h]; rfl⟩
  | x :: xs, n, i + 1, z, h => by
    obtain ⟨x', a, c⟩ := enum_at (xs := xs) (n := n + 1) (i := i) (z := z) (by simpa [enumP] using h)
    refine ⟨x', by simpa using a, ?_⟩
    rw [c]
    have e : n + 1 + i = n + (i + 1) := by omega
    rw [e]
theorem enum_len : ∀ {xs : List P} {n : Nat}, (enumP n xs).length = xs.length
  | [], n => rfl
  | x :: xs, n => by simp [enumP, enum_len]
theorem jok_enum {T : Top} {F0 : Hp} {a : Addr} {vs : List V} {xs : List P} (h1 : F0 a = some (.lst vs)) (r1 : Rps T F0 vs xs) : JOk T F0 (Ite T.K a) (enumP 0 xs) := fun i H F cm st g k => by
  have s1 : SqL T.K H a vs := SqL.of (g.sub _ _ (k _ _ h1))
  refine ⟨fun hi => ⟨vs, s1, ?_⟩, fun z hz => ?_⟩
  · rw [enum_len] at hi
    rw [r1.len]
    exact hi
  · obtain ⟨x, e1, rfl⟩ := enum_at hz
    obtain ⟨v, ev, rv⟩ := r1.at e1
    refine ⟨⟨vs, v, s1, ev⟩, fun w H' ⟨p, v', e, hp, eH, y1⟩ => ?_⟩
    subst e eH
    have q1 := y1 vs s1
    rw [ev] at q1
    cases q1
    obtain ⟨a1, a2, a3⟩ := jok_pair g hp (.int ((i : Nat) : Int)) (rv.up k) (F' := F)
    rw [Nat.zero_add]
    exact ⟨_, a1, a2, a3⟩
section
variable {X : Cx} {T : Top} {C : Ctx} {Wx : WX} {pos p tpos : Pos} {elts : List Expr} {kk : Nat} {pa pb : Expr} {a b : E}
theorem i_zip (L : Lg X T C Wx) (hg : Gl X "zip") (hm : X.mg "zip" = none) (hs : notStar pa = true) (hs2 : notStar pb = true) (h : PE X pa (rE T C Wx a)) (k : PE X pb (rE T C Wx b)) : PI X (.Tuple elts kk tpos) (.Call (.Name "zip" p) [pa, pb] [] pos) (rI T C Wx (.zip a b)) :=
  (RZ.pi_zipA hg hm (pa_cons h (pa_cons k pa_nil (star_cons hs2)) (star_cons hs)) (by rw [star_cons hs]) (backTo_plain (by simp [hs2]))).mono fun σ H R ⟨δ, st, F, cm, g, sl, hp⟩ => by
    rw [It.ev] at hp
    refine rE_imp (rE_bind g sl hp) fun v H1 ⟨F1, cm1, w, st1, g1, gd1, sl1, r1, h1⟩ => ?_
    refine rE_imp (rE_bind gd1 sl1 h1) fun v2 H2 ⟨F2, cm2, w2, st2, g2, gd2, sl2, r2, h2⟩ => ?_
    obtain ⟨x, st3, F3, g3, gd3, rx, h3⟩ := keep_run gd2 (r1.up g2) h2
    obtain ⟨y, st4, F4, g4, gd4, ry, h4⟩ := keep_run gd3 (r2.up g3) h3
    have rx := rx.up g4.f
    split at h4
    · cases rx with
      | @tup c vs _ q1 q2 =>
        cases ry with
        | @tup d us _ q3 q4 =>
          refine ⟨c, d, vs, us, rfl, .inr ⟨by rw [L.K]; exact sqT_up gd4.sub q1, by rw [L.K]; exact sqT_up gd4.sub q3, ?_⟩⟩
          rw [L.K]
          exact h4 _ _ F4 cm2 (Gr.refl _ _ _) gd4 (jok_zipT q1 q3 q2 q4)
    · cases rx with
      | @lst c vs _ q1 q2 =>
        cases ry with
        | @lst d us _ q3 q4 =>
          refine ⟨c, d, vs, us, rfl, .inl ⟨SqL.of (gd4.sub _ _ q1), SqL.of (gd4.sub _ _ q3), ?_⟩⟩
          rw [L.K]
          exact h4 _ _ F4 cm2 (Gr.refl _ _ _) gd4 (jok_zipL q1 q3 q2 q4)
    · exact h4.elim
theorem i_enum (hK : X.K = T.K) (hg : Gl X "enumerate") (hm : X.mg "enumerate" = none) (hs : notStar pa = true) (h : PE X pa (rE T C Wx a)) : PI X (.Tuple elts kk tpos) (.Call (.Name "enumerate" p) [pa] [] pos) (rI T C Wx (.enum a)) :=
  (pi_enum hg hm (pa_cons h pa_nil (star_cons hs)) (by rw [star_cons hs]; rfl)).mono fun σ H R ⟨δ, st, F, cm, g, sl, hp⟩ => by
    rw [It.ev] at hp
    refine rE_imp (rE_bind g sl hp) fun v H1 ⟨F1, cm1, w, st1, g1, gd1, sl1, r1, h1⟩ => ?_
    obtain ⟨x, st3, F3, g3, gd3, rx, h3⟩ := keep_run gd1 r1 h1
    split at h3
    · cases rx with
      | @lst c vs _ q1 q2 =>
        refine ⟨c, vs, rfl, SqL.of (gd3.sub _ _ q1), ?_⟩
        rw [hK]
        exact h3 _ _ F3 cm1 (Gr.refl _ _ _) gd3 (jok_enum q1 q2)
    · exact h3.elim
end

/-- names of the program's text -/
structure Inf where
  fns : List (Str × Nat)
  cls : List (Str × Nat × Nat × Nat)
  con : List (Str × Nat)
  flds : List (Str × Nat × Nat)
  prps : List (Str × Nat × Nat)
  mets : List (Str × Nat × Nat)
  isc : List (Str × Nat)
  mis : List Str
/-- a def that may be called -/
def HasF (T : Top) (C : Ctx) (P : Program) (w : World) (mg : Str → Option Value) (base : Heap) (k f : Nat) (n : Nat → Prop) : Prop :=
  ∃ fd ps, FnG P w T.K mg base k (T.fa f) fd ps (spC T C.call f) ∧ Binds T.K fd ps [] ∧ (∀ ws st, C.call f ws st ≠ .no → ws.length = ps.length) ∧ n ps.length
structure Wd (I : Inf) (T : Top) (C : Ctx) (P : Program) (w : World) (mg : Str → Option Value) (base : Heap) (k : Nat) : Prop where
  fn : ∀ x f, (x, f) ∈ I.fns → mg x = some (.ref (T.fa f)) ∧ PySem.W.keepIn T.K (.ref (T.fa f)) = true ∧ HasF T C P w mg base k f fun _ => True
  new : ∀ x c f n, (x, c, f, n) ∈ I.cls → mg x = some (.ref (T.ca c)) ∧ PySem.W.keepIn T.K (.ref (T.ca c)) = true ∧ Mk T.K (T.ca c) (T.fa f) ∧ (T.nm c).length = n ∧
    ∃ fd ps, FnG P w T.K mg base k (T.fa f) fd ps (spN T C.new c f) ∧ Binds T.K fd ps [] ∧ ∀ ws st, C.new c f ws st ≠ .no → ws.length + 1 = ps.length
  con : ∀ x n, (x, n) ∈ I.con → ∃ y v u, mg x = some u ∧ RelV v u ∧ C.glo n = some y ∧ ∀ F, Rp T F v y
  fld : ∀ x c i, (x, c, i) ∈ I.flds → ClsF T c ∧ (T.nm c)[i]? = some x ∧ (T.nm c).length < 1000
  prp : ∀ x c f, (x, c, f) ∈ I.prps → Cls T.K (T.ca c) ∧ (∃ pa, PropOf T.K (T.ca c) x pa (T.fa f)) ∧ HasF T C P w mg base k f fun n => n = 1
  met : ∀ x c f, (x, c, f) ∈ I.mets → Cls T.K (T.ca c) ∧ Meth T.K (T.ca c) x (T.fa f) ∧ x ∉ T.nm c ∧ HasF T C P w mg base k f fun _ => True
  len : ∀ c f, C.dun c 0 = some f → PySem.W.findIn T.K (.ref (T.ca c)) "__len__" = some (some (.ref (T.fa f))) ∧ PySem.W.isFn T.K (.ref (T.fa f)) = true ∧ HasF T C P w mg base k f fun n => n = 1
  dun : ∀ c, C.dun c 2 = none ∧ C.dun c 3 = none
  isi : ∀ c, C.inst c = true → IsiF T c
  isb : ∀ t, (∀ c, t ≠ .cls c) → IsiOk T C t
  isc : ∀ x c, (x, c) ∈ I.isc → mg x = some (.ref (T.ca c)) ∧ IsiOk T C (.cls c)
  mis : ∀ x, x ∈ I.mis → mg x = none
/-- where a block of a def's body runs -/
structure Cn (I : Inf) (N : List Str) (T : Top) (C : Ctx) (k : Nat) (sc : Scope) (X : Cx) (Wx : WX) : Prop where
  L : Lg X T C Wx
  N : X.N = N
  sc : X.env.scope = sc
  room : Room (k + 1) X.A
  wd : Wd I T C X.prog X.w X.mg X.base k
section
variable {I : Inf} {N : List Str} {T : Top} {C : Ctx} {k : Nat} {sc : Scope} {X : Cx} {Wx : WX}
theorem takes_none {X : Cx} : Takes X W0 := fun u s' ⟨_, _, _, _, _, _, _, _, _, _, _, _, _, _, _, _, z⟩ => z.elim
theorem Cn.blk (c : Cn I N T C k sc X Wx) (s : Shared) (H : Hp) (scope : Scope) (D : Addr) (cl : List (Str × Addr)) (fp : List Addr) : Cn I N T C k (relS scope sc) (X.blk s H scope (compEnvC scope cl D X.env) fp) W0 := by
  refine ⟨⟨c.L.K, c.L.calm, c.L.nd, c.L.un, c.L.gu, takes_none⟩, c.N, ?_, c.room, c.wd⟩
  rw [← c.sc]
  rfl
theorem Cn.call (c : Cn I N T C k sc X Wx) {f : Nat} {n : Nat → Prop} (h : HasF T C X.prog X.w X.mg X.base k f n) : CallS X T C Wx f := by
  obtain ⟨fd, ps, F, b, l, _⟩ := h
  exact callS_of (k := k) (by rw [c.L.K]; exact F) (c.room.mono (Nat.le_succ _)) c.L.gu (by rw [c.L.K]; exact b) c.L.tk l
theorem Cn.new (c : Cn I N T C k sc X Wx) {x : Str} {d f n : Nat} (h : (x, d, f, n) ∈ I.cls) : NewS X T C Wx d f n := by
  obtain ⟨_, _, m, e, fd, ps, F, b, l⟩ := c.wd.new x d f n h
  exact newS_of (j := k) (by rw [c.L.K]; exact m) (by rw [c.L.K]; exact F) c.room c.L.gu (by rw [c.L.K]; exact b) c.L.tk l e
theorem Cn.prop (c : Cn I N T C k sc X Wx) {x : Str} {d f : Nat} (h : (x, d, f) ∈ I.prps) : PropS X T C d x f := by
  obtain ⟨cl, ⟨pa, pr⟩, fd, ps, F, b, l, e⟩ := c.wd.prp x d f h
  exact propS_of (Wx := Wx) (k := k) (by rw [c.L.K]; exact F) c.room c.L.gu (by rw [c.L.K]; exact b) e (by rw [c.L.K]; exact cl) (by rw [c.L.K]; exact pr) c.L.tk fun _ _ z => z
theorem Cn.len (c : Cn I N T C k sc X Wx) {d f : Nat} (h : C.dun d 0 = some f) : LenS X T C Wx d f := by
  obtain ⟨h1, h2, fd, ps, F, b, l, e⟩ := c.wd.len d f h
  exact lenS_of (j := k) (by rw [c.L.K]; exact F) c.room c.L.gu (by rw [c.L.K]; exact b) e c.L.tk (by rw [c.L.K]; exact h1) (by rw [c.L.K]; exact h2)
theorem Cn.bi (c : Cn I N T C k sc X Wx) {b : Bi} (hs : soft b = true) : BiS X T C Wx b := biS_of c.L hs fun d e f hd hf => by
  cases b <;> first
    | (cases hd; exact ⟨rfl, c.len hf⟩)
    | (cases hd; rw [(c.wd.dun e).1] at hf; cases hf)
    | (cases hd; rw [(c.wd.dun e).2] at hf; cases hf)
    | cases hd
end
end Z

namespace Z
open PySem PySem.Spec PyProof.Rows L2

def visB (sc : Scope) (x : Str) : Bool := match sc.names.lookup x with
  | some .local => true
  | some .cell => true
  | some .free => true
  | _ => false
def gloB (sc : Scope) (x : Str) : Bool := match sc.names.lookup x with
  | some .globalImplicit => true
  | _ => false
def dbgB (x : Str) : Bool := !(x == ("__debug__" : Str)) && !(x == ("__classdict__" : Str))
def plainIx : Expr → Bool
  | .Slice _ _ _ _ => false
  | _ => true
theorem plainIx_ok {pe : Expr} (h : plainIx pe = true) : PlainIx pe := fun o i => by
  cases pe <;> first | rfl | cases h
def notSet : Expr → Bool
  | .Set _ _ _ => false
  | _ => true
theorem notSet_ok {pe : Expr} (h : notSet pe = true) (env : PySem.Env) (x : Value) : foldedSetIterable pe env x = pure x := by
  cases pe <;> first | rfl | cases h
def ownOf (N : List Str) (vs : List Nat) : List (Str × Nat) := vs.map fun i => (N.getD i Str.empty, i)
theorem ownOf_snd {N : List Str} {vs : List Nat} : (ownOf N vs).map (·.2) = vs := by
  unfold ownOf
  rw [List.map_map]
  exact List.map_id' vs
/-- a name that is stored -/
def stB (N : List Str) (sc : Scope) (cel : Str → Bool) (i : Nat) (x : Str) : Bool := decide (N[i]? = some x) && match sc.names.lookup x with
  | some .local => true
  | some .cell => cel x
  | _ => false
mutual
def mTg (N : List Str) (sc : Scope) (cel : Str → Bool) : Tg → Expr → Bool
  | .n i, pe => match pe with
    | .Name x _ => stB N sc cel i x
    | _ => false
  | .t ts, pe => match pe with
    | .Tuple es _ _ => es.all notStar && mTgs N sc cel ts es
    | _ => false
def mTgs (N : List Str) (sc : Scope) (cel : Str → Bool) : List Tg → List Expr → Bool
  | [], es => es.isEmpty
  | t :: ts, es => match es with
    | p :: ps => mTg N sc cel t p && mTgs N sc cel ts ps
    | [] => false
end
def cellB (scope : Scope) (x : Str) : Bool := scope.names.lookup x == some .cell
def isNonE : E → Bool
  | .non => true
  | _ => false
def isTrE : E → Bool
  | .bl true => true
  | _ => false
def isStE (s : Str) : E → Bool
  | .str t => decide (s = t)
  | _ => false
def tyN : Ty → Option Str
  | .int => some "int"
  | .bool => some "bool"
  | .str => some "str"
  | .tuple => some "tuple"
  | .list => some "list"
  | .cls _ => none
def mTy (I : Inf) (sc : Scope) (t : Ty) : Expr → Bool
  | .Name x _ => gloB sc x && dbgB x && (match t with
    | .cls c => decide ((x, c) ∈ I.isc)
    | t => decide (tyN t = some x) && decide (x ∈ I.mis))
  | _ => false
def isTupE : Expr → Bool
  | .Tuple _ _ _ => true
  | _ => false
section
variable (I : Inf) (N : List Str)
mutual
def mE (sc : Scope) (tm : Bool) : E → Expr → Bool
  | .non, pe => match pe with
    | .Constant .none _ _ => true
    | _ => false
  | .bl b, pe => match pe with
    | .Constant (.bool c) _ _ => decide (b = c)
    | _ => false
  | .int i, pe => match pe with
    | .Constant (.int j) _ _ => decide (i = j)
    | _ => false
  | .str s, pe => match pe with
    | .Constant (.str t) _ _ => decide (s = t)
    | _ => false
  | .v i, pe => match pe with
    | .Name x _ => decide (N[i]? = some x) && visB sc x && dbgB x
    | _ => false
  | .gv n, pe => match pe with
    | .Name x _ => decide ((x, n) ∈ I.con) && gloB sc x && dbgB x
    | _ => false
  | .tup es, pe => match pe with
    | .Tuple l _ _ => mEs sc false es l
    | _ => false
  | .lst _ es, pe => match pe with
    | .List l _ => mEs sc false es l
    | _ => false
  | .op o a b, pe => match pe with
    | .BinOp pa op pb _ => decide (opO o = op) && mE sc false a pa && mE sc false b pb
    | _ => false
  | .neg a, pe => match pe with
    | .UnaryOp .USub pa _ => mE sc false a pa
    | _ => false
  | .not a, pe => match pe with
    | .UnaryOp .Not pa _ => mE sc tm a pa
    | _ => false
  | .cmp o a b, pe => match pe with
    | .Compare pa [op] [pb] _ => decide (cpO o = op) && !behindInMarks op pb && mE sc false a pa && mE sc false b pb
    | _ => false
  | .chn o1 o2 a b c, pe => match pe with
    | .Compare pa [p1, p2] [pb, pc] _ => decide (cpO o1 = p1) && decide (cpO o2 = p2) && !lastMarks [p1, p2] [pb, pc] && mE sc false a pa && mE sc false b pb && mE sc false c pc
    | _ => false
  | .and a b, pe => match pe with
    | .BoolOp .And [pa, pb] _ => mE sc tm a pa && mE sc tm b pb
    | .BoolOp .And (pa :: pb :: pc :: r) pos => mE sc tm a pa && mE sc tm b (.BoolOp .And (pb :: pc :: r) pos)
    | _ => false
  | .or a b, pe => match pe with
    | .BoolOp .Or [pa, pb] _ => mE sc tm a pa && mE sc tm b pb
    | .BoolOp .Or (pa :: pb :: pc :: r) pos => mE sc tm a pa && mE sc tm b (.BoolOp .Or (pb :: pc :: r) pos)
    | _ => false
  | .ife t a b, pe => match pe with
    | .IfExp pt pa pb _ => !tm && mE sc true t pt && mE sc false a pa && mE sc false b pb
    | _ => false
  | .ix a i, pe => match pe with
    | .Subscript pa pi _ => plainIx pi && mE sc false a pa && mE sc false i pi
    | _ => false
  | .sl a lo hi, pe => match pe with
    | .Subscript pa (.Slice plo phi none _) _ => mE sc false a pa && (match plo with
      | none => isNonE lo
      | some p => mE sc false lo p) && (match phi with
      | none => isNonE hi
      | some p => mE sc false hi p)
    | _ => false
  | .rev a, pe => match pe with
    | .Subscript pa (.Slice none none (some (.UnaryOp .USub (.Constant (.int 1) _ _) _)) _) _ => mE sc false a pa
    | _ => false
  | .call f es, pe => match pe with
    | .Call (.Name x _) l [] _ => decide ((x, f) ∈ I.fns) && gloB sc x && dbgB x && l.all notStar && mEs sc false es l
    | _ => false
  | .calk _ _ _, _ => false
  | .meth c f o es, pe => match pe with
    | .Call (.Attribute po m ap) l [] pos => decide ((m, c, f) ∈ I.mets) && l.all notStar && decide (l.length < 30) && (ap.endLine == pos.line) && notSuper po && mE sc false o po && mEs sc false es l
    | _ => false
  | .prop c f o, pe => match pe with
    | .Attribute po x _ => decide ((x, c, f) ∈ I.prps) && notSuper po && mE sc false o po
    | _ => false
  | .new c f n es, pe => match pe with
    | .Call (.Name x _) (p :: l) [] _ => decide ((x, c, f, n) ∈ I.cls) && gloB sc x && dbgB x && (p :: l).all notStar && mEs sc false es (p :: l)
    | _ => false
  | .fld c i o, pe => match pe with
    | .Attribute po x _ => decide ((x, c, i) ∈ I.flds) && notSuper po && mE sc false o po
    | _ => false
  | .isi t e, pe => match pe with
    | .Call (.Name x _) [p, q] [] _ => decide (x = ("isinstance" : Str)) && gloB sc x && decide (x ∈ I.mis) && notStar p && mTy I sc t q && mE sc false e p
    | _ => false
  | .bi b _ es, pe => match pe with
    | .Call (.Name x _) (p :: l) [] _ => soft b && decide (x = biNm b) && gloB sc x && decide (x ∈ I.mis) && (p :: l).all notStar && mEs sc false es (p :: l)
    | _ => false
  | .sm m _ o es, pe => match pe with
    | .Call (.Attribute po y ap) [p] [] pos => (match m with
      | .join => decide (y = ("join" : Str))
      | _ => false) && notStar p && notSuper po && (ap.endLine == pos.line) && mE sc false o po && mEs sc false es [p]
    | _ => false
  | .lm m o es, pe => match pe with
    | .Call (.Attribute po y ap) [p] [] pos => (match m with
      | .append => decide (y = ("append" : Str))
      | .extend => decide (y = ("extend" : Str))
      | .popi => decide (y = ("pop" : Str))
      | .pop => false) && notStar p && notSuper po && (ap.endLine == pos.line) && mE sc false o po && mEs sc false es [p]
    | .Call (.Attribute po y ap) [] [] pos => (match m with
      | .pop => decide (y = ("pop" : Str))
      | _ => false) && notSuper po && (ap.endLine == pos.line) && mE sc false o po && mEs sc false es []
    | _ => false
  | .lc _ vs tz it t e, pe => match pe with
    | .ListComp elt [⟨tg, iter, ifs, 0⟩] scope _ => notSet iter && blkC N sc scope (ownOf N vs) && tz.slots.all (fun i => decide (i ∈ vs)) && mTg N (relS scope sc) (cellB scope) tz tg && mI sc it iter tg && (match ifs with
      | [] => isTrE t
      | [q] => mE (relS scope sc) true t q
      | _ => false) && mE (relS scope sc) false e elt
    | _ => false
  | .lc2 _ vs vs1 tz it t tz1 it1 t1 e, pe => match pe with
    | .ListComp elt [⟨tg, iter, ifs, 0⟩, ⟨tg1, iter1, ifs1, 0⟩] scope _ => notSet iter && notSet iter1 && blkC N sc scope (ownOf N vs) && tz.slots.all (fun i => decide (i ∈ vs)) && tz1.slots.all (fun i => decide (i ∈ vs1)) && vs1.all (fun i => decide (i ∈ vs)) &&
      mTg N (relS scope sc) (cellB scope) tz tg && mTg N (relS scope sc) (cellB scope) tz1 tg1 && mI sc it iter tg && mI (relS scope sc) it1 iter1 tg1 && (match ifs with
      | [] => isTrE t
      | [q] => mE (relS scope sc) true t q
      | _ => false) && (match ifs1 with
      | [] => isTrE t1
      | [q] => mE (relS scope sc) true t1 q
      | _ => false) && mE (relS scope sc) false e elt
    | _ => false
  | .fst es, pe => match pe with
    | .JoinedStr l _ => (match l with
      | _ :: _ :: _ => true
      | _ => false) && mEs sc true es l
    | _ => false
  | .srtk _ _ _, _ => false
  | .rgt l _ a, pe => match pe with
    | .Call (.Name x _) [.Call (.Name y _) [p] [] _] [] _ => decide (x = (if l then ("list" : Str) else "tuple")) && decide (y = ("range" : Str)) && gloB sc x && gloB sc y && decide (x ∈ I.mis) && decide (y ∈ I.mis) && (notStar p && mE sc false a p)
    | _ => false
def mEs (sc : Scope) (fm : Bool) : Es → List Expr → Bool
  | .nil, l => l.isEmpty
  | .cons e es, l => match l with
    | p :: ps => (if fm then match p with
      | .Constant (.str s) _ _ => isStE s e
      | .FormattedValue q (-1) none _ => mE sc false e q
      | _ => false
      else notStar p && mE sc false e p) && mEs sc fm es ps
    | [] => false
  | .star e es, l => match l with
    | .Starred p _ :: ps => !fm && mE sc false e p && mEs sc fm es ps
    | _ => false
def mI (sc : Scope) : Z.It → Expr → Expr → Bool
  | .val e, pe, _ => mE sc false e pe
  | .rng1 a, pe, _ => match pe with
    | .Call (.Name x _) [p] [] _ => decide (x = ("range" : Str)) && gloB sc x && decide (x ∈ I.mis) && notStar p && mE sc false a p
    | _ => false
  | .rng2 a b, pe, _ => match pe with
    | .Call (.Name x _) [p, q] [] _ => decide (x = ("range" : Str)) && gloB sc x && decide (x ∈ I.mis) && notStar p && notStar q && mE sc false a p && mE sc false b q
    | _ => false
  | .zip a b, pe, tg => match pe with
    | .Call (.Name x _) [p, q] [] _ => decide (x = ("zip" : Str)) && gloB sc x && decide (x ∈ I.mis) && notStar p && notStar q && isTupE tg && (mE sc false a p && mE sc false b q)
    | _ => false
  | .enum a, pe, tg => match pe with
    | .Call (.Name x _) [p] [] _ => decide (x = ("enumerate" : Str)) && gloB sc x && decide (x ∈ I.mis) && notStar p && isTupE tg && mE sc false a p
    | _ => false
end
end
end Z

namespace Z
open PySem PySem.Spec PyProof.Rows L2

theorem all_back {pos : Pos} {env : PySem.Env} : ∀ {es : List Expr}, es.all notStar = true → (backTo pos (starEach es env)).all (fun x => !x.1) = true
  | [], _ => rfl
  | e :: es, h => by
    simp only [List.all_cons, Bool.and_eq_true] at h
    rw [star_cons h.1]
    exact all_back h.2
theorem meth_eval {o : Expr} {name : Str} {args : List Expr} {pos apos : Pos} {env : PySem.Env} (hs : notSuper o = true) (hn : args.all notStar = true) (hz : args.length < 30) (hl : (apos.endLine == pos.line) = true) :
    eval (.Call (.Attribute o name apos) args [] pos) env = (do
      let ov ← eval o env
      standAt apos.atName
      let (f, first) ← holding [ov] (getMethod ov name (do return (← importBound o env).getD true))
      callWith pos f first (backTo pos (starEach args env)) (backToKw pos (keywordEach [] env))) := by
  rw [arm_eval_Call, base_ok hs]
  have hf : methodCallForm (args.length + ([] : List Keyword).length) (backTo pos (starEach args env)) (backToKw pos (keywordEach [] env)) = true := by
    unfold methodCallForm
    rw [all_back hn]
    show (true && true && decide (args.length + 0 + 0 < 30)) = true
    simpa using hz
  have e : ∀ ov, methodCall o name apos pos env ov (args.length + ([] : List Keyword).length) (backTo pos (starEach args env)) (backToKw pos (keywordEach [] env)) = (do
      let (f, first) ← holding [ov] (getMethod ov name (do return (← importBound o env).getD true))
      callWith pos f first (backTo pos (starEach args env)) (backToKw pos (keywordEach [] env))) := fun ov => by
    unfold methodCall
    rw [hf]
    have e2 : methodCallPos true o env apos pos = pure pos := by
      unfold methodCallPos
      simp [hl]
    rw [e2]
    rfl
  simp only [e]

section
variable {I : Inf} {N : List Str} {T : Top} {C : Ctx} {k : Nat}
theorem visB_ok {sc : Scope} {x : Str} (h : visB sc x = true) : Vis sc x := by
  unfold visB at h
  split at h
  · exact .inl (by assumption)
  · exact .inr (.inl (by assumption))
  · exact .inr (.inr (by assumption))
  · cases h
theorem gloB_ok {X : Cx} {sc : Scope} {x : Str} (e : X.env.scope = sc) (h : gloB sc x = true) : Gl X x := by
  unfold gloB at h
  show X.env.scope.names.lookup x = _
  rw [e]
  split at h
  · assumption
  · cases h
theorem dbgB_ok {x : Str} (h : dbgB x = true) : (x == ("__debug__" : Str)) = false ∧ (x == ("__classdict__" : Str)) = false := by
  unfold dbgB at h
  simpa using h
theorem stB_ok {X : Cx} {sc : Scope} {cel : Str → Bool} {i : Nat} {x : Str} (e : X.env.scope = sc) (hN : X.N = N) (hc : ∀ x, cel x = true → X.fn x = true) (h : stB N sc cel i x = true) :
    X.N[i]? = some x ∧ Loc X.env.scope x ∧ (X.fn x = true ∨ X.env.scope.names.lookup x = some .local) := by
  unfold stB at h
  rw [Bool.and_eq_true] at h
  rw [hN, e]
  refine ⟨of_decide_eq_true h.1, ?_⟩
  have h2 := h.2
  split at h2
  · rename_i q
    exact ⟨.inl q, .inr q⟩
  · rename_i q
    exact ⟨.inr q, .inl (hc x h2)⟩
  · cases h2
mutual
theorem mTg_ok {X : Cx} {sc : Scope} {cel : Str → Bool} (hc : X.calm = true) (hK : X.K = T.K) (nd : X.N.Nodup) (e : X.env.scope = sc) (hN : X.N = N) (hf : ∀ x, cel x = true → X.fn x = true) : ∀ {tg : Tg} {pe : Expr}, mTg N sc cel tg pe = true → PG X pe (rG T tg)
  | .n i, pe, h => by
    unfold mTg at h
    split at h
    · obtain ⟨h1, h2, h3⟩ := stB_ok e hN hf h
      exact g_name nd h1 h2 h3
    · cases h
  | .t ts, pe, h => by
    unfold mTg at h
    split at h
    · rw [Bool.and_eq_true] at h
      obtain ⟨h1, h2⟩ := mTgs_ok hc hK nd e hN hf h.2
      exact g_tup hc hK h1 h.1 h2
    · cases h
theorem mTgs_ok {X : Cx} {sc : Scope} {cel : Str → Bool} (hc : X.calm = true) (hK : X.K = T.K) (nd : X.N.Nodup) (e : X.env.scope = sc) (hN : X.N = N) (hf : ∀ x, cel x = true → X.fn x = true) : ∀ {ts : List Tg} {es : List Expr}, mTgs N sc cel ts es = true → PGs X es (rGs T ts) ∧ es.length = ts.length
  | [], es, h => by
    unfold mTgs at h
    have : es = [] := by simpa using h
    subst this
    exact ⟨gs_nil, rfl⟩
  | t :: ts, es, h => by
    unfold mTgs at h
    split at h
    · rename_i p ps
      rw [Bool.and_eq_true] at h
      obtain ⟨h1, h2⟩ := mTgs_ok hc hK nd e hN hf h.2
      have h0 := mTg_ok hc hK nd e hN hf h.1
      refine ⟨gs_cons h0 h1 ?_, by simp [h2]⟩
      cases p <;> first | rfl | (cases t <;> simp [mTg] at h)
    · cases h
end

/-- as a value, as a test -/
def Snd (tm : Bool) (X : Cx) (T : Top) (C : Ctx) (Wx : WX) (pe : Expr) (e : E) : Prop := if tm = true then PT X pe (rT T C Wx e) ∧ ((∃ op l p, pe = .BoolOp op l p) → PW X pe (rT T C Wx e)) else PE X pe (rE T C Wx e)
theorem snd_val {tm : Bool} {X : Cx} {Wx : WX} {pe : Expr} {e : E} (h : PE X pe (rE T C Wx e)) (hp : plainT pe = true) : Snd tm X T C Wx pe e := by
  unfold Snd
  split
  · refine ⟨t_val h hp, fun ⟨op, l, p, q⟩ => ?_⟩
    subst q
    cases hp
  · exact h
theorem snd_pe {X : Cx} {Wx : WX} {pe : Expr} {e : E} (h : Snd false X T C Wx pe e) : PE X pe (rE T C Wx e) := h
theorem snd_pt {X : Cx} {Wx : WX} {pe : Expr} {e : E} (h : Snd true X T C Wx pe e) : PT X pe (rT T C Wx e) := h.1
theorem isTrE_ok {t : E} (h : isTrE t = true) : t = .bl true := by
  unfold isTrE at h
  split at h
  · rfl
  · cases h
theorem isNonE_ok {t : E} (h : isNonE t = true) : t = .non := by
  unfold isNonE at h
  split at h
  · rfl
  · cases h
theorem isStE_ok {s : Str} {t : E} (h : isStE s t = true) : t = .str s := by
  unfold isStE at h
  split at h
  · rw [of_decide_eq_true h]
  · cases h
theorem tyN_ok {t : Ty} {x : Str} (h : tyN t = some x) : ∃ u, bootBuiltins x = some u ∧ RelV (isiV T t) u ∧ x ≠ "__name__" := by
  cases t <;> cases h <;> exact ⟨_, by decide +kernel, rfl, by decide +kernel⟩
theorem mTy_ok {X : Cx} {Wx : WX} {sc : Scope} {t : Ty} {pe : Expr} (c : Cn I N T C k sc X Wx) (h : mTy I sc t pe = true) : PE X pe (tC (isiV T t)) ∧ notStar pe = true ∧ IsiOk T C t := by
  unfold mTy at h
  split at h
  · rename_i x p
    simp only [Bool.and_eq_true] at h
    obtain ⟨⟨h1, h2⟩, h3⟩ := h
    have hg := gloB_ok c.sc h1
    have hd := (dbgB_ok h2).1
    split at h3
    · rename_i d
      obtain ⟨m, ok⟩ := c.wd.isc x d (of_decide_eq_true h3)
      exact ⟨pe_glob hg m rfl hd, rfl, ok⟩
    · rename_i t' hne
      rw [Bool.and_eq_true] at h3
      obtain ⟨u, b, r, nn⟩ := tyN_ok (T := T) (of_decide_eq_true h3.1)
      exact ⟨pe_bltn hg (c.wd.mis x (of_decide_eq_true h3.2)) b r nn hd, rfl, c.wd.isb _ fun d q => hne d q⟩
  · cases h

theorem slots_in {tz : Tg} {vs : List Nat} (h : tz.slots.all (fun i => decide (i ∈ vs)) = true) : ∀ i ∈ tz.slots, i ∈ (ownOf N vs).map (·.2) := fun i hi => by
  rw [ownOf_snd]
  exact of_decide_eq_true (List.all_eq_true.mp h i hi)
theorem cellB_ok {X : Cx} {s : Shared} {H : Hp} {scope : Scope} {D : Addr} {cl : List (Str × Addr)} {fp : List Addr} : ∀ x, cellB scope x = true → (X.blk s H scope (compEnvC scope cl D X.env) fp).fn x = true := fun x h => h
theorem blk_ok {X : Cx} {Wx : WX} {sc scope : Scope} {vs : List Nat} (c : Cn I N T C k sc X Wx) (h : blkC N sc scope (ownOf N vs) = true) : BlkOk X.N X.env.scope scope (ownOf N vs) := by
  rw [c.N, c.sc]
  exact blkOk_by h
theorem tgt_ok {X : Cx} {Wx : WX} {sc scope : Scope} {tz : Tg} {tg : Expr} (c : Cn I N T C k sc X Wx) (h : mTg N (relS scope sc) (cellB scope) tz tg = true) (s : Shared) (H : Hp) (D : Addr) (cl : List (Str × Addr)) (fp : List Addr) :
    PG (X.blk s H scope (compEnvC scope cl D X.env) fp) tg (rG T tz) := by
  have b := c.blk s H scope D cl fp
  exact mTg_ok b.L.calm b.L.K b.L.nd b.sc b.N cellB_ok h
theorem and3 {a b c : Bool} (h : (a && b && c) = true) : a = true ∧ b = true ∧ c = true := by simpa [Bool.and_eq_true, and_assoc] using h
theorem and4 {a b c d : Bool} (h : (a && b && c && d) = true) : a = true ∧ b = true ∧ c = true ∧ d = true := by simpa [Bool.and_eq_true, and_assoc] using h
theorem and5 {a b c d e : Bool} (h : (a && b && c && d && e) = true) : a = true ∧ b = true ∧ c = true ∧ d = true ∧ e = true := by simpa [Bool.and_eq_true, and_assoc] using h
theorem and6 {a b c d e f : Bool} (h : (a && b && c && d && e && f) = true) : a = true ∧ b = true ∧ c = true ∧ d = true ∧ e = true ∧ f = true := by simpa [Bool.and_eq_true, and_assoc] using h
theorem and7 {a b c d e f g : Bool} (h : (a && b && c && d && e && f && g) = true) : a = true ∧ b = true ∧ c = true ∧ d = true ∧ e = true ∧ f = true ∧ g = true := by simpa [Bool.and_eq_true, and_assoc] using h
mutual
theorem mE_ok : ∀ (e : E) {tm : Bool} {pe : Expr} {sc : Scope} {X : Cx} {Wx : WX}, Cn I N T C k sc X Wx → mE I N sc tm e pe = true → Snd tm X T C Wx pe e
  | .non, tm, pe, sc, X, Wx, c, h => by
    unfold mE at h
    split at h
    · exact snd_val z_non rfl
    · cases h
  | .bl b, tm, pe, sc, X, Wx, c, h => by
    unfold mE at h
    split at h
    · rw [of_decide_eq_true h]
      exact snd_val z_bl rfl
    · cases h
  | .int b, tm, pe, sc, X, Wx, c, h => by
    unfold mE at h
    split at h
    · rw [of_decide_eq_true h]
      exact snd_val z_int rfl
    · cases h
  | .str b, tm, pe, sc, X, Wx, c, h => by
    unfold mE at h
    split at h
    · rw [of_decide_eq_true h]
      exact snd_val z_str rfl
    · cases h
  | .v i, tm, pe, sc, X, Wx, c, h => by
    unfold mE at h
    split at h
    · obtain ⟨h1, h2, h3⟩ := and3 h
      obtain ⟨d1, d2⟩ := dbgB_ok h3
      exact snd_val (z_v (by rw [c.N]; exact of_decide_eq_true h1) (by rw [c.sc]; exact visB_ok h2) d1 d2) rfl
    · cases h
  | .gv n, tm, pe, sc, X, Wx, c, h => by
    unfold mE at h
    split at h
    · obtain ⟨h1, h2, h3⟩ := and3 h
      obtain ⟨y, v, u, e1, e2, e3, e4⟩ := c.wd.con _ n (of_decide_eq_true h1)
      exact snd_val (z_gv (gloB_ok c.sc h2) e1 e2 (dbgB_ok h3).1 e3 e4) rfl
    · cases h
  | .tup es, tm, pe, sc, X, Wx, c, h => by
    unfold mE at h
    split at h
    · exact snd_val (z_tup (mEs_ok es c h)) rfl
    · cases h
  | .lst b es, tm, pe, sc, X, Wx, c, h => by
    unfold mE at h
    split at h
    · exact snd_val (z_lst (mEs_ok es c h)) rfl
    · cases h
  | .op o a b, tm, pe, sc, X, Wx, c, h => by
    unfold mE at h
    split at h
    · obtain ⟨h1, h2, h3⟩ := and3 h
      rw [← of_decide_eq_true h1]
      exact snd_val (z_op c.L (snd_pe (mE_ok a c h2)) (snd_pe (mE_ok b c h3))) rfl
    · cases h
  | .neg a, tm, pe, sc, X, Wx, c, h => by
    unfold mE at h
    split at h
    · exact snd_val (z_neg (snd_pe (mE_ok a c h))) rfl
    · cases h
  | .not a, tm, pe, sc, X, Wx, c, h => by
    unfold mE at h
    split at h
    · have r := mE_ok a c h
      cases tm with
      | true =>
        unfold Snd
        rw [if_pos rfl]
        exact ⟨t_not (snd_pt r), fun ⟨_, _, _, q⟩ => nomatch q⟩
      | false => exact z_not (snd_pe r)
    · cases h
  | .cmp o a b, tm, pe, sc, X, Wx, c, h => by
    unfold mE at h
    split at h
    · obtain ⟨h1, h2, h3, h4⟩ := and4 h
      have ra := snd_pe (mE_ok a c h3)
      have rb := snd_pe (mE_ok b c h4)
      have e1 := of_decide_eq_true h1
      subst e1
      have hm := (Bool.not_eq_true' _).mp h2
      cases tm with
      | true =>
        unfold Snd
        rw [if_pos rfl]
        exact ⟨t_cmp c.L ra rb hm, fun ⟨_, _, _, q⟩ => nomatch q⟩
      | false => exact z_cmp c.L ra rb hm
    · cases h
  | .chn o1 o2 a b d, tm, pe, sc, X, Wx, c, h => by
    unfold mE at h
    split at h
    · obtain ⟨h1, h2, h3, h4, h5, h6⟩ := and6 h
      have ra := snd_pe (mE_ok a c h4)
      have rb := snd_pe (mE_ok b c h5)
      have rd := snd_pe (mE_ok d c h6)
      have e1 := of_decide_eq_true h1
      have e2 := of_decide_eq_true h2
      subst e1 e2
      have hm := (Bool.not_eq_true' _).mp h3
      cases tm with
      | true =>
        unfold Snd
        rw [if_pos rfl]
        exact ⟨t_chn c.L ra rb rd hm, fun ⟨_, _, _, q⟩ => nomatch q⟩
      | false => exact z_chn c.L ra rb rd hm
    · cases h
  | .and a b, tm, pe, sc, X, Wx, c, h => by
    unfold mE at h
    split at h
    · rw [Bool.and_eq_true] at h
      have ra := mE_ok a c h.1
      have rb := mE_ok b c h.2
      cases tm with
      | true =>
        unfold Snd
        rw [if_pos rfl]
        exact ⟨(w_and (snd_pt ra) (w_and1 (snd_pt rb))).pt, fun _ => w_and (snd_pt ra) (w_and1 (snd_pt rb))⟩
      | false => exact z_and (snd_pe ra) (z_one (snd_pe rb))
    · rw [Bool.and_eq_true] at h
      have ra := mE_ok a c h.1
      have rb := mE_ok b c h.2
      cases tm with
      | true =>
        unfold Snd at rb
        rw [if_pos rfl] at rb
        unfold Snd
        rw [if_pos rfl]
        exact ⟨(w_and (snd_pt ra) (rb.2 ⟨_, _, _, rfl⟩)).pt, fun _ => w_and (snd_pt ra) (rb.2 ⟨_, _, _, rfl⟩)⟩
      | false => exact z_and (snd_pe ra) (snd_pe rb)
    · cases h
  | .or a b, tm, pe, sc, X, Wx, c, h => by
    unfold mE at h
    split at h
    · rw [Bool.and_eq_true] at h
      have ra := mE_ok a c h.1
      have rb := mE_ok b c h.2
      cases tm with
      | true =>
        unfold Snd
        rw [if_pos rfl]
        exact ⟨(w_or (snd_pt ra) (w_or1 (snd_pt rb))).pt, fun _ => w_or (snd_pt ra) (w_or1 (snd_pt rb))⟩
      | false => exact z_or (snd_pe ra) (z_one (snd_pe rb))
    · rw [Bool.and_eq_true] at h
      have ra := mE_ok a c h.1
      have rb := mE_ok b c h.2
      cases tm with
      | true =>
        unfold Snd at rb
        rw [if_pos rfl] at rb
        unfold Snd
        rw [if_pos rfl]
        exact ⟨(w_or (snd_pt ra) (rb.2 ⟨_, _, _, rfl⟩)).pt, fun _ => w_or (snd_pt ra) (rb.2 ⟨_, _, _, rfl⟩)⟩
      | false => exact z_or (snd_pe ra) (snd_pe rb)
    · cases h
  | .ife t a b, tm, pe, sc, X, Wx, c, h => by
    unfold mE at h
    split at h
    · obtain ⟨h1, h2, h3, h4⟩ := and4 h
      cases tm with
      | true => cases h1
      | false => exact z_ife (snd_pt (mE_ok t c h2)) (snd_pe (mE_ok a c h3)) (snd_pe (mE_ok b c h4))
    · cases h
  | .ix a b, tm, pe, sc, X, Wx, c, h => by
    unfold mE at h
    split at h
    · obtain ⟨h1, h2, h3⟩ := and3 h
      exact snd_val (z_ix c.L (snd_pe (mE_ok a c h2)) (snd_pe (mE_ok b c h3)) (plainIx_ok h1)) rfl
    · cases h
  | .sl a lo hi, tm, pe, sc, X, Wx, c, h => by
    unfold mE at h
    split at h
    · rename_i pa plo phi _ _
      obtain ⟨h1, h2, h3⟩ := and3 h
      have pl : PartOf X T C Wx plo lo := by
        cases plo with
        | none => exact .inl ⟨rfl, isNonE_ok h2⟩
        | some p => exact .inr ⟨p, rfl, snd_pe (mE_ok lo c h2)⟩
      have ph : PartOf X T C Wx phi hi := by
        cases phi with
        | none => exact .inl ⟨rfl, isNonE_ok h3⟩
        | some p => exact .inr ⟨p, rfl, snd_pe (mE_ok hi c h3)⟩
      exact snd_val (z_sl c.L (snd_pe (mE_ok a c h1)) pl ph) rfl
    · cases h
  | .rev a, tm, pe, sc, X, Wx, c, h => by
    unfold mE at h
    split at h
    · exact snd_val (z_rev c.L (snd_pe (mE_ok a c h))) rfl
    · cases h
  | .call f es, tm, pe, sc, X, Wx, c, h => by
    unfold mE at h
    split at h
    · rename_i x p l pos
      obtain ⟨h1, h2, h3, h4, h5⟩ := and5 h
      obtain ⟨e1, e2, e3⟩ := c.wd.fn x f (of_decide_eq_true h1)
      have e2' : PySem.W.keepIn X.K (.ref (T.fa f)) = true := by rw [c.L.K]; exact e2
      cases l with
      | cons q l => exact snd_val (z_call (c.call e3) (gloB_ok c.sc h2) e1 e2' (mEs_ok es c h5) h4 (dbgB_ok h3).1) rfl
      | nil =>
        cases es with
        | nil => exact snd_val (z_call0 (c.call e3) (gloB_ok c.sc h2) e1 e2' (dbgB_ok h3).1) rfl
        | cons a b => simp [mEs] at h5
        | star a b => simp [mEs] at h5
    · cases h
  | .calk _ _ _, tm, pe, sc, X, Wx, c, h => by
    unfold mE at h
    cases h
  | .meth d f o es, tm, pe, sc, X, Wx, c, h => by
    unfold mE at h
    split at h
    · rename_i po m ap l pos
      obtain ⟨h1, h2, h3, h4, h5, h6, h7⟩ := and7 h
      obtain ⟨cl, me, hn, hf⟩ := c.wd.met m d f (of_decide_eq_true h1)
      have cl' : Cls X.K (T.ca d) := by rw [c.L.K]; exact cl
      have me' : Meth X.K (T.ca d) m (T.fa f) := by rw [c.L.K]; exact me
      have ev := fun (args : List Expr) (q1 : args.all notStar = true) (q2 : args.length < 30) => meth_eval (name := m) (env := X.env) h5 q1 q2 h4
      cases l with
      | cons q l => exact snd_val (z_meth (snd_pe (mE_ok o c h6)) (c.call hf) cl' me' hn (mEs_ok es c h7) h2 (ev _ h2 (of_decide_eq_true h3))) rfl
      | nil =>
        cases es with
        | nil => exact snd_val (z_meth0 (snd_pe (mE_ok o c h6)) (c.call hf) cl' me' hn (ev [] rfl (by decide))) rfl
        | cons a b => simp [mEs] at h7
        | star a b => simp [mEs] at h7
    · cases h
  | .prop d f o, tm, pe, sc, X, Wx, c, h => by
    unfold mE at h
    split at h
    · obtain ⟨h1, h2, h3⟩ := and3 h
      exact snd_val (z_prop (snd_pe (mE_ok o c h3)) (c.prop (of_decide_eq_true h1)) (base_ok h2)) rfl
    · cases h
  | .new d f n es, tm, pe, sc, X, Wx, c, h => by
    unfold mE at h
    split at h
    · obtain ⟨h1, h2, h3, h4, h5⟩ := and5 h
      obtain ⟨e1, e2, _⟩ := c.wd.new _ d f n (of_decide_eq_true h1)
      exact snd_val (z_new (c.new (of_decide_eq_true h1)) (gloB_ok c.sc h2) e1 (by rw [c.L.K]; exact e2) (mEs_ok es c h5) h4 (dbgB_ok h3).1) rfl
    · cases h
  | .fld d i o, tm, pe, sc, X, Wx, c, h => by
    unfold mE at h
    split at h
    · obtain ⟨h1, h2, h3⟩ := and3 h
      obtain ⟨cf, e1, _⟩ := c.wd.fld _ d i (of_decide_eq_true h1)
      exact snd_val (z_fld c.L (snd_pe (mE_ok o c h3)) (base_ok h2) cf e1) rfl
    · cases h
  | .isi t e, tm, pe, sc, X, Wx, c, h => by
    unfold mE at h
    split at h
    · obtain ⟨h1, h2, h3, h4, h5, h6⟩ := and6 h
      have e1 := of_decide_eq_true h1
      subst e1
      obtain ⟨q1, q2, q3⟩ := mTy_ok c h5
      exact snd_val (run_isi (u2 := .none) (te := tC .non) c.L c.wd.isi q3 (snd_pe (mE_ok e c h6)) q1 (gloB_ok c.sc h2) (c.wd.mis _ (of_decide_eq_true h3)) h4 q2) rfl
    · cases h
  | .bi b w es, tm, pe, sc, X, Wx, c, h => by
    unfold mE at h
    split at h
    · obtain ⟨h1, h2, h3, h4, h5, h6⟩ := and6 h
      have e1 := of_decide_eq_true h2
      subst e1
      exact snd_val (z_bi (c.bi h1) h1 (gloB_ok c.sc h3) (c.wd.mis _ (of_decide_eq_true h4)) (mEs_ok es c h6) h5) rfl
    · cases h
  | .sm m w o es, tm, pe, sc, X, Wx, c, h => by
    unfold mE at h
    split at h
    · obtain ⟨h1, h2, h3, h4, h5, h6⟩ := and6 h
      split at h1
      · have e1 := of_decide_eq_true h1
        subst e1
        exact snd_val (z_join c.L (snd_pe (mE_ok o c h5)) (mEs_ok es c h6) h2 h3 h4) rfl
      · cases h1
    · cases h
  | .lm m o es, tm, pe, sc, X, Wx, c, h => by
    unfold mE at h
    split at h
    · obtain ⟨h1, h2, h3, h4, h5, h6⟩ := and6 h
      split at h1
      · have e1 := of_decide_eq_true h1
        subst e1
        exact snd_val (z_append (snd_pe (mE_ok o c h5)) (mEs_ok es c h6) h2 h3 h4) rfl
      · have e1 := of_decide_eq_true h1
        subst e1
        exact snd_val (z_extend (snd_pe (mE_ok o c h5)) (mEs_ok es c h6) h2 h3 h4) rfl
      · have e1 := of_decide_eq_true h1
        subst e1
        exact snd_val (z_popi (snd_pe (mE_ok o c h5)) (mEs_ok es c h6) h2 h3 h4) rfl
      · cases h1
    · obtain ⟨h1, h3, h4, h5, h6⟩ := and5 h
      split at h1
      · have e1 := of_decide_eq_true h1
        subst e1
        cases es with
        | nil => exact snd_val (z_pop (snd_pe (mE_ok o c h5)) h3 h4) rfl
        | cons a b => simp [mEs] at h6
        | star a b => simp [mEs] at h6
      · cases h1
    · cases h
  | .lc w vs tz it t e, tm, pe, sc, X, Wx, c, h => by
    unfold mE at h
    split at h
    · rename_i elt tg iter ifs scope pos
      obtain ⟨h1, h2, h3, h4, h5, h6, h7⟩ := and7 h
      have R := z_lc (k := w) (own := ownOf N vs) (pos := pos) c.L (mI_ok it (tg := tg) c h5) (blk_ok c h2) (slots_in h3) (tgt_ok c h4) (t := t) (ifs := ifs) (fun s H D cl fp => by
        have b := c.blk s H scope D cl fp
        split at h6
        · rw [isTrE_ok h6]
          exact ts_nil
        · exact ts_one (snd_pt (mE_ok t b h6))
        · cases h6) (fun s H D cl fp => snd_pe (mE_ok e (c.blk s H scope D cl fp) h7)) (notSet_ok h1 X.env)
      rw [ownOf_snd] at R
      exact snd_val R rfl
    · cases h
  | .lc2 w vs vs1 tz it t tz1 it1 t1 e, tm, pe, sc, X, Wx, c, h => by
    unfold mE at h
    split at h
    · rename_i elt tg iter ifs tg1 iter1 ifs1 scope pos
      obtain ⟨h, h13⟩ := (Bool.and_eq_true _ _).mp h
      obtain ⟨h, h12⟩ := (Bool.and_eq_true _ _).mp h
      obtain ⟨h, h11⟩ := (Bool.and_eq_true _ _).mp h
      obtain ⟨h, h10⟩ := (Bool.and_eq_true _ _).mp h
      obtain ⟨h, h9⟩ := (Bool.and_eq_true _ _).mp h
      obtain ⟨h, h8⟩ := (Bool.and_eq_true _ _).mp h
      obtain ⟨h, h7⟩ := (Bool.and_eq_true _ _).mp h
      obtain ⟨h1, h2, h3, h4, h5, h6⟩ := and6 h
      have R := z_lc2 (k := w) (own := ownOf N vs) (vs1 := vs1) (pos := pos) c.L (mI_ok it (tg := tg) c h9) (blk_ok c h3) (fun i hi => by rw [ownOf_snd]; exact of_decide_eq_true (List.all_eq_true.mp h6 i hi)) (slots_in h4) (fun i hi => of_decide_eq_true (List.all_eq_true.mp h5 i hi)) (tgt_ok c h7) (t := t) (ifs := ifs) (fun s H D cl fp => by
        have b := c.blk s H scope D cl fp
        split at h11
        · rw [isTrE_ok h11]
          exact ts_nil
        · exact ts_one (snd_pt (mE_ok t b h11))
        · cases h11) (fun s H D cl fp => mI_ok it1 (tg := tg1) (c.blk s H scope D cl fp) h10) (tgt_ok c h8) (t1 := t1) (ifs1 := ifs1) (fun s H D cl fp => by
        have b := c.blk s H scope D cl fp
        split at h12
        · rw [isTrE_ok h12]
          exact ts_nil
        · exact ts_one (snd_pt (mE_ok t1 b h12))
        · cases h12) (fun s H D cl fp => snd_pe (mE_ok e (c.blk s H scope D cl fp) h13)) (notSet_ok h1 X.env) (notSet_ok h2)
      rw [ownOf_snd] at R
      exact snd_val R rfl
    · cases h
  | .fst es, tm, pe, sc, X, Wx, c, h => by
    unfold mE at h
    split at h
    · rw [Bool.and_eq_true] at h
      obtain ⟨h1, h2⟩ := h
      split at h1
      · obtain ⟨ts, fj⟩ := mF_ok es c h2
        exact snd_val (z_fst fj) rfl
      · cases h1
    · cases h
  | .srtk _ _ _, tm, pe, sc, X, Wx, c, h => by
    unfold mE at h
    cases h
  | .rgt l w a, tm, pe, sc, X, Wx, c, h => by
    unfold mE at h
    split at h
    · obtain ⟨h1, h2, h3, h4, h5, h6, h7⟩ := and7 h
      rw [Bool.and_eq_true] at h7
      have e1 := of_decide_eq_true h1
      have e2 := of_decide_eq_true h2
      subst e1 e2
      cases l with
      | true => exact snd_val (z_rgl c.L (gloB_ok c.sc h3) (c.wd.mis _ (of_decide_eq_true h5)) (gloB_ok c.sc h4) (c.wd.mis _ (of_decide_eq_true h6)) h7.1 (snd_pe (mE_ok a c h7.2))) rfl
      | false => exact snd_val (z_rgt c.L (gloB_ok c.sc h3) (c.wd.mis _ (of_decide_eq_true h5)) (gloB_ok c.sc h4) (c.wd.mis _ (of_decide_eq_true h6)) h7.1 (snd_pe (mE_ok a c h7.2))) rfl
    · cases h
theorem mEs_ok : ∀ (es : Es) {l : List Expr} {sc : Scope} {X : Cx} {Wx : WX}, Cn I N T C k sc X Wx → mEs I N sc false es l = true → PA X l (rEs T C Wx es)
  | .nil, l, sc, X, Wx, c, h => by
    unfold mEs at h
    have : l = [] := by simpa using h
    subst this
    exact za_nil
  | .cons e es, l, sc, X, Wx, c, h => by
    unfold mEs at h
    split at h
    · rw [Bool.and_eq_true, if_neg Bool.false_ne_true, Bool.and_eq_true] at h
      exact za_cons (snd_pe (mE_ok e c h.1.2)) (mEs_ok es c h.2) h.1.1
    · cases h
  | .star e es, l, sc, X, Wx, c, h => by
    unfold mEs at h
    split at h
    · obtain ⟨h1, h2, h3⟩ := and3 h
      exact za_star c.L (snd_pe (mE_ok e c h2)) (mEs_ok es c h3)
    · cases h
theorem mF_ok : ∀ (es : Es) {l : List Expr} {sc : Scope} {X : Cx} {Wx : WX}, Cn I N T C k sc X Wx → mEs I N sc true es l = true → ∃ ts, FJ X T C Wx l es ts
  | .nil, l, sc, X, Wx, c, h => by
    unfold mEs at h
    have : l = [] := by simpa using h
    subst this
    exact ⟨_, .nil⟩
  | .cons e es, l, sc, X, Wx, c, h => by
    unfold mEs at h
    split at h
    · rw [Bool.and_eq_true, if_pos rfl] at h
      obtain ⟨h1, h2⟩ := h
      obtain ⟨ts, r⟩ := mF_ok es c h2
      split at h1
      · rw [isStE_ok h1]
        exact ⟨_, .cs r⟩
      · exact ⟨_, .fm (snd_pe (mE_ok e c h1)) r⟩
      · cases h1
    · cases h
  | .star e es, l, sc, X, Wx, c, h => by
    unfold mEs at h
    split at h
    · obtain ⟨h1, _, _⟩ := and3 h
      cases h1
    · cases h
theorem mI_ok : ∀ (it : Z.It) {pe tg : Expr} {sc : Scope} {X : Cx} {Wx : WX}, Cn I N T C k sc X Wx → mI I N sc it pe tg = true → PI X tg pe (rI T C Wx it)
  | .val e, pe, tg, sc, X, Wx, c, h => by
    unfold mI at h
    exact i_val c.L (snd_pe (mE_ok e c h))
  | .rng1 a, pe, tg, sc, X, Wx, c, h => by
    unfold mI at h
    split at h
    · obtain ⟨h1, h2, h3, h4, h5⟩ := and5 h
      have e1 := of_decide_eq_true h1
      subst e1
      exact i_rng1 (gloB_ok c.sc h2) (c.wd.mis _ (of_decide_eq_true h3)) h4 (snd_pe (mE_ok a c h5))
    · cases h
  | .rng2 a b, pe, tg, sc, X, Wx, c, h => by
    unfold mI at h
    split at h
    · obtain ⟨h1, h2, h3, h4, h5, h6, h7⟩ := and7 h
      have e1 := of_decide_eq_true h1
      subst e1
      exact i_rng2 (gloB_ok c.sc h2) (c.wd.mis _ (of_decide_eq_true h3)) h4 h5 (snd_pe (mE_ok a c h6)) (snd_pe (mE_ok b c h7))
    · cases h
  | .zip a b, pe, tg, sc, X, Wx, c, h => by
    unfold mI at h
    split at h
    · obtain ⟨h1, h2, h3, h4, h5, h6, h7⟩ := and7 h
      rw [Bool.and_eq_true] at h7
      have e1 := of_decide_eq_true h1
      subst e1
      cases tg with
      | Tuple => exact i_zip c.L (gloB_ok c.sc h2) (c.wd.mis _ (of_decide_eq_true h3)) h4 h5 (snd_pe (mE_ok a c h7.1)) (snd_pe (mE_ok b c h7.2))
      | _ => cases h6
    · cases h
  | .enum a, pe, tg, sc, X, Wx, c, h => by
    unfold mI at h
    split at h
    · obtain ⟨h1, h2, h3, h4, h5, h6⟩ := and6 h
      have e1 := of_decide_eq_true h1
      subst e1
      cases tg with
      | Tuple => exact i_enum c.L.K (gloB_ok c.sc h2) (c.wd.mis _ (of_decide_eq_true h3)) h4 (snd_pe (mE_ok a c h6))
      | _ => cases h5
    · cases h
end
end
end Z

namespace Z
open PySem PySem.Spec PyProof.Rows L2

def notComp : Expr → Bool
  | .ListComp _ _ _ _ => false
  | .SetComp _ _ _ _ => false
  | .DictComp _ _ _ _ _ => false
  | _ => true
/-- is the value stored by the comprehension itself? -/
def swV (sc : Scope) (x : Str) (py : Pos) : Expr → Bool
  | .ListComp e gs s p => sc.names.lookup x == some .local && py.line == (Expr.ListComp e gs s p).pos.line && !(s.names.any fun (n, k) => n == x && (k == .local || k == .cell))
  | .SetComp e gs s p => sc.names.lookup x == some .local && py.line == (Expr.SetComp e gs s p).pos.line && !(s.names.any fun (n, k) => n == x && (k == .local || k == .cell))
  | .DictComp a b gs s p => sc.names.lookup x == some .local && py.line == (Expr.DictComp a b gs s p).pos.line && !(s.names.any fun (n, k) => n == x && (k == .local || k == .cell))
  | _ => false
theorem fun_block {env : PySem.Env} (h : env.scope.kind = .function) : env.blockKind = .function := by
  unfold Env.blockKind
  rw [h]
  rfl
theorem swV_ok {env : PySem.Env} {sc : Scope} {x : Str} {py : Pos} {pe : Expr} {l : Nat} (h : env.scope = sc) (hk : sc.kind = .function) : swapsWith pe (some (.Name x py)) l env = pure (swV sc x py pe) := by
  have hb := fun_block (env := env) (by rw [h]; exact hk)
  subst h
  unfold swapsWith
  cases pe <;> first
    | rfl
    | (simp only [hb]; rfl)
theorem sw_none {env : PySem.Env} {pe : Expr} {l : Nat} (h : notComp pe = true) : swapsWith pe none l env = pure false := by
  cases pe <;> first | rfl | cases h
theorem sw_attr {env : PySem.Env} {pe o : Expr} {f : Str} {p : Pos} {l : Nat} : swapsWith pe (some (.Attribute o f p)) l env = pure false := by
  cases pe <;> rfl
theorem sw_sole_tup {env : PySem.Env} {pe : Expr} {ts : List Expr} {k : Nat} {p : Pos} {l : Nat} : swapsWithSole [.Tuple ts k p] pe l env = pure false := by
  show swapsWith pe (some (.Tuple ts k p)) l env = pure false
  cases pe <;> rfl
theorem sw_sole_sub {env : PySem.Env} {pe o i : Expr} {p : Pos} {l : Nat} : swapsWithSole [.Subscript o i p] pe l env = pure false := by
  show swapsWith pe (some (.Subscript o i p)) l env = pure false
  cases pe <;> rfl
def notTup : Expr → Bool
  | .Tuple _ _ _ => false
  | _ => true
theorem st_none {env : PySem.Env} {pe : Expr} {ts : List Expr} {k : Nat} {p : Pos} (h : notTup pe = true) : swappedStores [.Tuple ts k p] pe env = pure none := by
  cases pe <;> first | rfl | cases h
theorem st_sub {env : PySem.Env} {pe o i : Expr} {p : Pos} : swappedStores [.Subscript o i p] pe env = pure none := by
  cases pe <;> rfl
def isStar : Expr → Bool
  | .Starred _ _ => true
  | _ => false
def plainN (sc : Scope) (l : Nat) : Expr → Option Str
  | .Name id pos => if sc.names.lookup id == some .local && pos.line == l then some id else none
  | _ => none
def namesN (sc : Scope) (ts : List Expr) : List Str := ts.filterMap (plainN sc ((ts.head?.map (·.pos.line)).getD 0))
/-- which names are stored from the right; none: not told here -/
def swF (sc : Scope) (ts vs : List Expr) : Option (Option (List Str)) :=
  if !(ts.length == 2 || ts.length == 3) || vs.length != ts.length then some none
  else if vs.any isStar then some none
  else if (namesN sc ts).length != ts.length || (namesN sc ts).eraseDups.length != (namesN sc ts).length then some none
  else if vs.all (foldedForSure 8) then some none
  else if vs.all (constantsAlone 8) then none
  else some (some (namesN sc ts))
theorem plainN_eq {env : PySem.Env} {l : Nat} : plainN env.scope l = fun
    | .Name id pos => if env.kindOf id == some .local && pos.line == l then some id else none
    | _ => none := by
  funext e
  cases e <;> rfl
theorem swF_ok {env : PySem.Env} {sc : Scope} {ts vs : List Expr} {k k2 : Nat} {p p2 : Pos} {r : Option (List Str)} (h : env.scope = sc) (hk : sc.kind = .function) (e : swF sc ts vs = some r) : swappedStores [.Tuple ts k p] (.Tuple vs k2 p2) env = pure r := by
  have hb := fun_block (env := env) (by rw [h]; exact hk)
  subst h
  have hb2 : (env.blockKind != ScopeKind.function) = false := by rw [hb]; rfl
  have shape : swappedStores [.Tuple ts k p] (.Tuple vs k2 p2) env = (if (!(ts.length == 2 || ts.length == 3) || vs.length != ts.length || env.blockKind != .function) = true then pure none
      else if (vs.any isStar) = true then pure none
      else if ((namesN env.scope ts).length != ts.length || (namesN env.scope ts).eraseDups.length != (namesN env.scope ts).length) = true then pure none
      else if (vs.all (foldedForSure 8)) = true then pure none
      else if (vs.all (constantsAlone 8)) = true then (unsupported "assign.tuple-of-constant-expressions:order-of-the-stores" >>= fun (_ : PUnit) => pure (some (namesN env.scope ts))) else pure (some (namesN env.scope ts))) := by
    unfold swappedStores namesN
    rw [plainN_eq]
    rfl
  rw [shape]
  unfold swF at e
  rw [hb2, Bool.or_false]
  split at e
  · rename_i c
    cases e
    rw [if_pos c]
  · rename_i c
    rw [if_neg c]
    split at e
    · rename_i c
      cases e
      rw [if_pos c]
    · rename_i c
      rw [if_neg c]
      split at e
      · rename_i c
        cases e
        rw [if_pos c]
      · rename_i c
        rw [if_neg c]
        split at e
        · rename_i c
          cases e
          rw [if_pos c]
        · rename_i c
          rw [if_neg c]
          split at e
          · cases e
          · rename_i c
            cases e
            rw [if_neg c]

def yes : Str → Bool := fun _ => true
section
variable (I : Inf) (N : List Str) (sc : Scope)
def mNs : List Nat → List Expr → Bool
  | [], es => es.isEmpty
  | i :: is, es => match es with
    | .Name x _ :: ps => stB N sc yes i x && mNs is ps
    | _ => false
def locB (x : Str) : Bool := match sc.names.lookup x with
  | some .local => true
  | _ => false
def mPar (is : List Nat) (ts vs : List Expr) : Bool := match swF sc ts vs with
  | none => false
  | some none => mNs N sc is ts && lim is.length && decide (ts.length = is.length)
  | some (some _) => match is, ts, vs with
    | [i, j], [.Name x _, .Name y _], [_, _] => decide (swF sc ts vs = some (some [x, y])) && decide (N[i]? = some x) && decide (N[j]? = some y) && decide (i ≠ j) && locB sc x && locB sc y
    | [i, j, l], [.Name x _, .Name y _, .Name z _], [_, _, _] => decide (swF sc ts vs = some (some [x, y, z])) && decide (N[i]? = some x) && decide (N[j]? = some y) && decide (N[l]? = some z) && decide (i ≠ j) && decide (i ≠ l) && decide (j ≠ l) && locB sc x && locB sc y && locB sc z
    | _, _, _ => false
/-- name = value: is the value a comprehension that is stored by itself, one that may be? -/
def mSet (i : Nat) (x : Str) (py : Pos) (e : E) (pe : Expr) : Bool := if swV sc x py pe then decide (N[i]? = some x) && locB sc x && (match e with
    | .lc _ _ _ _ _ _ => true
    | .lc2 _ _ _ _ _ _ _ _ _ _ => true
    | _ => false)
  else stB N sc yes i x
mutual
def mS : S → Stmt → Bool
  | .bad, _ => true
  | .ex e, ps => match ps with
    | .Expr pe _ => notComp pe && mE I N sc false e pe
    | _ => false
  | .set tz e, ps => match tz with
    | .n i => match ps with
      | .Assign [.Name x py] pe _ => mSet N sc i x py e pe && mE I N sc false e pe
      | _ => false
    | .t ts => match ps with
      | .Assign [.Tuple tes tk tp] pe _ => notTup pe && mTg N sc yes (.t ts) (.Tuple tes tk tp) && mE I N sc false e pe
      | _ => false
  | .par is es, ps => match ps with
    | .Assign [.Tuple tes _ _] (.Tuple ves _ _) _ => mPar N sc is tes ves && tes.all notStar && mEs I N sc false es ves
    | _ => false
  | .seti o i e, ps => match ps with
    | .Assign [.Subscript po pi _] pe _ => plainIx pi && mE I N sc false o po && mE I N sc false i pi && mE I N sc false e pe
    | _ => false
  | .sown k i e, ps => match ps with
    | .Assign [.Attribute (.Name x _) f _] pe _ => decide ((f, k, i) ∈ I.flds) && decide (N[0]? = some x) && visB sc x && dbgB x && mE I N sc false e pe
    | _ => false
  | .ret e, ps => match ps with
    | .Return (some pe) _ => mE I N sc false e pe
    | _ => false
  | .retn, ps => match ps with
    | .Return none _ => true
    | _ => false
  | .ife t a b, ps => match ps with
    | .If pt pa pb _ => mE I N sc true t pt && mSs a pa && mSs b pb
    | _ => false
  | .for_ tz it b, ps => match ps with
    | .For pt pi pb [] _ => notSet pi && mTg N sc yes tz pt && mI I N sc it pi pt && mSs b pb
    | _ => false
  | .whl t b, ps => match ps with
    | .While pt pb [] _ => mE I N sc true t pt && mSs b pb
    | _ => false
  | .rai _ _, _ => false
  | .try_ _ _, _ => false
  | .pass, ps => match ps with
    | .Pass _ => true
    | _ => false
  | .brk, ps => match ps with
    | .Break _ => true
    | _ => false
  | .cnt, ps => match ps with
    | .Continue _ => true
    | _ => false
  | .doc, ps => match ps with
    | .Expr (.Constant (.str _) _ _) _ => true
    | _ => false
def mSs : Ss → List Stmt → Bool
  | .nil, l => l.isEmpty
  | .cons s ss, l => match l with
    | p :: ps => mS s p && mSs ss ps
    | [] => false
end
end
structure Cs (I : Inf) (N : List Str) (T : Top) (C : Ctx) (k : Nat) (sc : Scope) (X : Cx) (Wx : WX) : Prop where
  n : Cn I N T C k sc X Wx
  po : PassesOwn (model X.prog X.w) X.A X.env X.xe
  fn : ∀ x, X.fn x = true
  kd : sc.kind = .function
section
variable {I : Inf} {N : List Str} {T : Top} {C : Ctx} {k : Nat} {sc : Scope} {X : Cx} {Wx : WX}
theorem locB_ok {x : Str} (h : locB sc x = true) : sc.names.lookup x = some .local := by
  unfold locB at h
  split at h
  · assumption
  · cases h
theorem mNs_ok (c : Cs I N T C k sc X Wx) : ∀ {is : List Nat} {es : List Expr}, mNs N sc is es = true → PGs X es (rNs is)
  | [], es, h => by
    unfold mNs at h
    have : es = [] := by simpa using h
    subst this
    exact ns_nil
  | i :: is, es, h => by
    unfold mNs at h
    split at h
    · rw [Bool.and_eq_true] at h
      obtain ⟨h1, h2, h3⟩ := stB_ok (X := X) (cel := yes) c.n.sc c.n.N (fun x _ => c.fn x) h.1
      exact ns_cons c.n.L.nd h1 h2 h3 (mNs_ok c h.2)
    · cases h
theorem par_ok (c : Cs I N T C k sc X Wx) {is : List Nat} {es : Es} {ts vs : List Expr} {k1 k2 : Nat} {p1 p2 pos : Pos} (h : mPar N sc is ts vs = true) (hn : ts.all notStar = true) (ha : PA X vs (rEs T C Wx es)) :
    PS X (.Assign [.Tuple ts k1 p1] (.Tuple vs k2 p2) pos) (rS T C Wx (.par is es)) := by
  unfold mPar at h
  split at h
  · cases h
  · rename_i e
    obtain ⟨h1, h2, h3⟩ := and3 h
    exact z_parT c.n.L (mNs_ok c h1) hn (of_decide_eq_true h3) ha h2 (swF_ok c.n.sc c.kd e) sw_sole_tup (by rfl)
  · split at h
    · obtain ⟨h1, h2, h3, h4, h5, h6⟩ := and6 h
      exact z_par2 c.n.L (by rw [c.n.N]; exact of_decide_eq_true h2) (by rw [c.n.N]; exact of_decide_eq_true h3) (of_decide_eq_true h4) (by rw [c.n.sc]; exact locB_ok h5) (by rw [c.n.sc]; exact locB_ok h6) ha (swF_ok c.n.sc c.kd (of_decide_eq_true h1)) sw_sole_tup
    · obtain ⟨h, q3⟩ := (Bool.and_eq_true _ _).mp h
      obtain ⟨h, q2⟩ := (Bool.and_eq_true _ _).mp h
      obtain ⟨h, q1⟩ := (Bool.and_eq_true _ _).mp h
      obtain ⟨h1, h2, h3, h4, h5, h6, h7⟩ := and7 h
      exact z_par3 c.n.L (by rw [c.n.N]; exact of_decide_eq_true h2) (by rw [c.n.N]; exact of_decide_eq_true h3) (by rw [c.n.N]; exact of_decide_eq_true h4) (of_decide_eq_true h5) (of_decide_eq_true h6) (of_decide_eq_true h7) (by rw [c.n.sc]; exact locB_ok q1) (by rw [c.n.sc]; exact locB_ok q2) (by rw [c.n.sc]; exact locB_ok q3) ha (swF_ok c.n.sc c.kd (of_decide_eq_true h1)) sw_sole_tup
    · cases h
theorem set_ok (c : Cs I N T C k sc X Wx) {i : Nat} {x : Str} {py pos : Pos} {e : E} {pe : Expr} (h : mSet N sc i x py e pe = true) (he : mE I N sc false e pe = true) : PS X (.Assign [.Name x py] pe pos) (rS T C Wx (.set (.n i) e)) := by
  unfold mSet at h
  have sw := swV_ok (x := x) (py := py) (pe := pe) (l := pos.line) c.n.sc c.kd
  split at h
  · rename_i hsw
    rw [hsw] at sw
    obtain ⟨h1, h2, h3⟩ := and3 h
    have hy : X.N[i]? = some x := by rw [c.n.N]; exact of_decide_eq_true h1
    have hl : X.env.scope.names.lookup x = some .local := by rw [c.n.sc]; exact locB_ok h2
    split at h3
    · rename_i w vs tz it t e
      unfold mE at he
      split at he
      · rename_i elt tg iter ifs scope pos
        obtain ⟨h1, h2, h3, h4, h5, h6, h7⟩ := and7 he
        have R := z_setLc (k := w) (own := ownOf N vs) (pos := pos) c.n.L hy hl sw (mI_ok it (tg := tg) c.n h5) (blk_ok c.n h2) (slots_in h3) (tgt_ok c.n h4) (t := t) (ifs := ifs) (fun s H D cl fp => by
          have b := c.n.blk s H scope D cl fp
          split at h6
          · rw [isTrE_ok h6]
            exact ts_nil
          · exact ts_one (snd_pt (mE_ok t b h6))
          · cases h6) (fun s H D cl fp => snd_pe (mE_ok e (c.n.blk s H scope D cl fp) h7)) (notSet_ok h1 X.env)
        rw [ownOf_snd] at R
        exact R
      · cases he
    · rename_i w vs vs1 tz it t tz1 it1 t1 e
      unfold mE at he
      split at he
      · rename_i elt tg iter ifs tg1 iter1 ifs1 scope pos
        obtain ⟨h, h13⟩ := (Bool.and_eq_true _ _).mp he
        obtain ⟨h, h12⟩ := (Bool.and_eq_true _ _).mp h
        obtain ⟨h, h11⟩ := (Bool.and_eq_true _ _).mp h
        obtain ⟨h, h10⟩ := (Bool.and_eq_true _ _).mp h
        obtain ⟨h, h9⟩ := (Bool.and_eq_true _ _).mp h
        obtain ⟨h, h8⟩ := (Bool.and_eq_true _ _).mp h
        obtain ⟨h, h7⟩ := (Bool.and_eq_true _ _).mp h
        obtain ⟨h1, h2, h3, h4, h5, h6⟩ := and6 h
        have R := z_setLc2 (k := w) (own := ownOf N vs) (vs1 := vs1) (pos := pos) c.n.L hy hl sw (mI_ok it (tg := tg) c.n h9) (blk_ok c.n h3) (fun i hi => by rw [ownOf_snd]; exact of_decide_eq_true (List.all_eq_true.mp h6 i hi)) (slots_in h4) (fun i hi => of_decide_eq_true (List.all_eq_true.mp h5 i hi)) (tgt_ok c.n h7) (t := t) (ifs := ifs) (fun s H D cl fp => by
          have b := c.n.blk s H scope D cl fp
          split at h11
          · rw [isTrE_ok h11]
            exact ts_nil
          · exact ts_one (snd_pt (mE_ok t b h11))
          · cases h11) (fun s H D cl fp => mI_ok it1 (tg := tg1) (c.n.blk s H scope D cl fp) h10) (tgt_ok c.n h8) (t1 := t1) (ifs1 := ifs1) (fun s H D cl fp => by
          have b := c.n.blk s H scope D cl fp
          split at h12
          · rw [isTrE_ok h12]
            exact ts_nil
          · exact ts_one (snd_pt (mE_ok t1 b h12))
          · cases h12) (fun s H D cl fp => snd_pe (mE_ok e (c.n.blk s H scope D cl fp) h13)) (notSet_ok h1 X.env) (notSet_ok h2)
        rw [ownOf_snd] at R
        exact R
      · cases he
    · cases h3
  · rename_i hsw
    rw [Bool.not_eq_true] at hsw
    rw [hsw] at sw
    obtain ⟨h1, h2, h3⟩ := stB_ok (X := X) (cel := yes) c.n.sc c.n.N (fun x _ => c.fn x) h
    exact z_set c.n.L.nd h1 h2 (snd_pe (mE_ok e c.n he)) sw h3
theorem asg_sub {o i : Expr} {p : Pos} (h : plainIx i = true) (v : Value) : assign (.Subscript o i p) X.env v = (do
      let ov ← holding [v] (eval o X.env)
      let iv ← holding [v, ov] (eval i X.env)
      standAt p
      holding [v, ov, iv] (setItem ov iv v)
      release [v, ov, iv] []) := by
  cases i <;> first | rfl | cases h
mutual
theorem mS_ok (c : Cs I N T C k sc X Wx) : ∀ (s : S) {ps : Stmt}, mS I N sc s ps = true → PS X ps (rS T C Wx s)
  | .bad, ps, h => zs_bad
  | .ex e, ps, h => by
    unfold mS at h
    split at h
    · rw [Bool.and_eq_true] at h
      exact z_expr (snd_pe (mE_ok e c.n h.2)) (sw_none h.1)
    · cases h
  | .set (.n i) e, ps, h => by
    unfold mS at h
    dsimp only at h
    split at h
    · rw [Bool.and_eq_true] at h
      exact set_ok c h.1 h.2
    · cases h
  | .set (.t ts) e, ps, h => by
    unfold mS at h
    dsimp only at h
    split at h
    · obtain ⟨h1, h2, h3⟩ := and3 h
      exact z_sett (snd_pe (mE_ok e c.n h3)) (mTg_ok c.n.L.calm c.n.L.K c.n.L.nd c.n.sc c.n.N (fun x _ => c.fn x) h2) sw_sole_tup (st_none h1) (by rfl)
    · cases h
  | .par is es, ps, h => by
    unfold mS at h
    split at h
    · obtain ⟨h1, h2, h3⟩ := and3 h
      exact par_ok c h1 h2 (mEs_ok es c.n h3)
    · cases h
  | .seti o i e, ps, h => by
    unfold mS at h
    split at h
    · obtain ⟨h1, h2, h3, h4⟩ := and4 h
      exact z_seti (snd_pe (mE_ok e c.n h4)) (snd_pe (mE_ok o c.n h2)) (snd_pe (mE_ok i c.n h3)) sw_sole_sub st_sub (by rfl) (asg_sub h1)
    · cases h
  | .sown d i e, ps, h => by
    unfold mS at h
    split at h
    · obtain ⟨h1, h2, h3, h4, h5⟩ := and5 h
      obtain ⟨cf, hf, hz⟩ := c.n.wd.fld _ d i (of_decide_eq_true h1)
      exact z_sown c.n.L (by rw [c.n.N]; exact of_decide_eq_true h2) (by rw [c.n.sc]; exact visB_ok h3) (dbgB_ok h4).1 (dbgB_ok h4).2 (snd_pe (mE_ok e c.n h5)) sw_attr cf hf hz
    · cases h
  | .ret e, ps, h => by
    unfold mS at h
    split at h
    · exact z_ret (snd_pe (mE_ok e c.n h))
    · cases h
  | .retn, ps, h => by
    unfold mS at h
    split at h
    · exact z_retn
    · cases h
  | .ife t a b, ps, h => by
    unfold mS at h
    split at h
    · obtain ⟨h1, h2, h3⟩ := and3 h
      exact z_if (snd_pt (mE_ok t c.n h1)) (mSs_ok c a h2) (mSs_ok c b h3)
    · cases h
  | .for_ tz it b, ps, h => by
    unfold mS at h
    split at h
    · obtain ⟨h1, h2, h3, h4⟩ := and4 h
      exact z_for c.po c.n.L.calm (mI_ok it c.n h3) (mTg_ok c.n.L.calm c.n.L.K c.n.L.nd c.n.sc c.n.N (fun x _ => c.fn x) h2) (mSs_ok c b h4) (notSet_ok h1 X.env)
    · cases h
  | .whl t b, ps, h => by
    unfold mS at h
    split at h
    · rw [Bool.and_eq_true] at h
      exact z_while c.po (snd_pt (mE_ok t c.n h.1)) (mSs_ok c b h.2)
    · cases h
  | .rai _ _, ps, h => by
    unfold mS at h
    cases h
  | .try_ _ _, ps, h => by
    unfold mS at h
    cases h
  | .pass, ps, h => by
    unfold mS at h
    split at h
    · exact z_pass
    · cases h
  | .brk, ps, h => by
    unfold mS at h
    split at h
    · exact z_brk
    · cases h
  | .cnt, ps, h => by
    unfold mS at h
    split at h
    · exact z_cnt
    · cases h
  | .doc, ps, h => by
    unfold mS at h
    split at h
    · exact z_doc
    · cases h
theorem mSs_ok (c : Cs I N T C k sc X Wx) : ∀ (ss : Ss) {l : List Stmt}, mSs I N sc ss l = true → PSs X l (rSs T C Wx ss)
  | .nil, l, h => by
    unfold mSs at h
    have : l = [] := by simpa using h
    subst this
    exact zs_nil
  | .cons s ss, l, h => by
    unfold mSs at h
    split at h
    · rw [Bool.and_eq_true] at h
      exact zs_cons (mS_ok c s h.1) (mSs_ok c ss h.2)
    · cases h
end
end
end Z

namespace Z
open PySem PySem.Spec PyProof.Rows L2

theorem own_none {ws : List W} (h : ws.all notOwn = true) {n i c : Nat} {fs : List P} : (start n ws)[i]? ≠ some (some (.own c fs)) := fun e => by
  unfold start at e
  by_cases hi : i < ws.length
  · rw [List.getElem?_append_left (by simpa using hi), List.getElem?_map, List.getElem?_eq_getElem hi] at e
    have e2 : ws[i] = .own c fs := Option.some.inj (Option.some.inj e)
    have := List.all_eq_true.mp h _ (List.getElem_mem hi)
    rw [e2] at this
    cases this
  · rw [List.getElem?_append_right (by simpa using hi), List.getElem?_replicate] at e
    split at e <;> cases e
theorem rpws_at {T : Top} {H F : Hp} {cm : List Addr} : ∀ {vs : List V} {ws : List W} {i : Nat} {w : W}, RpWs T H F cm vs ws → ws[i]? = some w → ∃ v, vs[i]? = some v ∧ RpW T H F cm v w
  | _, _, i, _, .nil, e => by simp at e
  | _, _, 0, _, .cons h _, e => by
    simp at e
    subst e
    exact ⟨_, rfl, h⟩
  | _, _, i + 1, _, .cons _ r, e => by
    obtain ⟨v, h1, h2⟩ := rpws_at r (i := i) (by simpa using e)
    exact ⟨v, by simpa using h1, h2⟩
theorem start_sl {T : Top} {H F : Hp} {cm : List Addr} {vs : List V} {ws : List W} {N : List Str} {n : Nat} (r : RpWs T H F cm vs ws) (hN : N.length = n) (hl : ws.length ≤ n) : Sl T H F cm (L2.start N vs) (start n ws) := by
  have lv := r.len
  refine ⟨by simp only [L2.start, start, List.length_append, List.length_map, List.length_replicate]; omega, fun i w e => ?_⟩
  unfold start at e
  unfold L2.start
  by_cases hi : i < ws.length
  · rw [List.getElem?_append_left (by simpa using hi), List.getElem?_map] at e
    obtain ⟨w', e1, e2⟩ := Option.map_eq_some_iff.mp e
    cases e2
    obtain ⟨v, h1, h2⟩ := rpws_at r e1
    refine ⟨v, ?_, h2⟩
    rw [List.getElem?_append_left (by rw [List.length_map, lv]; exact hi), List.getElem?_map, h1]
    rfl
  · rw [List.getElem?_append_right (by simpa using hi), List.getElem?_replicate] at e
    split at e <;> cases e

theorem leaveN_ok {T : Top} {H F : Hp} {cm : List Addr} {st : Sto} {c : Nat} {a dx : Addr} {Q : VK} {E : XK} {r : SR} {Wx : WX} (hW : ∀ c d σ H, E c d H → Wx c d σ H) (g0 : Gd T H F cm st) (ha : H a = some (.ins (T.ca c) dx [])) (ca : a ∉ cm)
    (h : match leaveN c st.ls.length r with
      | .ok fs st' => ∀ H' F' cm' us, Gw [a] H F cm H' F' cm' → Gd T H' F' cm' st' → H' a = some (.ins (T.ca c) dx ((T.nm c).zip us)) → H' dx = some (.own a) → F' a = none → F' dx = none → a ∉ cm' → dx ∉ cm' → Rps T F' us fs → Q .non H'
      | .exc k fs st' => ∀ H' F' cm' d, Gw [a] H F cm H' F' cm' → Gd T H' F' cm' st' → ExR T H' F' cm' d k fs → E (.ref (T.ca k)) d H'
      | .no => False) : PostS T Wx { nx := fun _ H' => Q .non H', rt := Q } [a] H F cm r := by
  have cut : ∀ {H1 F1 : Hp} {cm1 : List Addr}, Gw [a] H F cm H1 F1 cm1 → Gw [a] H F cm H1 F1 (cm1.take st.ls.length) := fun {H1 F1 cm1} gw => by
    rw [cut_take g0 gw.c]
    exact ⟨gw.f, List.prefix_refl _, gw.k, gw.s, gw.n, fun x hx => .inl hx, gw.o⟩
  cases r with
  | nx δ st1 =>
    intro σ1 H1 F1 cm1 gw n1
    simp only [leaveN] at h
    cases e0 : δ[0]? with
    | none => rw [e0] at h; exact h.elim
    | some o =>
      rw [e0] at h
      cases o with
      | none => exact h.elim
      | some u =>
        cases u with
        | p x => exact h.elim
        | cel m => exact h.elim
        | own d fs =>
          dsimp only at h
          by_cases hdc : (d == c) = true
          · rw [if_pos hdc] at h
            have edc : d = c := beq_iff_eq.mp hdc
            subst edc
            obtain ⟨v, hv, rv⟩ := n1.sl.at_ 0 _ e0
            obtain ⟨_, a', ha', hs⟩ := n1.ow 0 d fs e0
            have ea : a' = a := by simpa using ha'
            subst ea
            rw [hs] at hv
            cases hv
            cases rv with
            | @own _ dx' _ us _ q1 q2 q3 q4 q5 q6 q7 =>
              obtain ⟨fs', q0⟩ := gw.o a' ca _ _ _ ha
              rw [q1] at q0
              cases q0
              exact h H1 F1 (cm1.take st.ls.length) us (cut gw) (n1.g.cut _) q1 q2 q3 q4 (fun z => q5 (List.mem_of_mem_take z)) (fun z => q6 (List.mem_of_mem_take z)) q7
          · rw [if_neg hdc] at h
            exact h.elim
  | xc k fs δ st1 =>
    intro σ1 H1 F1 cm1 d gw n1 ex
    refine hW _ _ _ _ (h H1 F1 (cm1.take st.ls.length) d (cut gw) (n1.g.cut _) ?_)
    rcases ex with ⟨e1, e2, e3⟩ | ⟨ddx, vs, e1, e2, e3, e4, e5, e6⟩
    · exact .inl ⟨e1, e2, e3⟩
    · exact .inr ⟨ddx, vs, e1, e2, e3, fun z => e4 (List.mem_of_mem_take z), e5, e6⟩
  | rt w st1 => exact h.elim
  | bk δ st1 => exact h.elim
  | ct δ st1 => exact h.elim
  | no => exact h.elim
section
variable {T : Top} {P : Program} {w : World} {mg : Str → Option Value} {base : Heap} {G : Pg} {I : Inf}
/-- what of a def's text is wanted -/
structure DfOk (T : Top) (I : Inf) (f : Nat) (d : Fd) (fd : FuncData) (N ps : List Str) (body : List Stmt) (scope : Scope) : Prop where
  fun_ : ∃ x qual params dvs kws, FunD T.K x qual params body scope dvs kws (T.fa f) fd
  sc : FnScope N ps scope
  bd : Binds T.K fd ps []
  ns : N.length = d.ns
  np : ps.length = d.np
  ok : mSs I N scope d.body body = true
theorem csOf {n : Nat} {N ps : List Str} {scope : Scope} {qual : Str} {f : Addr} {cdv : Value} {A : Around} {outer : List PySem.Env} {s : Shared} {H : Hp} {E : XK} (wd : Wd I T (G.cx (G.call n) (G.new n)) P w mg base (2 * n)) (S : FnScope N ps scope) (hr : Room (2 * n + 1) (A.deeper (envOfC qual scope s.heap.objs.size f cdv))) (hg : A.guards = some []) :
    Cs I N T (G.cx (G.call n) (G.new n)) (2 * n) scope (cxOf (CX P w) P w T.K mg base N qual scope f cdv A outer s H E) (fun c d _ H' => E c d H') := by
  refine ⟨⟨⟨rfl, rfl, S.nd, ?_, hg, takes_of rfl rfl rfl rfl⟩, rfl, rfl, hr, wd⟩, passes_of rfl, fun _ => rfl, S.kind⟩
  have := hr.un
  show (A.deeper (envOfC qual scope s.heap.objs.size f cdv)).units + 200 < cLine
  omega
theorem fn_call {n f : Nat} {d : Fd} {fd : FuncData} {N ps : List Str} {body : List Stmt} {scope : Scope} (wd : Wd I T (G.cx (G.call n) (G.new n)) P w mg base (2 * n)) (hd : G.fd f = some d) (D : DfOk T I f d fd N ps body scope) :
    FnG P w T.K mg base (2 * (n + 1)) (T.fa f) fd ps (spC T (G.call (n + 1)) f) := by
  obtain ⟨x, qual, params, dvs, kws, F⟩ := D.fun_
  refine fnG_of (k := 2 * n + 1) F D.sc fun cdv A outer s H vs Q E hr hg hl ⟨ws, st, F0, cm, gd, rw0, hp⟩ => ?_
  have cs := csOf (outer := outer) (H := H) (E := E) wd D.sc hr hg
  refine ⟨_, mSs_ok cs d.body D.ok, ?_⟩
  simp only [Pg.call, hd] at hp
  split at hp
  · rename_i hc
    rw [Bool.and_eq_true, decide_eq_true_eq] at hc
    refine ⟨start d.ns ws, st, F0, cm, [], ⟨gd, start_sl rw0 D.ns ?_, fun i c fs e => absurd e (own_none hc.2)⟩, ?_⟩
    · have pre := congrArg List.length D.sc.pre
      rw [List.length_take] at pre
      rw [hc.1, ← D.np, ← D.ns]
      omega
    · exact leave_ok (fun _ _ _ _ h => h) gd hp
  · exact hp.elim
theorem fn_new {n c f : Nat} {d : Fd} {fd : FuncData} {N ps : List Str} {body : List Stmt} {scope : Scope} (wd : Wd I T (G.cx (G.call n) (G.new n)) P w mg base (2 * n)) (hd : G.fd f = some d) (D : DfOk T I f d fd N ps body scope) :
    FnG P w T.K mg base (2 * (n + 1)) (T.fa f) fd ps (spN T (G.new (n + 1)) c f) := by
  obtain ⟨x, qual, params, dvs, kws, F⟩ := D.fun_
  refine fnG_of (k := 2 * n + 1) F D.sc fun cdv A outer s H vs Q E hr hg hl ⟨a, dx, vr, ws, st, F0, cm, e0, ha, hdx, fa, fdx, ca, cdx, gd, rw0, hp⟩ => ?_
  have cs := csOf (outer := outer) (H := H) (E := E) wd D.sc hr hg
  refine ⟨_, mSs_ok cs d.body D.ok, ?_⟩
  subst e0
  have hcond : (ws.length + 1 = d.np && ws.all notOwn) = true := by
    cases e : (decide (ws.length + 1 = d.np) && ws.all notOwn) with
    | true => rfl
    | false =>
      simp only [Pg.new, hd, e] at hp
      exact hp.elim
  simp only [Pg.new, hd, hcond, if_true] at hp
  have hc := hcond
  rw [Bool.and_eq_true, decide_eq_true_eq] at hc
  have rw1 : RpWs T H F0 cm (.ref a :: vr) (.own c [] :: ws) := .cons (.own (vs := []) (by rw [List.zip_nil_right]; exact ha) hdx fa fdx ca cdx .nil) rw0
  refine ⟨start d.ns (.own c [] :: ws), st, F0, cm, [a], ⟨gd, start_sl rw1 D.ns ?_, fun i k fs e => ?_⟩, leaveN_ok (fun _ _ _ _ h => h) gd ha ca hp⟩
  · have pre := congrArg List.length D.sc.pre
    rw [List.length_take] at pre
    have := D.np
    have := D.ns
    simp only [List.length_cons]
    omega
  · cases i with
    | succ j =>
      have e2 : d.ns - (ws.length + 1) = d.ns - 1 - ws.length := by omega
      refine absurd ?_ (own_none (n := d.ns - 1) (i := j) (c := k) (fs := fs) hc.2)
      rw [start, ← e2]
      simpa [start] using e
    | zero =>
      refine ⟨rfl, a, by simp, ?_⟩
      rfl
end
end Z

namespace Z
open PySem PySem.Spec PyProof.Rows L2

/-- what of the program's text is wanted in all -/
structure Pf (I : Inf) (T : Top) (mg : Str → Option Value) (G : Pg) : Prop where
  defs : ∀ f d, G.fd f = some d → ∃ fd N ps body scope, DfOk T I f d fd N ps body scope
  fn : ∀ x f, (x, f) ∈ I.fns → mg x = some (.ref (T.fa f)) ∧ PySem.W.keepIn T.K (.ref (T.fa f)) = true ∧ ∃ d, G.fd f = some d
  new : ∀ x c f n, (x, c, f, n) ∈ I.cls → mg x = some (.ref (T.ca c)) ∧ PySem.W.keepIn T.K (.ref (T.ca c)) = true ∧ Mk T.K (T.ca c) (T.fa f) ∧ (T.nm c).length = n ∧ ∃ d, G.fd f = some d
  con : ∀ x n, (x, n) ∈ I.con → ∃ y v u, mg x = some u ∧ RelV v u ∧ G.glo n = some y ∧ ∀ F, Rp T F v y
  fld : ∀ x c i, (x, c, i) ∈ I.flds → ClsF T c ∧ (T.nm c)[i]? = some x ∧ (T.nm c).length < 1000
  prp : ∀ x c f, (x, c, f) ∈ I.prps → Cls T.K (T.ca c) ∧ (∃ pa, PropOf T.K (T.ca c) x pa (T.fa f)) ∧ ∃ d, G.fd f = some d ∧ d.np = 1
  met : ∀ x c f, (x, c, f) ∈ I.mets → Cls T.K (T.ca c) ∧ Meth T.K (T.ca c) x (T.fa f) ∧ x ∉ T.nm c ∧ ∃ d, G.fd f = some d
  len : ∀ c f, G.dun c 0 = some f → PySem.W.findIn T.K (.ref (T.ca c)) "__len__" = some (some (.ref (T.fa f))) ∧ PySem.W.isFn T.K (.ref (T.fa f)) = true ∧ ∃ d, G.fd f = some d ∧ d.np = 1
  dun : ∀ c, G.dun c 2 = none ∧ G.dun c 3 = none
  isi : ∀ c, G.inst c = true → IsiF T c
  isb : ∀ call new t, (∀ c, t ≠ .cls c) → IsiOk T (G.cx call new) t
  isc : ∀ call new x c, (x, c) ∈ I.isc → mg x = some (.ref (T.ca c)) ∧ IsiOk T (G.cx call new) (.cls c)
  mis : ∀ x, x ∈ I.mis → mg x = none
section
variable {T : Top} {P : Program} {w : World} {mg : Str → Option Value} {base : Heap} {G : Pg} {I : Inf}
/-- at call depth n -/
def Lv (T : Top) (P : Program) (w : World) (mg : Str → Option Value) (base : Heap) (G : Pg) (I : Inf) (n : Nat) : Prop := ∀ f d fd N ps body scope, G.fd f = some d → DfOk T I f d fd N ps body scope →
  FnG P w T.K mg base (2 * n) (T.fa f) fd ps (spC T (G.call n) f) ∧ ∀ c, FnG P w T.K mg base (2 * n) (T.fa f) fd ps (spN T (G.new n) c f)
theorem call_np {n f : Nat} {d : Fd} {ws : List W} {st : Sto} (hd : G.fd f = some d) (h : G.call n f ws st ≠ .no) : ws.length = d.np := by
  cases n with
  | zero => exact absurd rfl h
  | succ n =>
    simp only [Pg.call, hd] at h
    by_cases hc : (decide (ws.length = d.np) && ws.all notOwn) = true
    · rw [Bool.and_eq_true, decide_eq_true_eq] at hc
      exact hc.1
    · rw [if_neg hc] at h
      exact absurd rfl h
theorem new_np {n c f : Nat} {d : Fd} {ws : List W} {st : Sto} (hd : G.fd f = some d) (h : G.new n c f ws st ≠ .no) : ws.length + 1 = d.np := by
  cases n with
  | zero => exact absurd rfl h
  | succ n =>
    simp only [Pg.new, hd] at h
    by_cases hc : (decide (ws.length + 1 = d.np) && ws.all notOwn) = true
    · rw [Bool.and_eq_true, decide_eq_true_eq] at hc
      exact hc.1
    · rw [if_neg hc] at h
      exact absurd rfl h
theorem hasF_of {n f : Nat} {d : Fd} (p : Pf I T mg G) (l : Lv T P w mg base G I n) (hd : G.fd f = some d) {q : Nat → Prop} (hq : q d.np) : HasF T (G.cx (G.call n) (G.new n)) P w mg base (2 * n) f q := by
  obtain ⟨fd, N, ps, body, scope, D⟩ := p.defs f d hd
  refine ⟨fd, ps, (l f d fd N ps body scope hd D).1, D.bd, fun ws st h => ?_, by rw [D.np]; exact hq⟩
  rw [D.np]
  exact call_np hd h
theorem wd_of {n : Nat} (p : Pf I T mg G) (l : Lv T P w mg base G I n) : Wd I T (G.cx (G.call n) (G.new n)) P w mg base (2 * n) where
  fn x f h := by
    obtain ⟨h1, h2, d, hd⟩ := p.fn x f h
    exact ⟨h1, h2, hasF_of p l hd trivial⟩
  new x c f m h := by
    obtain ⟨h1, h2, h3, h4, d, hd⟩ := p.new x c f m h
    obtain ⟨fd, N, ps, body, scope, D⟩ := p.defs f d hd
    refine ⟨h1, h2, h3, h4, fd, ps, (l f d fd N ps body scope hd D).2 c, D.bd, fun ws st q => ?_⟩
    rw [D.np]
    exact new_np hd q
  con := p.con
  fld := p.fld
  prp x c f h := by
    obtain ⟨h1, h2, d, hd, e⟩ := p.prp x c f h
    exact ⟨h1, h2, hasF_of p l hd e⟩
  met x c f h := by
    obtain ⟨h1, h2, h3, d, hd⟩ := p.met x c f h
    exact ⟨h1, h2, h3, hasF_of p l hd trivial⟩
  len c f h := by
    obtain ⟨h1, h2, d, hd, e⟩ := p.len c f h
    exact ⟨h1, h2, hasF_of p l hd e⟩
  dun := p.dun
  isi := p.isi
  isb := p.isb _ _
  isc := p.isc _ _
  mis := p.mis
theorem levels (p : Pf I T mg G) : ∀ n, Lv T P w mg base G I n
  | 0 => fun f d fd N ps body scope hd D => ⟨⟨fun A outer s H args us vs Q E _ _ _ _ _ _ ⟨ws, st, F, cm, _, _, hp⟩ => hp.elim⟩, fun c => ⟨fun A outer s H args us vs Q E _ _ _ _ _ _ ⟨a, dx, vr, ws, st, F, cm, _, _, _, _, _, _, _, _, _, hp⟩ => hp.elim⟩⟩
  | n + 1 => fun f d fd N ps body scope hd D => ⟨fn_call (wd_of p (levels p n)) hd D, fun c => fn_new (wd_of p (levels p n)) hd D⟩
end
end Z

namespace Z
open PySem PySem.Spec PyProof.Rows L2

/-- the script as it is handed over -/
def scriptP (ns : List Int) : P := .scr (ns.map P.int)
theorem whole_p {T : Top} {F : Hp} : ∀ ns : List Int, Rps T F (ns.map V.int) (ns.map P.int)
  | [] => .nil
  | n :: ns => .cons (.int n) (whole_p ns)

section
variable {P : Program} {w : World} {T : Top} {mg mb : Str → Option Value} {k f a : Nat} {fd : FuncData} {x : Str} {sh : Shared} {vs : List Value} {ns : List Int} {call : Nat → List W → Sto → Res W} {st' : Sto}
/-- the whole run, from a heap in which the script alone may be tracked -/
theorem law_core (inK : T.K.In sh.heap) (gns : sh.heap.Ns mainGlobals mg) (bns : sh.heap.Ns builtinsNs mb) (bb : ∀ x : Str, x ≠ "__name__" → mb x = bootBuiltins x) (lim : sh.heap.NoLimit) (gens : sh.gens = #[])
    (script : sh.heap.get? a = some { cls := .type "list", data := .seq vs.toArray }) (room : Room k callerA) (F : ∀ base : Heap, T.K.In base → base.Ns mainGlobals mg → FnG P w T.K mg base k (T.fa f) fd [x] (spC T call f))
    (bind : ∀ (s : Shared) (u : Value), BindsTo s fd ⟨[u], []⟩ [(x, u)]) (out : call f [.p (scriptP ns)] ⟨[], []⟩ = .ok (.p (.bl true)) st')
    (H : Hp) (only : Only H) (sq : SqL T.K H a (ns.map V.int)) (hok : HOk P w H sh.heap) (one : ∀ b, H b ≠ none → b = a) (own : H a ≠ none → T.K.lookup a = none) :
    codeAny (model P w) callerA (.call (.ref (T.fa f)) ⟨[.ref a], []⟩) (fun r s' => r = .ok (.ret (.bool true)) ∧ OldK sh.heap s'.heap ∧ s'.os = sh.os ∧ AllBare s'.gens) sh := by
  have hidden : ∀ {b : Addr} {o : Obj}, sh.heap.get? b = some o → H b = none → (hidT sh.heap H).get? b = some o := fun q n => hidT_get q n
  have dictFree : ∀ {b : Addr} {o : Obj} {es : Array DictEntry} {ep : Nat}, sh.heap.get? b = some o → o.data = .dict es ep → H b = none := by
    intro b o es ep e d
    by_cases q : H b = none
    · exact q
    · have eb := one b q
      subst eb
      rw [script] at e
      cases e
      exact absurd (show Data.seq vs.toArray _ = Data.dict es ep from d) (fun z => nomatch z)
  have below : ∀ {b : Addr} {m : Str → Option Value}, sh.heap.Ns b m → (hidT sh.heap H).Ns b m := fun {b m} ⟨o, es, ep, e, d, rest⟩ => ⟨o, es, ep, hidden e (dictFree e d), d, rest⟩
  have inBase : T.K.In (hidT sh.heap H) := by
    intro b o e
    refine hidden (inK b o e) ?_
    by_cases q : H b = none
    · exact q
    · have eb := one b q
      subst eb
      rw [own q] at e
      cases e
  obtain ⟨mc, l1, l2⟩ := id lim
  have md : Mod T.K mg (hidT sh.heap H) := ⟨inBase, below gns, ⟨mb, below bns, bb⟩, ⟨mc, below l1, l2⟩⟩
  have ev : Env0 P w T.K mg (hidT sh.heap H) callerA [] sh H := ⟨rfl, md, fun b o e => of_hidT e, Nat.le_of_eq (hidT_size _ _), trivial, fun b hb => absurd (show b ∈ ([] : List Addr) from hb) (by simp), hok, .of_eq gens⟩
  have promise : spC T call f [.ref a] H (fun v _ => v = .bl true) fun _ _ _ => False := by
    refine ⟨[.p (scriptP ns)], ⟨[], []⟩, H, [], ⟨fun _ _ e => e, rfl, List.nodup_nil, fun n a c e => by simp at e⟩, .cons (.p (.scr sq (whole_p ns))) .nil, ?_⟩
    rw [out]
    intro v H' F' cm' _ _ r
    cases r with
    | p r => cases r; rfl
  refine codeAny_mono ((F _ inBase (below gns)).run callerA [] sh H ⟨[.ref a], []⟩ [.ref a] [.ref a] _ _ room rfl ev rfl (bind sh (.ref a)) (.cons rfl .nil) promise) fun r s' res => ?_
  cases r with
  | error e =>
    obtain ⟨_, _, _, _, _, _, _, _, _, _, _, _, z⟩ := res
    exact z.elim
  | ok flow =>
    cases flow with
    | ret u =>
      obtain ⟨v, H', os, bare, un, hok', rel, q⟩ := res
      have q' : v = .bl true := q
      subst q'
      obtain rfl : u = Value.bool true := rel
      refine ⟨rfl, OldK.of_keep fun b o e => ?_, os, bare⟩
      rcases only b with z | ⟨ob, xs, z⟩
      · exact un.keep b o e z (fun m => absurd (show b ∈ ([] : List Addr) from m) (by simp)) (by simp)
      · obtain ⟨e1, _⟩ := hok b _ z
        obtain ⟨e2, _⟩ := hok' b _ (un.frzs b ob _ z)
        rw [e] at e1
        cases e1
        exact e2
    | _ => exact res.elim
theorem law_run (inK : T.K.In sh.heap) (gns : sh.heap.Ns mainGlobals mg) (bns : sh.heap.Ns builtinsNs mb) (bb : ∀ x : Str, x ≠ "__name__" → mb x = bootBuiltins x) (lim : sh.heap.NoLimit) (gens : sh.gens = #[])
    (script : sh.heap.get? a = some { cls := .type "list", data := .seq vs.toArray }) (whole : IntsAre vs ns) (short : ns.length ≤ sizeLine) (room : Room k callerA) (F : ∀ base : Heap, T.K.In base → base.Ns mainGlobals mg → FnG P w T.K mg base k (T.fa f) fd [x] (spC T call f))
    (bind : ∀ (s : Shared) (u : Value), BindsTo s fd ⟨[u], []⟩ [(x, u)]) (out : call f [.p (scriptP ns)] ⟨[], []⟩ = .ok (.p (.bl true)) st') :
    codeAny (model P w) callerA (.call (.ref (T.fa f)) ⟨[.ref a], []⟩) (fun r s' => r = .ok (.ret (.bool true)) ∧ OldK sh.heap s'.heap ∧ s'.os = sh.os ∧ AllBare s'.gens) sh := by
  have rel := vals_ints whole
  have core := law_core (P := P) (w := w) inK gns bns bb lim gens script room F bind out
  rcases lk : T.K.lookup a with _ | o
  · refine core (fun b => if b = a then some (.frz { cls := .type "list", data := .seq vs.toArray } (.lst (ns.map V.int))) else none) ?_ (.inl (.inr ⟨_, if_pos rfl⟩)) ?_ ?_ fun _ => lk
    · intro b
      by_cases hb : b = a
      · exact .inr ⟨_, _, if_pos hb⟩
      · exact .inl (if_neg hb)
    · intro b u z
      by_cases hb : b = a
      · have z2 := (if_pos hb).symm.trans z
        cases z2
        subst hb
        exact ⟨script, by rw [List.length_map]; exact short, vs, _, rel, script⟩
      · have z2 := (if_neg hb).symm.trans z
        cases z2
    · intro b z
      by_cases hb : b = a
      · exact hb
      · exact absurd (if_neg hb) z
  · have same := inK a o lk
    rw [script] at same
    cases same
    refine core (fun _ => none) (fun _ => .inl rfl) (.inr ⟨_, vs.toArray, _, lk, rfl, rfl, rfl, ?_, by simpa using rel⟩) (fun b u z => nomatch (show (none : Option HO) = some u from z)) (fun b z => absurd rfl z) fun z => absurd rfl z
    rw [List.size_toArray, whole.length]
    exact short
end
/-- the walk that the head leaves -/
theorem walk_law {l : PySem.W.OpenLaw} {n k : Nat} {q : Program} {loose : List Str} {XP : (Str → Option Value) → Heap → Prop} {YP : World → Heap → Prop} {d : DefRec} {x : Str} (hn : l.most = some n) (hn2 : n ≤ sizeLine) (hdf : d.params.defaults = []) (room : Room k callerA)
    (F : ∀ (w : World) (mg : Str → Option Value) (fa : Addr) (h : Heap), YP w h → h.Ns mainGlobals mg → mg d.name = some (.ref fa) → ∃ (T : Top) (fd : FuncData) (f : Nat) (call : Nat → List W → Sto → Res W), T.K.In h ∧ T.fa f = fa ∧ (∀ (s : Shared) (u : Value), BindsTo s fd ⟨[u], []⟩ [(x, u)]) ∧
      (∀ ns : List Int, ns.length ≤ n → (∀ i ∈ ns, Builtin.Int.intBits i ≤ 1048576) → ∃ st', call f [.p (scriptP ns)] ⟨[], []⟩ = .ok (.p (.bl true)) st') ∧
      ∀ base : Heap, T.K.In base → base.Ns mainGlobals mg → FnG l.prog w T.K mg base k (T.fa f) fd [x] (spC T call f)) :
    PySem.W.WalkO q loose XP YP l.row.toRowW d [] (fun f vs => PySem.call f vs) := by
  refine Att.attach_callB hn hdf fun w s0 sh mg mb fa o pm cd doc a vs ns G Y _ _ _ named script whole short bits gens => ?_
  obtain ⟨T, fd, f, call, inK, rfl, bind, law, hF⟩ := F w mg fa _ Y G.T.g named
  obtain ⟨st', out⟩ := law ns short bits
  exact law_run inK G.T.g G.T.b G.T.builtins G.T.nolimit gens script whole (Nat.le_trans short hn2) room hF bind out
end Z

namespace Z
open PySem PySem.Spec PyProof.Rows L2

/-- where a def stands: a global; a class's method; a class's property -/
inductive Wh | g (x : Str) | m (c x : Str) | p (c x : Str)
def getter (K : PySem.W.Frag) (p : Addr) : Addr := match PySem.W.recIn K p "property" with
  | some (.ref g :: _) => g
  | _ => 0
def Wh.ad (K : PySem.W.Frag) : Wh → Addr
  | .g x => He.ga K x
  | .m c x => He.ma K (He.ga K c) x
  | .p c x => getter K (He.ma K (He.ga K c) x)
structure Fr where
  wh : Wh
  name : Str
  qual : Str
  st : Stmt
  N : List Str
  ps : List Str
  d : Fd
structure Lw where
  cn : List Str
  cf : List (List Str)
  ic : List Nat
  fr : List Fr
  gl : List P
  sb : List (Nat × Nat)
  dl : List (Nat × Nat)
  fuel : Nat
  I : Inf
def Lw.G (L : Lw) : Pg := ⟨fun f => (L.fr[f]?).map (·.d), fun n => L.gl[n]?, fun a b => L.sb.contains (a, b), fun c d => if d == 0 then L.dl.lookup c else none, fun c => L.ic.contains c, L.fuel⟩
def Lw.top (L : Lw) (K : PySem.W.Frag) : Top := ⟨K, fun c => He.ga K (L.cn.getD c Str.empty), fun f => match L.fr[f]? with
  | some r => r.wh.ad K
  | none => 0, fun c => L.cf.getD c []⟩

def scB (N ps : List Str) (sc : Scope) : Bool := decide (sc.kind = .function) && !sc.isCoroutine && !sc.isGenerator && decide N.Nodup && decide (N.take ps.length = ps) && ps.all (fun x => match sc.names.lookup x with
  | some .local => true
  | some .cell => true
  | _ => false) && sc.names.all (fun y => decide (y.2 ≠ .free))
theorem scB_ok {N ps : List Str} {sc : Scope} (h : scB N ps sc = true) : FnScope N ps sc := by
  unfold scB at h
  obtain ⟨h1, h2, h3, h4, h5, h6, h7⟩ := and7 h
  refine ⟨of_decide_eq_true h1, by simpa using h2, by simpa using h3, of_decide_eq_true h4, of_decide_eq_true h5, fun x hx => ?_, fun y hy => of_decide_eq_true (List.all_eq_true.mp h7 y hy)⟩
  have q := List.all_eq_true.mp h6 x hx
  split at q
  · exact .inl (by assumption)
  · exact .inr (by assumption)
  · cases q
def Fr.ok (I : Inf) (r : Fr) : Bool := scB r.N r.ps (defScope r.st) && decide (r.N.length = r.d.ns) && decide (r.ps.length = r.d.np) && mSs I r.N (defScope r.st) r.d.body (defBody r.st)
def Lw.okS (L : Lw) : Bool := L.fr.all (·.ok L.I)

def eqV (a b : Option (Option Value)) : Bool := decide (a = b)
theorem eqV_ok {a b : Option (Option Value)} (h : eqV a b = true) : a = b := of_decide_eq_true h
def clsB (K : PySem.W.Frag) (C : Addr) : Bool := PySem.W.plainGet K C Str.empty && PySem.W.hasDictIn K C && PySem.W.plainOver K C && eqV (PySem.W.findIn K (.ref C) "__setattr__") (some (some (.builtin "object.__setattr__")))
theorem clsB_ok {K : PySem.W.Frag} {C : Addr} (h : clsB K C = true) : Cls K C := by
  obtain ⟨h1, h2, h3, h4⟩ := and4 h
  exact ⟨h1, h2, h3, of_decide_eq_true h4⟩
def smp : List P := [.non, .bl true, .int 0, .str Str.empty, .tup [], .lst []]
def isB (T : Top) (sub : Nat → Nat → Bool) (ic : List Nat) (t : Ty) : Bool := (smp ++ ic.map fun c => P.ins c []).all fun s => match tyP T s with
  | some u => decide (PySem.W.kitOne T.K u (tyO T t) = some (isP sub t s))
  | none => false
theorem isB_ok {T : Top} {C : Ctx} {ic : List Nat} {t : Ty} (hc : ∀ c, C.inst c = true → c ∈ ic) (h : isB T C.sub ic t = true) : IsiOk T C t := fun x u e hi => by
  unfold isB at h
  have g : ∀ s, s ∈ smp ++ ic.map (fun c => P.ins c []) → ∀ u, tyP T s = some u → PySem.W.kitOne T.K u (tyO T t) = some (isP C.sub t s) := fun s hs u eu => by
    have q := List.all_eq_true.mp h s hs
    rw [eu] at q
    exact of_decide_eq_true q
  cases x with
  | non =>
    rw [g .non (by simp [smp]) u e]
  | bl b =>
    rw [g (.bl true) (by simp [smp]) u e]
    cases t <;> rfl
  | int i =>
    rw [g (.int 0) (by simp [smp]) u e]
    cases t <;> rfl
  | str i =>
    rw [g (.str Str.empty) (by simp [smp]) u e]
    cases t <;> rfl
  | tup xs =>
    rw [g (.tup []) (by simp [smp]) u e]
    cases t <;> rfl
  | lst xs =>
    rw [g (.lst []) (by simp [smp]) u e]
    cases t <;> rfl
  | ins c fs =>
    rw [g (.ins c []) (List.mem_append_right _ (List.mem_map.mpr ⟨c, hc c (hi c fs rfl), rfl⟩)) u e]
    cases t <;> rfl
  | scr xs => cases e
  | obj n => cases e
  | fn f => cases e
def conB (v : Option (Option Value)) (y : Option P) : Bool := match v, y with
  | some (some (.int j _)), some (.int i) => decide (j = i)
  | some (some (.str t _)), some (.str s) => decide (t = s)
  | _, _ => false
section
variable (L : Lw) (K : PySem.W.Frag)
def gloK (x : Str) (a : Addr) : Bool := eqV (PySem.W.nsIn K mainGlobals x) (some (some (.ref a))) && PySem.W.keepIn K (.ref a)
def Lw.k1 : Bool := L.I.fns.all fun q => gloK K q.1 ((L.top K).fa q.2) && (L.G.fd q.2).isSome
def Lw.k2 : Bool := L.I.cls.all fun q => gloK K q.1 ((L.top K).ca q.2.1) && PySem.W.makesIn K ((L.top K).ca q.2.1) && eqV (PySem.W.findIn K (.ref ((L.top K).ca q.2.1)) "__init__") (some (some (.ref ((L.top K).fa q.2.2.1)))) &&
  PySem.W.isFn K (.ref ((L.top K).fa q.2.2.1)) && decide (((L.top K).nm q.2.1).length = q.2.2.2) && (L.G.fd q.2.2.1).isSome
def Lw.k3 : Bool := L.I.con.all fun q => conB (PySem.W.nsIn K mainGlobals q.1) (L.gl[q.2]?)
def Lw.k4 : Bool := L.I.flds.all fun q => clsB K ((L.top K).ca q.2.1) && ((L.top K).nm q.2.1).all (fun x => eqV (PySem.W.findIn K (.ref ((L.top K).ca q.2.1)) x) (some none)) && decide ((L.top K).nm q.2.1).Nodup && decide (((L.top K).nm q.2.1)[q.2.2]? = some q.1) && decide (((L.top K).nm q.2.1).length < 1000)
def oneFd (f : Nat) : Bool := match L.G.fd f with
  | some d => decide (d.np = 1)
  | none => false
def Lw.k5 : Bool := L.I.prps.all fun q => clsB K ((L.top K).ca q.2.1) && eqV (PySem.W.findIn K (.ref ((L.top K).ca q.2.1)) q.1) (some (some (.ref (He.ma K ((L.top K).ca q.2.1) q.1)))) &&
  eqV (PySem.W.specialIn K (.ref (He.ma K ((L.top K).ca q.2.1) q.1)) "__get__") (some (some (.builtin "property.__get__"))) && decide (PySem.W.takesIn K (.ref (He.ma K ((L.top K).ca q.2.1) q.1)) = some true) &&
  (match PySem.W.recIn K (He.ma K ((L.top K).ca q.2.1) q.1) "property" with
  | some (.ref g :: _) => decide (g = (L.top K).fa q.2.2)
  | _ => false) && oneFd L q.2.2
def Lw.k6 : Bool := L.I.mets.all fun q => clsB K ((L.top K).ca q.2.1) && eqV (PySem.W.findIn K (.ref ((L.top K).ca q.2.1)) q.1) (some (some (.ref ((L.top K).fa q.2.2)))) && PySem.W.isFn K (.ref ((L.top K).fa q.2.2)) && PySem.W.keepIn K (.ref ((L.top K).fa q.2.2)) &&
  decide (q.1 ∉ (L.top K).nm q.2.1) && (L.G.fd q.2.2).isSome
def Lw.k7 : Bool := L.dl.all fun q => eqV (PySem.W.findIn K (.ref ((L.top K).ca q.1)) "__len__") (some (some (.ref ((L.top K).fa q.2)))) && PySem.W.isFn K (.ref ((L.top K).fa q.2)) && oneFd L q.2
def Lw.k8 : Bool := L.ic.all fun c => clsB K ((L.top K).ca c) && eqV (PySem.W.findIn K (.ref ((L.top K).ca c)) "__class__") (some (some (.builtin "object.__class__"))) && decide (PySem.W.mroIn K ((L.top K).ca c) (.type "object") = some true) &&
  (eqV (PySem.W.specialIn K (.builtin "object.__class__") "__get__") (some (some (.builtin "getset_descriptor.__get__"))) && decide (PySem.W.takesIn K (.builtin "object.__class__") = some true))
def Lw.k9 : Bool := isB (L.top K) L.G.sub L.ic .int && isB (L.top K) L.G.sub L.ic .bool && isB (L.top K) L.G.sub L.ic .str && isB (L.top K) L.G.sub L.ic .tuple && isB (L.top K) L.G.sub L.ic .list
def Lw.k10 : Bool := L.I.isc.all fun q => eqV (PySem.W.nsIn K mainGlobals q.1) (some (some (.ref ((L.top K).ca q.2)))) && isB (L.top K) L.G.sub L.ic (.cls q.2)
def Lw.k11 : Bool := L.I.mis.all fun x => eqV (PySem.W.nsIn K mainGlobals x) (some none)
def Lw.okK : Bool := L.k1 K && (L.k2 K && (L.k3 K && (L.k4 K && (L.k5 K && (L.k6 K && (L.k7 K && (L.k8 K && (L.k9 K && (L.k10 K && L.k11 K)))))))))
end
theorem some_of {α : Type} {o : Option α} (h : o.isSome = true) : ∃ d, o = some d := Option.isSome_iff_exists.mp h
theorem oneFd_ok {L : Lw} {f : Nat} (h : oneFd L f = true) : ∃ d, L.G.fd f = some d ∧ d.np = 1 := by
  unfold oneFd at h
  split at h
  · rename_i d e
    exact ⟨d, e, of_decide_eq_true h⟩
  · cases h
theorem lookup_mem {α β : Type} [BEq α] [LawfulBEq α] : ∀ {l : List (α × β)} {a : α} {b : β}, l.lookup a = some b → (a, b) ∈ l
  | [], _, _, h => by simp at h
  | (x, y) :: l, a, b, h => by
    rw [List.lookup] at h
    split at h
    · rename_i e
      have e2 : a = x := beq_iff_eq.mp e
      cases h
      subst e2
      exact List.mem_cons_self
    · exact List.mem_cons_of_mem _ (lookup_mem h)
theorem Lw.pf {L : Lw} {K : PySem.W.Frag} {h : Heap} {mg : Str → Option Value} (X : K.In h) (Gn : h.Ns mainGlobals mg) (hS : L.okS = true) (hK : L.okK K = true)
    (hF : ∀ (i : Nat) (r : Z.Fr), L.fr[i]? = some r → ∃ fd, FunD K r.name r.qual (defArgs r.st) (defBody r.st) (defScope r.st) [] [] (r.wh.ad K) fd)
    (hb : ∀ (i : Nat) (r : Z.Fr), L.fr[i]? = some r → ∀ fd f, FunD K r.name r.qual (defArgs r.st) (defBody r.st) (defScope r.st) [] [] f fd → Binds K fd r.ps []) : Pf L.I (L.top K) mg L.G := by
  unfold Lw.okK at hK
  simp only [Bool.and_eq_true] at hK
  obtain ⟨c1, c2, c3, c4, c5, c6, c7, c8, c9, c10, c11⟩ := hK
  have inst : ∀ c, L.G.inst c = true → c ∈ L.ic := fun c hc => List.contains_iff_mem.mp hc
  refine { defs := fun f d e => ?_, fn := fun x f hm => ?_, new := fun x c f n hm => ?_, con := fun x n hm => ?_, fld := fun x c i hm => ?_, prp := fun x c f hm => ?_, met := fun x c f hm => ?_, len := fun c f hm => ?_, dun := fun c => ⟨rfl, rfl⟩, isi := fun c hc => ?_, isb := fun call new t ht => ?_, isc := fun call new x c hm => ?_, mis := fun x hm => ?_ }
  · obtain ⟨r, e1, e2⟩ := Option.map_eq_some_iff.mp (show (L.fr[f]?).map (·.d) = some d from e)
    obtain ⟨fd, F⟩ := hF f r e1
    have ok := List.all_eq_true.mp hS r (List.mem_of_getElem? e1)
    obtain ⟨o1, o2, o3, o4⟩ := and4 (show (scB r.N r.ps (defScope r.st) && decide (r.N.length = r.d.ns) && decide (r.ps.length = r.d.np) && mSs L.I r.N (defScope r.st) r.d.body (defBody r.st)) = true from ok)
    have ea : (L.top K).fa f = r.wh.ad K := by
      show (match L.fr[f]? with
        | some r => r.wh.ad K
        | none => 0) = _
      rw [e1]
    subst e2
    exact ⟨fd, r.N, r.ps, defBody r.st, defScope r.st, ⟨⟨_, _, _, _, _, by rw [ea]; exact F⟩, scB_ok o1, hb f r e1 fd _ F, of_decide_eq_true o2, of_decide_eq_true o3, o4⟩⟩
  · have q := List.all_eq_true.mp c1 _ hm
    obtain ⟨⟨q1, q2⟩, q3⟩ : (eqV (PySem.W.nsIn K mainGlobals x) (some (some (.ref ((L.top K).fa f)))) = true ∧ PySem.W.keepIn K (.ref ((L.top K).fa f)) = true) ∧ (L.G.fd f).isSome = true := by simpa [gloK, Bool.and_eq_true] using q
    exact ⟨PySem.W.mg_of X Gn (of_decide_eq_true q1), q2, some_of q3⟩
  · have q := List.all_eq_true.mp c2 _ hm
    obtain ⟨q1, q2, q3, q4, q5, q6⟩ := and6 q
    obtain ⟨g1, g2⟩ := (Bool.and_eq_true _ _).mp q1
    exact ⟨PySem.W.mg_of X Gn (of_decide_eq_true g1), g2, ⟨q2, of_decide_eq_true q3, q4, g2⟩, of_decide_eq_true q5, some_of q6⟩
  · have q := List.all_eq_true.mp c3 _ hm
    unfold conB at q
    split at q
    · rename_i j t i e1 e2
      have := of_decide_eq_true q
      subst this
      exact ⟨_, .int j, _, PySem.W.mg_of X Gn e1, ⟨_, rfl⟩, e2, fun F => .int j⟩
    · rename_i j t i e1 e2
      have := of_decide_eq_true q
      subst this
      exact ⟨_, .str j, _, PySem.W.mg_of X Gn e1, ⟨_, rfl⟩, e2, fun F => .str j⟩
    · cases q
  · have q := List.all_eq_true.mp c4 _ hm
    obtain ⟨q1, q2, q3, q4, q5⟩ := and5 q
    exact ⟨⟨clsB_ok q1, fun y hy => eqV_ok (List.all_eq_true.mp q2 y hy), of_decide_eq_true q3⟩, of_decide_eq_true q4, of_decide_eq_true q5⟩
  · have q := List.all_eq_true.mp c5 _ hm
    obtain ⟨q1, q2, q3, q4, q5, q6⟩ := and6 q
    refine ⟨clsB_ok q1, ⟨_, of_decide_eq_true q2, of_decide_eq_true q3, of_decide_eq_true q4, ?_⟩, oneFd_ok q6⟩
    split at q5
    · rename_i g rest e
      have := of_decide_eq_true q5
      subst this
      exact ⟨rest, e⟩
    · cases q5
  · have q := List.all_eq_true.mp c6 _ hm
    obtain ⟨q1, q2, q3, q4, q5, q6⟩ := and6 q
    exact ⟨clsB_ok q1, ⟨of_decide_eq_true q2, q3, q4⟩, of_decide_eq_true q5, some_of q6⟩
  · have q := List.all_eq_true.mp c7 _ (lookup_mem (show L.dl.lookup c = some f from hm))
    obtain ⟨q1, q2, q3⟩ := and3 q
    exact ⟨of_decide_eq_true q1, q2, oneFd_ok q3⟩
  · have q := List.all_eq_true.mp c8 c (inst c hc)
    obtain ⟨q1, q2, q3, q4⟩ := and4 q
    obtain ⟨q4, q5⟩ := (Bool.and_eq_true _ _).mp q4
    exact ⟨clsB_ok q1, of_decide_eq_true q2, of_decide_eq_true q4, of_decide_eq_true q5, of_decide_eq_true q3⟩
  · obtain ⟨q1, q2, q3, q4, q5⟩ := and5 c9
    cases t with
    | cls c => exact absurd rfl (ht c)
    | int => exact isB_ok inst q1
    | bool => exact isB_ok inst q2
    | str => exact isB_ok inst q3
    | tuple => exact isB_ok inst q4
    | list => exact isB_ok inst q5
  · have q := List.all_eq_true.mp c10 _ hm
    obtain ⟨q1, q2⟩ := (Bool.and_eq_true _ _).mp q
    exact ⟨PySem.W.mg_of X Gn (of_decide_eq_true q1), isB_ok inst q2⟩
  · exact PySem.W.mg_none_of X Gn (of_decide_eq_true (List.all_eq_true.mp c11 x hm))

def Fr.da (r : Fr) : He5.DefA := ⟨fun K => r.wh.ad K, r.name, r.qual, defArgs r.st, defBody r.st, defScope r.st, [], []⟩
def Lw.obs (L : Lw) (K : PySem.W.Frag) : He.AlD := (L.okK K && L.fr.all (fun r => r.da.ok K), L.fr.map fun r => He5.fnA K (r.wh.ad K))
def Lw.val (L : Lw) : He.AlD := (true, L.fr.map fun r => r.da.val)
def Lw.says (L : Lw) (h : Heap) : Prop := ∃ K : PySem.W.Frag, K.In h ∧ L.obs K = L.val
def Lw.hook (L : Lw) (n : Nat) : PySem.W.Hook where
  α := He.AlD
  obs := fun s => L.obs (He.frG s.heap.get? (He.asD s.heap.get? n))
  val := fun _ => L.val
  says := fun _ h => L.says h
  of := fun _ _ e => ⟨_, He.frG_in, e⟩
  keeps := fun _ _ _ ⟨K, hK, c⟩ k => ⟨K, PySem.W.Frag.In.keeps hK k, c⟩
def Lw.ob (L : Lw) (n : Nat) (s : PySem.W.SharedT) : He.AlD := L.obs (He.frG (HandSHeadRun.getT s) (He.asD (HandSHeadRun.getT s) n))
theorem Lw.ob_eq (L : Lw) (n : Nat) (s : PySem.W.SharedT) : L.ob n s = (L.hook n).obs s.abs := by
  have e : HandSHeadRun.getT s = s.abs.heap.get? := funext (HandSHeadRun.getT_eq s)
  unfold Lw.ob
  rw [e]
  rfl
theorem Lw.facts {L : Lw} {K : PySem.W.Frag} (c : L.obs K = L.val) : L.okK K = true ∧ ∀ (i : Nat) (r : Z.Fr), L.fr[i]? = some r → ∃ fd, FunD K r.name r.qual (defArgs r.st) (defBody r.st) (defScope r.st) [] [] (r.wh.ad K) fd := by
  have c1 : (L.okK K && L.fr.all (fun r => r.da.ok K)) = true := congrArg (fun z : He.AlD => z.1) c
  have c2 : (L.fr.map fun r => He5.fnA K (r.wh.ad K)) = L.fr.map fun r => r.da.val := congrArg (fun z : He.AlD => z.2) c
  obtain ⟨k1, k2⟩ := (Bool.and_eq_true _ _).mp c1
  refine ⟨k1, fun i r e => ?_⟩
  have e2 : (L.fr.map fun r => He5.fnA K (r.wh.ad K))[i]? = (L.fr.map fun r => r.da.val)[i]? := by rw [c2]
  rw [List.getElem?_map, List.getElem?_map, e] at e2
  exact He5.DefA.funD (d := r.da) (Option.some.inj e2) (List.all_eq_true.mp k2 r (List.mem_of_getElem? e))
end Z

namespace Z
open PySem

section
variable (pre : List Cell)
def sh : W → W
  | .cel n => .cel (pre.length + n)
  | w => w
def lay (st : Sto) : Sto := ⟨pre ++ st.ls, st.ob⟩
def shE (δ : Env) : Env := δ.map (Option.map (sh pre))
def Res.sh {α β : Type} (f : α → β) : Res α → Res β
  | .ok a st => .ok (f a) (lay pre st)
  | .exc c fs st => .exc c fs (lay pre st)
  | .no => .no
def SR.sh : SR → SR
  | .nx δ st => .nx (shE pre δ) (lay pre st)
  | .rt w st => .rt (Z.sh pre w) (lay pre st)
  | .bk δ st => .bk (shE pre δ) (lay pre st)
  | .ct δ st => .ct (shE pre δ) (lay pre st)
  | .xc c fs δ st => .xc c fs (shE pre δ) (lay pre st)
  | .no => .no
variable {pre}
theorem bind_sh {α β γ δ : Type} {r : Res α} {f : α → β} {h : γ → δ} {g : α → Sto → Res γ} {g' : β → Sto → Res δ} (e : ∀ a st, g' (f a) (lay pre st) = (g a st).sh pre h) : (r.sh pre f).bind g' = (r.bind g).sh pre h := by
  cases r with
  | ok a st => exact e a st
  | exc c fs st => rfl
  | no => rfl
theorem sr_sh {α β : Type} {r : Res α} {f : α → β} {δ : Env} {g : α → Sto → SR} {g' : β → Sto → SR} (e : ∀ a st, g' (f a) (lay pre st) = (g a st).sh pre) : (r.sh pre f).sr (shE pre δ) g' = (r.sr δ g).sh pre := by
  cases r with
  | ok a st => exact e a st
  | exc c fs st => rfl
  | no => rfl
theorem lay_get {st : Sto} {n : Nat} : (lay pre st).ls[pre.length + n]? = st.ls[n]? := by
  show (pre ++ st.ls)[pre.length + n]? = _
  rw [List.getElem?_append_right (Nat.le_add_right _ _), Nat.add_sub_cancel_left]
theorem lay_set {ls : List Cell} {n : Nat} {c : Cell} : (pre ++ ls).set (pre.length + n) c = pre ++ ls.set n c := by
  rw [List.set_append_right _ _ (Nat.le_add_right _ _), Nat.add_sub_cancel_left]
theorem peek_sh {st : Sto} {w : W} : peek (lay pre st) (sh pre w) = peek st w := by
  cases w with
  | cel n =>
    show (match (lay pre st).ls[pre.length + n]? with
      | some c => some (P.lst c.xs)
      | none => none) = _
    rw [lay_get]
    rfl
  | _ => rfl
theorem peeks_sh {st : Sto} : ∀ {ws : List W}, peeks (lay pre st) (ws.map (sh pre)) = peeks st ws
  | [] => rfl
  | w :: ws => by
    rw [List.map_cons, peeks, peeks, peek_sh, peeks_sh]
theorem keep_sh {st : Sto} {w : W} : keep (lay pre st) (sh pre w) = (keep st w).sh pre id := by
  cases w with
  | cel n =>
    simp only [keep, sh, lay_get]
    cases e : st.ls[n]? with
    | none => rfl
    | some c =>
      simp only [Res.sh, lay, lay_set, id]
  | p x => rfl
  | own c fs => rfl
theorem keeps_sh : ∀ {ws : List W} {st : Sto}, keeps (ws.map (sh pre)) (lay pre st) = (keeps ws st).sh pre id
  | [], st => rfl
  | w :: ws, st => by
    rw [List.map_cons, keeps, keeps, keep_sh]
    refine bind_sh fun x st => ?_
    rw [keeps_sh]
    exact bind_sh fun xs st => rfl
theorem mkL_sh {c : Bool} {xs : List P} {st : Sto} : mkL c xs (lay pre st) = (mkL c xs st).sh pre (sh pre) := by
  unfold mkL
  split
  · show Res.ok (W.cel (pre ++ st.ls).length) _ = Res.ok (W.cel (pre.length + st.ls.length)) _
    rw [List.length_append]
    simp [lay]
  · rfl
theorem wrt_sh {n : Nat} {f : List P → Option (List P × P)} {st : Sto} : wrt (pre.length + n) f (lay pre st) = (wrt n f st).sh pre (sh pre) := by
  unfold wrt
  rw [lay_get]
  cases st.ls[n]? with
  | none => rfl
  | some c =>
    dsimp only
    split
    · rfl
    · split
      · simp only [Res.sh, lay, lay_set, sh]
      · rfl
theorem ofO_sh {α : Type} {o : Option α} {st : Sto} : ofO o (lay pre st) = (ofO o st).sh pre id := by
  cases o <;> rfl
theorem tru_sh {w : W} {st : Sto} : tru (sh pre w) (lay pre st) = (tru w st).sh pre id := by
  cases w with
  | p x => exact ofO_sh
  | _ => rfl
theorem one_sh {f : P → Option P} {w : W} {st : Sto} : Res.one f (sh pre w) (lay pre st) = (Res.one f w st).sh pre (sh pre) := by
  unfold Res.one
  rw [peek_sh]
  split
  · split <;> rfl
  · rfl
theorem two_sh {f : P → P → Option P} {w u : W} {st : Sto} : Res.two f (sh pre w) (sh pre u) (lay pre st) = (Res.two f w u st).sh pre (sh pre) := by
  unfold Res.two
  rw [peek_sh, peek_sh]
  split
  · split <;> rfl
  · rfl
theorem noX_sh {α β : Type} {f : α → β} {r : Res α} : noX (r.sh pre f) = (noX r).sh pre f := by
  cases r <;> rfl
theorem mapR_sh {f g : P → Sto → Res (Option P)} (e : ∀ x st, g x (lay pre st) = (f x st).sh pre id) : ∀ {xs : List P} {st : Sto}, mapR g xs (lay pre st) = (mapR f xs st).sh pre id
  | [], st => rfl
  | x :: xs, st => by
    rw [mapR, mapR, e]
    refine bind_sh fun y st => ?_
    rw [mapR_sh e]
    exact bind_sh fun ys st => rfl
theorem mapL_sh {f g : P → Sto → Res (List P)} (e : ∀ x st, g x (lay pre st) = (f x st).sh pre id) : ∀ {xs : List P} {st : Sto}, mapL g xs (lay pre st) = (mapL f xs st).sh pre id
  | [], st => rfl
  | x :: xs, st => by
    rw [mapL, mapL, e]
    refine bind_sh fun y st => ?_
    rw [mapL_sh e]
    exact bind_sh fun ys st => rfl
theorem shE_len {δ : Env} : (shE pre δ).length = δ.length := List.length_map _
theorem shE_get {δ : Env} {i : Nat} : (shE pre δ)[i]? = (δ[i]?).map (Option.map (sh pre)) := List.getElem?_map ..
theorem shE_set {δ : Env} {i : Nat} {w : W} : (shE pre δ).set i (some (sh pre w)) = shE pre (δ.set i (some w)) := by
  unfold shE
  rw [List.map_set]
  rfl
theorem own_sh {w : W} : notOwn (sh pre w) = notOwn w := by cases w <;> rfl
theorem wipe_sh {δ : Env} : ∀ {vs : List Nat}, wipe (shE pre δ) vs = shE pre (wipe δ vs)
  | [] => rfl
  | v :: vs => by
    rw [wipe, wipe, wipe_sh]
    unfold shE
    rw [List.map_set]
    rfl
mutual
theorem put_sh : ∀ {tg : Tg} {w : W} {δ : Env}, tg.put (sh pre w) (shE pre δ) = (tg.put w δ).map (shE pre)
  | .n i, w, δ => by
    rw [Tg.put, Tg.put, shE_len, own_sh, shE_set]
    split <;> rfl
  | .t ts, .p x, δ => by
    cases x with
    | tup xs =>
      show Tg.put (.t ts) (.p (.tup xs)) (shE pre δ) = _
      rw [Tg.put, Tg.put]
      exact puts_sh
    | lst xs =>
      show Tg.put (.t ts) (.p (.lst xs)) (shE pre δ) = _
      rw [Tg.put, Tg.put]
      exact puts_sh
    | _ => rfl
  | .t ts, .cel n, δ => rfl
  | .t ts, .own c fs, δ => rfl
theorem puts_sh : ∀ {ts : List Tg} {xs : List P} {δ : Env}, Tg.puts ts xs (shE pre δ) = (Tg.puts ts xs δ).map (shE pre)
  | [], [], δ => by rw [Tg.puts, Tg.puts]; rfl
  | [], _ :: _, δ => by rw [Tg.puts, Tg.puts] <;> first | rfl | simp
  | _ :: _, [], δ => by rw [Tg.puts, Tg.puts] <;> first | rfl | simp
  | t :: ts, x :: xs, δ => by
    rw [Tg.puts, Tg.puts]
    have e : t.put (.p x) (shE pre δ) = (t.put (.p x) δ).map (shE pre) := put_sh (w := .p x)
    rw [e]
    cases t.put (.p x) δ with
    | none => rfl
    | some δ1 => exact puts_sh
end
theorem putAll_sh : ∀ {is : List Nat} {ws : List W} {δ : Env}, putAll is (ws.map (sh pre)) (shE pre δ) = (putAll is ws δ).map (shE pre)
  | [], [], δ => by rw [List.map_nil, putAll, putAll]; rfl
  | [], _ :: _, δ => by rw [List.map_cons, putAll, putAll] <;> first | rfl | simp
  | _ :: _, [], δ => by rw [List.map_nil, putAll, putAll] <;> first | rfl | simp
  | i :: is, w :: ws, δ => by
    rw [List.map_cons, putAll, putAll, shE_len, own_sh, shE_set]
    split
    · exact putAll_sh
    · rfl
theorem pick_sh {ws : List W} : ∀ {is : List Nat}, pick (ws.map (sh pre)) is = (pick ws is).map (List.map (sh pre))
  | [] => rfl
  | i :: is => by
    rw [pick, pick, pick_sh, List.getElem?_map]
    cases ws[i]? <;> cases pick ws is <;> rfl
theorem fmP_sh {w : W} : fmP (sh pre w) = fmP w := by
  cases w <;> rfl
theorem biG_sh {b : Bi} {c : Bool} {ws : List W} {st : Sto} : biG b c (ws.map (sh pre)) (lay pre st) = (biG b c ws st).sh pre (sh pre) := by
  unfold biG
  rw [peeks_sh]
  split
  · split
    · rfl
    · split
      · exact mkL_sh
      · rfl
  · rfl
end
end Z

namespace Z
open PySem

structure CxSh (pre : List Cell) (C : Ctx) : Prop where
  call : ∀ f ws st, C.call f (ws.map (sh pre)) (lay pre st) = (C.call f ws st).sh pre (sh pre)
  new : ∀ c f ws st, C.new c f (ws.map (sh pre)) (lay pre st) = (C.new c f ws st).sh pre id
section
variable {pre : List Cell} {C : Ctx}
theorem sh_p {x : P} : sh pre (.p x) = .p x := rfl
theorem map_shp {xs : List P} : (xs.map W.p).map (sh pre) = xs.map W.p := by
  rw [List.map_map]
  rfl
theorem dunR_sh {b : Bi} {w : W} {st : Sto} : dunR b (sh pre w) (lay pre st) = (dunR b w st).sh pre (sh pre) := by
  cases w with
  | p x =>
    cases b <;> cases x <;> first
      | rfl
      | (simp only [sh, dunR]; split <;> rfl)
  | cel n => cases b <;> rfl
  | own c fs => cases b <;> rfl
theorem biW_sh (h : CxSh pre C) {b : Bi} {c : Bool} {ws : List W} {st : Sto} : biW C b c (ws.map (sh pre)) (lay pre st) = (biW C b c ws st).sh pre (sh pre) := by
  have g := biG_sh (pre := pre) (b := b) (c := c) (ws := ws) (st := st)
  match ws, g with
  | [], g => exact g
  | [.p x], g =>
    cases x with
    | ins k fs =>
      show biW C b c [.p (.ins k fs)] (lay pre st) = _
      simp only [biW]
      cases dunOf b with
      | none => exact g
      | some d =>
        dsimp only
        cases C.dun k d with
        | none => rfl
        | some f =>
          have e := h.call f [.p (.ins k fs)] st
          have e : C.call f [.p (.ins k fs)] (lay pre st) = _ := e
          dsimp only
          rw [e]
          exact bind_sh fun w st => dunR_sh
    | _ => exact g
  | [.cel n], g => exact g
  | [.own k fs], g => exact g
  | w1 :: w2 :: ws, g =>
    cases w1 with
    | p x => cases x <;> exact g
    | _ => exact g
theorem rgtR_sh {l c : Bool} {w : W} {st : Sto} : rgtR l c (sh pre w) (lay pre st) = (rgtR l c w st).sh pre (sh pre) := by
  cases w with
  | p x =>
    cases x with
    | int n =>
      simp only [sh, rgtR]
      cases rngP 0 n with
      | none => rfl
      | some xs =>
        dsimp only
        split
        · split
          · exact mkL_sh
          · rfl
        · rfl
    | _ => rfl
  | _ => rfl
mutual
theorem ev_sh (h : CxSh pre C) : ∀ (e : E) (δ : Env) (st : Sto), e.ev C (shE pre δ) (lay pre st) = (e.ev C δ st).sh pre (sh pre)
  | .non, δ, st => by rw [E.ev, E.ev]; rfl
  | .bl b, δ, st => by rw [E.ev, E.ev]; rfl
  | .int b, δ, st => by rw [E.ev, E.ev]; rfl
  | .str b, δ, st => by rw [E.ev, E.ev]; rfl
  | .v i, δ, st => by
    unfold E.ev
    rw [shE_get]
    cases δ[i]? with
    | none => rfl
    | some o => cases o <;> rfl
  | .gv x, δ, st => by
    unfold E.ev
    cases C.glo x <;> rfl
  | .tup es, δ, st => by
    rw [E.ev, E.ev, evs_sh h es]
    refine bind_sh fun ws st => ?_
    rw [keeps_sh]
    refine bind_sh fun xs st => ?_
    dsimp only [id]
    split <;> rfl
  | .lst c es, δ, st => by
    rw [E.ev, E.ev, evs_sh h es]
    refine bind_sh fun ws st => ?_
    rw [keeps_sh]
    refine bind_sh fun xs st => ?_
    dsimp only [id]
    split
    · exact mkL_sh
    · rfl
  | .op o a b, δ, st => by
    rw [E.ev, E.ev, ev_sh h a]
    refine bind_sh fun w st => ?_
    rw [ev_sh h b]
    exact bind_sh fun u st => two_sh
  | .neg a, δ, st => by
    rw [E.ev, E.ev, ev_sh h a]
    exact bind_sh fun u st => one_sh
  | .not a, δ, st => by
    rw [E.ev, E.ev, ev_sh h a]
    refine bind_sh fun u st => ?_
    rw [tru_sh]
    exact bind_sh fun u st => rfl
  | .cmp o a b, δ, st => by
    rw [E.ev, E.ev, ev_sh h a]
    refine bind_sh fun w st => ?_
    rw [ev_sh h b]
    exact bind_sh fun u st => two_sh
  | .chn o1 o2 a b c, δ, st => by
    rw [E.ev, E.ev, ev_sh h a]
    refine bind_sh fun w st => ?_
    rw [ev_sh h b]
    refine bind_sh fun u st => ?_
    rw [two_sh]
    refine bind_sh fun r st => ?_
    rw [tru_sh]
    refine bind_sh fun t st => ?_
    dsimp only [id]
    split
    · rw [ev_sh h c]
      exact bind_sh fun u st => two_sh
    · rfl
  | .and a b, δ, st => by
    rw [E.ev, E.ev, ev_sh h a]
    refine bind_sh fun w st => ?_
    rw [tru_sh]
    refine bind_sh fun t st => ?_
    dsimp only [id]
    split
    · exact ev_sh h b _ _
    · rfl
  | .or a b, δ, st => by
    rw [E.ev, E.ev, ev_sh h a]
    refine bind_sh fun w st => ?_
    rw [tru_sh]
    refine bind_sh fun t st => ?_
    dsimp only [id]
    split
    · rfl
    · exact ev_sh h b _ _
  | .ife t a b, δ, st => by
    rw [E.ev, E.ev, ev_sh h t]
    refine bind_sh fun w st => ?_
    rw [tru_sh]
    refine bind_sh fun t st => ?_
    dsimp only [id]
    split
    · exact ev_sh h a _ _
    · exact ev_sh h b _ _
  | .ix a i, δ, st => by
    rw [E.ev, E.ev, ev_sh h a]
    refine bind_sh fun w st => ?_
    rw [ev_sh h i]
    exact bind_sh fun u st => two_sh
  | .sl a lo hi, δ, st => by
    rw [E.ev, E.ev, ev_sh h a]
    refine bind_sh fun w st => ?_
    rw [ev_sh h lo]
    refine bind_sh fun l st => ?_
    rw [ev_sh h hi]
    refine bind_sh fun u st => ?_
    rw [peek_sh]
    cases peek st w with
    | none => rfl
    | some x =>
      cases l with
      | p l =>
        cases u with
        | p u =>
          dsimp only [sh]
          cases prtP l with
          | none => rfl
          | some a =>
            cases prtP u with
            | none => rfl
            | some b =>
              dsimp only
              cases slP x a b <;> rfl
        | _ => rfl
      | _ => cases u <;> rfl
  | .rev a, δ, st => by
    rw [E.ev, E.ev, ev_sh h a]
    exact bind_sh fun u st => one_sh
  | .call f es, δ, st => by
    rw [E.ev, E.ev, evs_sh h es]
    exact bind_sh fun ws st => h.call f ws st
  | .calk f es pm, δ, st => by
    rw [E.ev, E.ev, evs_sh h es]
    refine bind_sh fun ws st => ?_
    rw [pick_sh]
    cases pick ws pm with
    | none => rfl
    | some us => exact h.call f us st
  | .meth c f o es, δ, st => by
    rw [E.ev, E.ev, ev_sh h o]
    refine bind_sh fun w st => ?_
    cases w with
    | p x =>
      cases x with
      | ins k fs =>
        dsimp only [sh]
        split
        · rw [evs_sh h es]
          exact bind_sh fun ws st => h.call f (.p (.ins k fs) :: ws) st
        · rfl
      | _ => rfl
    | _ => rfl
  | .prop c f o, δ, st => by
    rw [E.ev, E.ev, ev_sh h o]
    refine bind_sh fun w st => ?_
    cases w with
    | p x =>
      cases x with
      | ins k fs =>
        dsimp only [sh]
        split
        · have e : C.call f [.p (.ins k fs)] (lay pre st) = _ := h.call f [.p (.ins k fs)] st
          rw [e]
          exact noX_sh
        · rfl
      | _ => rfl
    | _ => rfl
  | .new c f k es, δ, st => by
    rw [E.ev, E.ev, evs_sh h es]
    refine bind_sh fun ws st => ?_
    rw [h.new]
    refine bind_sh fun fs st => ?_
    dsimp only [id]
    split <;> rfl
  | .fld c i o, δ, st => by
    rw [E.ev, E.ev, ev_sh h o]
    refine bind_sh fun w st => ?_
    cases w with
    | p x =>
      cases x with
      | ins k fs =>
        dsimp only [sh]
        split
        · split <;> rfl
        · rfl
      | _ => rfl
    | own k fs =>
      dsimp only [sh]
      split
      · split <;> rfl
      · rfl
    | cel n => rfl
  | .isi t e, δ, st => by
    rw [E.ev, E.ev, ev_sh h e]
    exact bind_sh fun u st => one_sh
  | .bi b c es, δ, st => by
    rw [E.ev, E.ev, evs_sh h es]
    exact bind_sh fun ws st => biW_sh h
  | .sm m c o es, δ, st => by
    rw [E.ev, E.ev, ev_sh h o]
    refine bind_sh fun w st => ?_
    cases w with
    | p x =>
      cases x with
      | str s =>
        dsimp only [sh]
        rw [evs_sh h es]
        refine bind_sh fun ws st => ?_
        rw [peeks_sh]
        cases peeks st ws with
        | none => rfl
        | some xs =>
          dsimp only
          cases smP m s xs with
          | some y => rfl
          | none =>
            dsimp only
            cases smL m s xs with
            | some ys => exact mkL_sh
            | none => rfl
      | _ => rfl
    | _ => rfl
  | .lm m o es, δ, st => by
    rw [E.ev, E.ev, ev_sh h o]
    refine bind_sh fun w st => ?_
    cases w with
    | cel n =>
      dsimp only [sh]
      have e : (lay pre st).ls.length = pre.length + st.ls.length := List.length_append
      rw [e]
      by_cases hn : n < st.ls.length
      · rw [if_pos hn, if_pos (by omega), evs_sh h es]
        refine bind_sh fun ws st => ?_
        rw [keeps_sh]
        exact bind_sh fun xs st => wrt_sh
      · rw [if_neg hn, if_neg (by omega)]
        rfl
    | _ => rfl
  | .lc c vs tg it t e, δ, st => by
    rw [E.ev, E.ev, it_sh h it]
    refine bind_sh fun xs st => ?_
    rw [mapR_sh (f := fun x st => match tg.put (.p x) (wipe δ vs) with
      | some δ1 => ((t.ev C δ1 st).bind tru).bind fun b st => if b then (e.ev C δ1 st).bind fun w st => (keep st w).bind fun y st => .ok (some y) st else .ok none st
      | none => .no) (fun x st => ?_)]
    · rw [noX_sh]
      refine bind_sh fun ys st => ?_
      dsimp only [id]
      split
      · exact mkL_sh
      · rfl
    · have q : tg.put (.p x) (wipe (shE pre δ) vs) = (tg.put (.p x) (wipe δ vs)).map (shE pre) := by
        rw [wipe_sh]
        exact put_sh (w := .p x)
      rw [q]
      cases tg.put (.p x) (wipe δ vs) with
      | none => rfl
      | some δ1 =>
        dsimp only [Option.map]
        rw [ev_sh h t, bind_sh (h := id) (g := tru) fun w st => tru_sh]
        refine bind_sh fun b st => ?_
        dsimp only [id]
        split
        · rw [ev_sh h e]
          refine bind_sh fun w st => ?_
          rw [keep_sh]
          exact bind_sh fun y st => rfl
        · rfl
  | .lc2 c vs vs1 tg it t tg1 it1 t1 e, δ, st => by
    rw [E.ev, E.ev, it_sh h it]
    refine bind_sh fun xs st => ?_
    rw [mapL_sh (f := fun x st => match tg.put (.p x) (wipe δ vs) with
      | some δ1 => ((t.ev C δ1 st).bind tru).bind fun b st => if b then (it1.ev C δ1 st).bind fun xs1 st => mapR (fun x1 st => match tg1.put (.p x1) (wipe δ1 vs1) with
          | some δ2 => ((t1.ev C δ2 st).bind tru).bind fun b st => if b then (e.ev C δ2 st).bind fun w st => (keep st w).bind fun y st => .ok (some y) st else .ok none st
          | none => .no) xs1 st
        else .ok [] st
      | none => .no) (fun x st => ?_)]
    · rw [noX_sh]
      refine bind_sh fun ys st => ?_
      dsimp only [id]
      split
      · exact mkL_sh
      · rfl
    · have q : tg.put (.p x) (wipe (shE pre δ) vs) = (tg.put (.p x) (wipe δ vs)).map (shE pre) := by
        rw [wipe_sh]
        exact put_sh (w := .p x)
      rw [q]
      cases tg.put (.p x) (wipe δ vs) with
      | none => rfl
      | some δ1 =>
        dsimp only [Option.map]
        rw [ev_sh h t, bind_sh (h := id) (g := tru) fun w st => tru_sh]
        refine bind_sh fun b st => ?_
        dsimp only [id]
        split
        · rw [it_sh h it1]
          refine bind_sh fun xs1 st => ?_
          refine mapR_sh (f := fun x1 st => match tg1.put (.p x1) (wipe δ1 vs1) with
            | some δ2 => ((t1.ev C δ2 st).bind tru).bind fun b st => if b then (e.ev C δ2 st).bind fun w st => (keep st w).bind fun y st => .ok (some y) st else .ok none st
            | none => .no) fun x1 st => ?_
          have q1 : tg1.put (.p x1) (wipe (shE pre δ1) vs1) = (tg1.put (.p x1) (wipe δ1 vs1)).map (shE pre) := by
            rw [wipe_sh]
            exact put_sh (w := .p x1)
          rw [q1]
          cases tg1.put (.p x1) (wipe δ1 vs1) with
          | none => rfl
          | some δ2 =>
            dsimp only [Option.map]
            rw [ev_sh h t1, bind_sh (h := id) (g := tru) fun w st => tru_sh]
            refine bind_sh fun b st => ?_
            dsimp only [id]
            split
            · rw [ev_sh h e]
              refine bind_sh fun w st => ?_
              rw [keep_sh]
              exact bind_sh fun y st => rfl
            · rfl
        · rfl
  | .fst es, δ, st => by
    rw [E.ev, E.ev]
    exact fj_sh h es _ _ _
  | .srtk c f e, δ, st => by
    rw [E.ev, E.ev, ev_sh h e]
    refine bind_sh fun w st => ?_
    rw [peek_sh]
    cases peek st w with
    | none => rfl
    | some x =>
      dsimp only
      cases itemsP x with
      | none => rfl
      | some xs =>
        dsimp only
        rw [mapR_sh (f := fun x st => (C.call f [.p x] st).bind fun k st => (keep st k).bind fun k st => .ok (some (.tup [k, x])) st) (fun x st => ?_)]
        · refine bind_sh fun ks st => ?_
          dsimp only [id]
          split
          · exact mkL_sh
          · rfl
        · have e : C.call f [.p x] (lay pre st) = _ := h.call f [.p x] st
          rw [e]
          refine bind_sh fun k st => ?_
          rw [keep_sh]
          exact bind_sh fun k st => rfl
  | .rgt l c a, δ, st => by
    rw [E.ev, E.ev, ev_sh h a]
    exact bind_sh fun w st => rgtR_sh
theorem evs_sh (h : CxSh pre C) : ∀ (es : Es) (δ : Env) (st : Sto), es.ev C (shE pre δ) (lay pre st) = (es.ev C δ st).sh pre (List.map (sh pre))
  | .nil, δ, st => by rw [Es.ev, Es.ev]; rfl
  | .cons e es, δ, st => by
    rw [Es.ev, Es.ev, ev_sh h e]
    refine bind_sh fun w st => ?_
    rw [evs_sh h es]
    exact bind_sh fun ws st => rfl
  | .star e es, δ, st => by
    rw [Es.ev, Es.ev, ev_sh h e]
    refine bind_sh fun w st => ?_
    rw [peek_sh]
    cases peek st w with
    | none => rfl
    | some x =>
      cases x with
      | tup xs =>
        dsimp only
        rw [evs_sh h es]
        refine bind_sh fun ws st => ?_
        rw [← map_shp (pre := pre), ← List.map_append, map_shp]
        rfl
      | lst xs =>
        dsimp only
        rw [evs_sh h es]
        refine bind_sh fun ws st => ?_
        rw [← map_shp (pre := pre), ← List.map_append, map_shp]
        rfl
      | _ => rfl
theorem fj_sh (h : CxSh pre C) : ∀ (es : Es) (acc : Str) (δ : Env) (st : Sto), es.fj C acc (shE pre δ) (lay pre st) = (es.fj C acc δ st).sh pre (sh pre)
  | .nil, acc, δ, st => by rw [Es.fj, Es.fj]; rfl
  | .cons e es, acc, δ, st => by
    rw [Es.fj, Es.fj, ev_sh h e]
    refine bind_sh fun w st => ?_
    rw [fmP_sh]
    cases fmP w with
    | none => rfl
    | some s =>
      dsimp only
      split
      · exact fj_sh h es _ _ _
      · rfl
  | .star e es, acc, δ, st => by rw [Es.fj, Es.fj]; rfl
theorem it_sh (h : CxSh pre C) : ∀ (it : It) (δ : Env) (st : Sto), it.ev C (shE pre δ) (lay pre st) = (it.ev C δ st).sh pre id
  | .val e, δ, st => by
    rw [It.ev, It.ev, ev_sh h e]
    refine bind_sh fun w st => ?_
    rw [keep_sh]
    exact bind_sh fun x st => ofO_sh
  | .rng1 a, δ, st => by
    rw [It.ev, It.ev, ev_sh h a]
    refine bind_sh fun w st => ?_
    cases w with
    | p x =>
      cases x with
      | int n => exact ofO_sh
      | _ => rfl
    | _ => rfl
  | .rng2 a b, δ, st => by
    rw [It.ev, It.ev, ev_sh h a]
    refine bind_sh fun w st => ?_
    rw [ev_sh h b]
    refine bind_sh fun u st => ?_
    cases w with
    | p x =>
      cases x with
      | int n =>
        cases u with
        | p y =>
          cases y with
          | int m => exact ofO_sh
          | _ => rfl
        | _ => rfl
      | _ => cases u <;> rfl
    | _ => cases u <;> rfl
  | .zip a b, δ, st => by
    rw [It.ev, It.ev, ev_sh h a]
    refine bind_sh fun w st => ?_
    rw [ev_sh h b]
    refine bind_sh fun u st => ?_
    rw [keep_sh]
    refine bind_sh fun x st => ?_
    rw [keep_sh]
    refine bind_sh fun y st => ?_
    dsimp only [id]
    split <;> first | rfl | (rename_i h1 h2; cases x <;> cases y <;> first | rfl | exact absurd rfl (h1 _ _ rfl) | exact absurd rfl (h2 _ _ rfl))
  | .enum a, δ, st => by
    rw [It.ev, It.ev, ev_sh h a]
    refine bind_sh fun w st => ?_
    rw [keep_sh]
    refine bind_sh fun x st => ?_
    cases x <;> rfl
end
end
end Z

namespace Z
open PySem
section
variable {pre : List Cell} {C : Ctx}
theorem forR_sh {tg : Tg} {f g : Env → Sto → SR} (e : ∀ δ st, g (shE pre δ) (lay pre st) = (f δ st).sh pre) : ∀ {xs : List P} {δ : Env} {st : Sto}, forR tg g xs (shE pre δ) (lay pre st) = (forR tg f xs δ st).sh pre
  | [], δ, st => rfl
  | x :: xs, δ, st => by
    rw [forR, forR]
    have q : tg.put (.p x) (shE pre δ) = (tg.put (.p x) δ).map (shE pre) := put_sh (w := .p x)
    rw [q]
    cases tg.put (.p x) δ with
    | none => rfl
    | some δ1 =>
      dsimp only [Option.map]
      rw [e]
      cases f δ1 st with
      | nx δ2 st2 => exact forR_sh e
      | ct δ2 st2 => exact forR_sh e
      | _ => rfl
theorem whlR_sh {t t' : Env → Sto → Res W} {f g : Env → Sto → SR} (et : ∀ δ st, t' (shE pre δ) (lay pre st) = (t δ st).sh pre (sh pre)) (e : ∀ δ st, g (shE pre δ) (lay pre st) = (f δ st).sh pre) : ∀ {n : Nat} {δ : Env} {st : Sto}, whlR t' g n (shE pre δ) (lay pre st) = (whlR t f n δ st).sh pre
  | 0, δ, st => rfl
  | n + 1, δ, st => by
    rw [whlR, whlR, et]
    refine sr_sh fun w st1 => ?_
    rw [tru_sh]
    refine sr_sh fun b st1 => ?_
    dsimp only [id]
    split
    · rw [e]
      cases f δ st1 with
      | nx δ2 st2 => exact whlR_sh et e
      | ct δ2 st2 => exact whlR_sh et e
      | _ => rfl
    · rfl
mutual
theorem st_sh (h : CxSh pre C) : ∀ (s : S) (δ : Env) (st : Sto), s.ev C (shE pre δ) (lay pre st) = (s.ev C δ st).sh pre
  | .ex e, δ, st => by
    rw [S.ev, S.ev, ev_sh h e]
    exact sr_sh fun w st => rfl
  | .set (.n i) e, δ, st => by
    rw [S.ev, S.ev, ev_sh h e]
    refine sr_sh fun w st => ?_
    dsimp only
    rw [shE_len, own_sh, shE_set]
    split <;> rfl
  | .set (.t ts) e, δ, st => by
    rw [S.ev, S.ev, ev_sh h e]
    refine sr_sh fun w st => ?_
    dsimp only
    rw [keep_sh]
    refine sr_sh fun x st => ?_
    have q : (Tg.t ts).put (.p x) (shE pre δ) = ((Tg.t ts).put (.p x) δ).map (shE pre) := put_sh (w := .p x)
    dsimp only [id]
    rw [q]
    cases (Tg.t ts).put (.p x) δ <;> rfl
  | .par is es, δ, st => by
    rw [S.ev, S.ev, evs_sh h es]
    refine sr_sh fun ws st => ?_
    rw [putAll_sh]
    cases putAll is ws δ <;> rfl
  | .seti o i e, δ, st => by
    rw [S.ev, S.ev, ev_sh h e]
    refine sr_sh fun w st => ?_
    rw [keep_sh]
    refine sr_sh fun x st => ?_
    rw [ev_sh h o]
    refine sr_sh fun ow st => ?_
    rw [ev_sh h i]
    refine sr_sh fun iw st => ?_
    cases ow with
    | cel n =>
      cases iw with
      | p y =>
        cases y with
        | int k =>
          dsimp only [sh, id]
          rw [wrt_sh]
          exact sr_sh fun _ st => rfl
        | _ => rfl
      | _ => rfl
    | _ => cases iw <;> rfl
  | .sown k i e, δ, st => by
    rw [S.ev, S.ev, ev_sh h e]
    refine sr_sh fun w st => ?_
    rw [keep_sh]
    refine sr_sh fun x st => ?_
    rw [shE_get]
    cases δ[0]? with
    | none => rfl
    | some o =>
      cases o with
      | none => rfl
      | some u =>
        cases u with
        | own c fs =>
          dsimp only [Option.map, sh, id]
          split
          · have q := shE_set (pre := pre) (δ := δ) (i := 0) (w := .own c (fs ++ [x]))
            have q : (shE pre δ).set 0 (some (.own c (fs ++ [x]))) = _ := q
            rw [q]
            rfl
          · rfl
        | _ => rfl
  | .ret e, δ, st => by
    rw [S.ev, S.ev, ev_sh h e]
    exact sr_sh fun w st => rfl
  | .retn, δ, st => by rw [S.ev, S.ev]; rfl
  | .ife t a b, δ, st => by
    rw [S.ev, S.ev, ev_sh h t]
    refine sr_sh fun w st => ?_
    rw [tru_sh]
    refine sr_sh fun c st => ?_
    dsimp only [id]
    split
    · exact ss_sh h a _ _
    · exact ss_sh h b _ _
  | .for_ tg it body, δ, st => by
    rw [S.ev, S.ev, it_sh h it]
    refine sr_sh fun xs st => ?_
    exact forR_sh fun δ st => ss_sh h body δ st
  | .whl t body, δ, st => by
    rw [S.ev, S.ev]
    exact whlR_sh (fun δ st => ev_sh h t δ st) (fun δ st => ss_sh h body δ st)
  | .rai c es, δ, st => by
    rw [S.ev, S.ev, evs_sh h es]
    refine sr_sh fun ws st => ?_
    rw [keeps_sh]
    exact sr_sh fun xs st => rfl
  | .try_ body hs, δ, st => by
    rw [S.ev, S.ev, ss_sh h body]
    cases body.ev C δ st with
    | xc c fs δ1 st1 => exact hs_sh h hs _ _ _ _
    | _ => rfl
  | .pass, δ, st => by rw [S.ev, S.ev]; rfl
  | .brk, δ, st => by rw [S.ev, S.ev]; rfl
  | .cnt, δ, st => by rw [S.ev, S.ev]; rfl
  | .doc, δ, st => by rw [S.ev, S.ev]; rfl
  | .bad, δ, st => by rw [S.ev, S.ev]; rfl
theorem ss_sh (h : CxSh pre C) : ∀ (s : Ss) (δ : Env) (st : Sto), s.ev C (shE pre δ) (lay pre st) = (s.ev C δ st).sh pre
  | .nil, δ, st => by rw [Ss.ev, Ss.ev]; rfl
  | .cons s ss, δ, st => by
    rw [Ss.ev, Ss.ev, st_sh h s]
    cases s.ev C δ st with
    | nx δ1 st1 => exact ss_sh h ss _ _
    | _ => rfl
theorem hs_sh (h : CxSh pre C) : ∀ (s : Hs) (c : Nat) (fs : List P) (δ : Env) (st : Sto), s.ev C c fs (shE pre δ) (lay pre st) = (s.ev C c fs δ st).sh pre
  | .nil, c, fs, δ, st => by rw [Hs.ev, Hs.ev]; rfl
  | .cons cs nm b hs, c, fs, δ, st => by
    rw [Hs.ev, Hs.ev]
    split
    · exact ss_sh h b _ _
    · exact hs_sh h hs _ _ _ _
end
theorem cut_sh {k : Nat} {st : Sto} : (lay pre st).cut (pre.length + k) = lay pre (st.cut k) := by
  have e : pre.take (pre.length + k) = pre := List.take_of_length_le (by omega)
  simp [Sto.cut, lay, List.take_append, e]
theorem leave_sh {rc : Bool} {k : Nat} {r : SR} : leave rc (pre.length + k) (r.sh pre) = (leave rc k r).sh pre (sh pre) := by
  cases r with
  | nx δ st =>
    show Res.ok (W.p .non) ((lay pre st).cut (pre.length + k)) = _
    rw [cut_sh]
    rfl
  | rt w st =>
    cases w with
    | p x =>
      show Res.ok (W.p x) ((lay pre st).cut (pre.length + k)) = _
      rw [cut_sh]
      rfl
    | cel m =>
      simp only [SR.sh, sh, leave, lay_get, cut_sh]
      by_cases hm : m < k
      · rw [if_pos hm, if_pos (by omega)]
        rfl
      · rw [if_neg hm, if_neg (by omega)]
        cases st.ls[m]? with
        | none => rfl
        | some c =>
          dsimp only
          split
          · split
            · rfl
            · have e : pre.take (pre.length + k) = pre := List.take_of_length_le (by omega)
              simp [Res.sh, sh, lay, List.take_append, e]
          · rfl
    | own c fs => rfl
  | xc c fs δ st =>
    show Res.exc c fs ((lay pre st).cut (pre.length + k)) = _
    rw [cut_sh]
    rfl
  | _ => rfl
theorem leaveN_sh {c k : Nat} {r : SR} : leaveN c (pre.length + k) (r.sh pre) = (leaveN c k r).sh pre id := by
  cases r with
  | nx δ st =>
    simp only [SR.sh, leaveN, shE_get, cut_sh]
    cases δ[0]? with
    | none => rfl
    | some o =>
      cases o with
      | none => rfl
      | some u =>
        cases u with
        | own d fs =>
          dsimp only [Option.map, sh]
          split <;> rfl
        | _ => rfl
  | xc d fs δ st =>
    show Res.exc d fs ((lay pre st).cut (pre.length + k)) = _
    rw [cut_sh]
    rfl
  | _ => rfl
theorem start_sh {n : Nat} {ws : List W} : start n (ws.map (sh pre)) = shE pre (start n ws) := by
  simp [start, shE, List.map_append]
theorem all_sh {ws : List W} : (ws.map (sh pre)).all notOwn = ws.all notOwn := by
  rw [List.all_map]
  congr 1
  funext w
  exact own_sh
theorem lay_len {st : Sto} : (lay pre st).ls.length = pre.length + st.ls.length := List.length_append
variable {G : Pg}
theorem call_sh : ∀ n, CxSh pre (G.cx (G.call n) (G.new n))
  | 0 => ⟨fun f ws st => rfl, fun c f ws st => rfl⟩
  | n + 1 => by
    have h := call_sh n
    refine ⟨fun f ws st => ?_, fun c f ws st => ?_⟩
    · show G.call (n + 1) f _ _ = (G.call (n + 1) f ws st).sh pre (sh pre)
      rw [Pg.call, Pg.call]
      cases G.fd f with
      | none => rfl
      | some d =>
        dsimp only
        rw [List.length_map, all_sh, start_sh, ss_sh h, lay_len]
        split
        · exact leave_sh
        · rfl
    · show G.new (n + 1) c f _ _ = (G.new (n + 1) c f ws st).sh pre id
      rw [Pg.new, Pg.new]
      cases G.fd f with
      | none => rfl
      | some d =>
        dsimp only
        have e : start d.ns (.own c [] :: ws.map (sh pre)) = shE pre (start d.ns (.own c [] :: ws)) := start_sh (ws := .own c [] :: ws)
        rw [List.length_map, all_sh, e, ss_sh h, lay_len]
        split
        · exact leaveN_sh
        · rfl
end
/-- a call whose arguments are data, from any lists -/
theorem pure_call {G : Pg} {n f : Nat} {xs : List P} {r : P} {ob : List (Nat × List P)} (h : G.call n f (xs.map .p) ⟨[], ob⟩ = .ok (.p r) ⟨[], ob⟩) (ls : List Cell) : G.call n f (xs.map .p) ⟨ls, ob⟩ = .ok (.p r) ⟨ls, ob⟩ := by
  have e := (call_sh (pre := ls) (G := G) n).call f (xs.map .p) ⟨[], ob⟩
  have e : G.call n f ((xs.map W.p).map (sh ls)) (lay ls ⟨[], ob⟩) = (G.call n f (xs.map .p) ⟨[], ob⟩).sh ls (sh ls) := e
  rw [map_shp, h] at e
  simpa [lay, Res.sh, sh] using e
theorem pure_new {G : Pg} {n c f : Nat} {xs : List P} {r : List P} {ob : List (Nat × List P)} (h : G.new n c f (xs.map .p) ⟨[], ob⟩ = .ok r ⟨[], ob⟩) (ls : List Cell) : G.new n c f (xs.map .p) ⟨ls, ob⟩ = .ok r ⟨ls, ob⟩ := by
  have e := (call_sh (pre := ls) (G := G) n).new c f (xs.map .p) ⟨[], ob⟩
  have e : G.new n c f ((xs.map W.p).map (sh ls)) (lay ls ⟨[], ob⟩) = (G.new n c f (xs.map .p) ⟨[], ob⟩).sh ls id := e
  rw [map_shp, h] at e
  simpa [lay, Res.sh] using e
end Z

namespace Z
open PySem PySem.Spec PyProof.Rows L2
abbrev k_WrongValue : Nat := 0
abbrev k_InvalidPlace : Nat := 1
abbrev k_InvalidWay : Nat := 2
abbrev k_NotAWeb : Nat := 3
abbrev k_InvalidRoads : Nat := 4
abbrev k_InvalidLoads : Nat := 5
abbrev k_InvalidIndexes : Nat := 6
abbrev k_NotPossible : Nat := 7
abbrev k_NoWay : Nat := 8
abbrev k_Web : Nat := 9
abbrev c_MOST_ROADS : Nat := 0
abbrev c_MOST_COST : Nat := 1
abbrev c_LETTERS : Nat := 2
abbrev f_is_integer : Nat := 0
abbrev f_is_within : Nat := 1
abbrev f_common : Nat := 2
abbrev f_lowest : Nat := 3
abbrev f_are_fraction : Nat := 4
abbrev f_plus : Nat := 5
abbrev f_less : Nat := 6
abbrev f_is_below : Nat := 7
abbrev f_sum_of : Nat := 8
abbrev f_greatest_of : Nat := 9
abbrev f_least_of : Nat := 10
abbrev f_is_place : Nat := 11
abbrev f_is_cost : Nat := 12
abbrev f_is_road : Nat := 13
abbrev f_far_end : Nat := 14
abbrev f_ways_of : Nat := 15
abbrev f_check_roads : Nat := 16
abbrev f_Web____init__ : Nat := 17
abbrev f_Web__origin : Nat := 18
abbrev f_Web__goal : Nat := 19
abbrev f_Web__roads : Nat := 20
abbrev f_Web__places : Nat := 21
abbrev f_Web____len__ : Nat := 22
abbrev f_Web____bool__ : Nat := 23
abbrev f_Web____eq__ : Nat := 24
abbrev f_Web____str__ : Nat := 25
abbrev f_Web__costing : Nat := 26
abbrev f_Web__closed : Nat := 27
abbrev f_Web__turned : Nat := 28
abbrev f_Web__widened : Nat := 29
abbrev f_without : Nat := 30
abbrev f_check_web : Nat := 31
abbrev f_check_indexes : Nat := 32
abbrev f_is_way : Nat := 33
abbrev f_check_way : Nat := 34
abbrev f_is_load : Nat := 35
abbrev f_check_loads : Nat := 36
abbrev f_carried_by : Nat := 37
abbrev f_road_loads_of : Nat := 38
abbrev f_costs_at : Nat := 39
abbrev f_road_costs_of : Nat := 40
abbrev f_cost_of_way : Nat := 41
abbrev f_way_cost : Nat := 42
abbrev f_least_cost : Nat := 43
abbrev f_excess_of : Nat := 44
abbrev f_excess : Nat := 45
abbrev f_is_steady : Nat := 46
abbrev f_law_jar : Nat := 47
abbrev f_law_dip : Nat := 48
abbrev f_law_pick : Nat := 49
abbrev f_law_common : Nat := 50
abbrev f_law_lowest : Nat := 51
abbrev f_law_plus : Nat := 52
abbrev f_law_beside_right : Nat := 53
abbrev f_law_behind_right : Nat := 54
abbrev f_law_right : Nat := 55
abbrev f_law : Nat := 56
abbrev f_wall : Nat := 100000
abbrev f_InvalidPlace____init__ : Nat := 100000
abbrev f_InvalidWay____init__ : Nat := 100000
abbrev f_NotAWeb____init__ : Nat := 100000
abbrev f_InvalidRoads____init__ : Nat := 100000
abbrev f_InvalidLoads____init__ : Nat := 100000
abbrev f_InvalidIndexes____init__ : Nat := 100000
abbrev f_Web__told : Nat := 100000
def top (i : Nat) : Stmt := PySem.Challenge.pw_closedroads_k20_whole_steady_by_hand.main.body.getD i (.Pass ⟨0, 0, 0, 0⟩)
def inner (i j : Nat) : Stmt := match top i with
  | .ClassDef _ _ _ b _ _ _ _ _ _ _ => b.getD j (.Pass ⟨0, 0, 0, 0⟩)
  | _ => .Pass ⟨0, 0, 0, 0⟩
/-- is_integer: 0 value -/
def b_is_integer : Ss := (.cons (.ret (.and (.isi .int (.v 0)) (.not (.isi .bool (.v 0))))) .nil)
def d_is_integer : Fd := ⟨1, 1, false, b_is_integer⟩
def r_is_integer : Z.Fr := ⟨.g "is_integer", "is_integer", "is_integer", top 12, ["value"], ["value"], d_is_integer⟩
/-- is_within: 0 value, 1 least, 2 most -/
def b_is_within : Ss := (.cons (.ret (.and (.call f_is_integer (.cons (.v 0) .nil)) (.chn .le .le (.v 1) (.v 0) (.v 2)))) .nil)
def d_is_within : Fd := ⟨3, 3, false, b_is_within⟩
def r_is_within : Z.Fr := ⟨.g "is_within", "is_within", "is_within", top 13, ["value", "least", "most"], ["value", "least", "most"], d_is_within⟩
/-- common: 0 one, 1 two -/
def b_common : Ss := (.cons (.whl (.cmp .ne (.v 1) (.int 0)) (.cons (.par [0, 1] (.cons (.v 1) (.cons (.op .mod (.v 0) (.v 1)) .nil))) .nil)) (.cons (.ret (.bi .abs false (.cons (.v 0) .nil))) .nil))
def d_common : Fd := ⟨2, 2, false, b_common⟩
def r_common : Z.Fr := ⟨.g "common", "common", "common", top 14, ["one", "two"], ["one", "two"], d_common⟩
/-- lowest: 0 number, 1 of, 2 shared -/
def b_lowest : Ss := (.cons (.set (.n 2) (.call f_common (.cons (.v 0) (.cons (.v 1) .nil)))) (.cons (.ife (.cmp .lt (.v 1) (.int 0)) (.cons (.set (.n 2) (.neg (.v 2))) .nil) .nil) (.cons (.ret (.tup (.cons (.op .fdiv (.v 0) (.v 2)) (.cons (.op .fdiv (.v 1) (.v 2)) .nil)))) .nil)))
def d_lowest : Fd := ⟨2, 3, false, b_lowest⟩
def r_lowest : Z.Fr := ⟨.g "lowest", "lowest", "lowest", top 15, ["number", "of", "shared"], ["number", "of"], d_lowest⟩
/-- are_fraction: 0 number, 1 of -/
def b_are_fraction : Ss := (.cons (.ret (.and (.call f_is_integer (.cons (.v 0) .nil)) (.and (.call f_is_integer (.cons (.v 1) .nil)) (.and (.cmp .gt (.v 1) (.int 0)) (.cmp .eq (.call f_common (.cons (.v 0) (.cons (.v 1) .nil))) (.int 1)))))) .nil)
def d_are_fraction : Fd := ⟨2, 2, false, b_are_fraction⟩
def r_are_fraction : Z.Fr := ⟨.g "are_fraction", "are_fraction", "are_fraction", top 16, ["number", "of"], ["number", "of"], d_are_fraction⟩
/-- plus: 0 one, 1 two -/
def b_plus : Ss := (.cons (.ret (.call f_lowest (.cons (.op .add (.op .mul (.ix (.v 0) (.int 0)) (.ix (.v 1) (.int 1))) (.op .mul (.ix (.v 1) (.int 0)) (.ix (.v 0) (.int 1)))) (.cons (.op .mul (.ix (.v 0) (.int 1)) (.ix (.v 1) (.int 1))) .nil)))) .nil)
def d_plus : Fd := ⟨2, 2, false, b_plus⟩
def r_plus : Z.Fr := ⟨.g "plus", "plus", "plus", top 17, ["one", "two"], ["one", "two"], d_plus⟩
/-- less: 0 one, 1 two -/
def b_less : Ss := (.cons (.ret (.call f_lowest (.cons (.op .sub (.op .mul (.ix (.v 0) (.int 0)) (.ix (.v 1) (.int 1))) (.op .mul (.ix (.v 1) (.int 0)) (.ix (.v 0) (.int 1)))) (.cons (.op .mul (.ix (.v 0) (.int 1)) (.ix (.v 1) (.int 1))) .nil)))) .nil)
def d_less : Fd := ⟨2, 2, false, b_less⟩
def r_less : Z.Fr := ⟨.g "less", "less", "less", top 18, ["one", "two"], ["one", "two"], d_less⟩
/-- is_below: 0 one, 1 two -/
def b_is_below : Ss := (.cons (.ret (.cmp .lt (.op .mul (.ix (.v 0) (.int 0)) (.ix (.v 1) (.int 1))) (.op .mul (.ix (.v 1) (.int 0)) (.ix (.v 0) (.int 1))))) .nil)
def d_is_below : Fd := ⟨2, 2, false, b_is_below⟩
def r_is_below : Z.Fr := ⟨.g "is_below", "is_below", "is_below", top 19, ["one", "two"], ["one", "two"], d_is_below⟩
/-- sum_of: 0 pairs, 1 found, 2 pair -/
def b_sum_of : Ss := (.cons (.set (.n 1) (.tup (.cons (.int 0) (.cons (.int 1) .nil)))) (.cons (.for_ (.n 2) (.val (.v 0)) (.cons (.set (.n 1) (.call f_plus (.cons (.v 1) (.cons (.v 2) .nil)))) .nil)) (.cons (.ret (.v 1)) .nil)))
def d_sum_of : Fd := ⟨1, 3, false, b_sum_of⟩
def r_sum_of : Z.Fr := ⟨.g "sum_of", "sum_of", "sum_of", top 20, ["pairs", "found", "pair"], ["pairs"], d_sum_of⟩
/-- greatest_of: 0 pairs, 1 found, 2 pair -/
def b_greatest_of : Ss := (.cons (.set (.n 1) (.ix (.v 0) (.int 0))) (.cons (.for_ (.n 2) (.val (.v 0)) (.cons (.set (.n 1) (.ife (.call f_is_below (.cons (.v 1) (.cons (.v 2) .nil))) (.v 2) (.v 1))) .nil)) (.cons (.ret (.v 1)) .nil)))
def d_greatest_of : Fd := ⟨1, 3, false, b_greatest_of⟩
def r_greatest_of : Z.Fr := ⟨.g "greatest_of", "greatest_of", "greatest_of", top 21, ["pairs", "found", "pair"], ["pairs"], d_greatest_of⟩
/-- least_of: 0 pairs, 1 found, 2 pair -/
def b_least_of : Ss := (.cons (.set (.n 1) (.ix (.v 0) (.int 0))) (.cons (.for_ (.n 2) (.val (.v 0)) (.cons (.set (.n 1) (.ife (.call f_is_below (.cons (.v 2) (.cons (.v 1) .nil))) (.v 2) (.v 1))) .nil)) (.cons (.ret (.v 1)) .nil)))
def d_least_of : Fd := ⟨1, 3, false, b_least_of⟩
def r_least_of : Z.Fr := ⟨.g "least_of", "least_of", "least_of", top 22, ["pairs", "found", "pair"], ["pairs"], d_least_of⟩
/-- is_place: 0 value -/
def b_is_place : Ss := (.cons (.ret (.and (.isi .str (.v 0)) (.and (.cmp .eq (.bi .len false (.cons (.v 0) .nil)) (.int 1)) (.cmp .inn (.v 0) (.gv c_LETTERS))))) .nil)
def d_is_place : Fd := ⟨1, 1, false, b_is_place⟩
def r_is_place : Z.Fr := ⟨.g "is_place", "is_place", "is_place", top 27, ["value"], ["value"], d_is_place⟩
/-- is_cost: 0 value -/
def b_is_cost : Ss := (.cons (.ret (.call f_is_within (.cons (.v 0) (.cons (.int 0) (.cons (.gv c_MOST_COST) .nil))))) .nil)
def d_is_cost : Fd := ⟨1, 1, false, b_is_cost⟩
def r_is_cost : Z.Fr := ⟨.g "is_cost", "is_cost", "is_cost", top 28, ["value"], ["value"], d_is_cost⟩
/-- is_road: 0 value -/
def b_is_road : Ss := (.cons (.ife (.or (.not (.isi .tuple (.v 0))) (.or (.cmp .ne (.bi .len false (.cons (.v 0) .nil)) (.int 4)) (.or (.not (.call f_is_place (.cons (.ix (.v 0) (.int 0)) .nil))) (.not (.call f_is_place (.cons (.ix (.v 0) (.int 1)) .nil)))))) (.cons (.ret (.bl false)) .nil) .nil) (.cons (.ret (.and (.cmp .lt (.ix (.v 0) (.int 0)) (.ix (.v 0) (.int 1))) (.and (.call f_is_cost (.cons (.ix (.v 0) (.int 2)) .nil)) (.call f_is_cost (.cons (.ix (.v 0) (.int 3)) .nil))))) .nil))
def d_is_road : Fd := ⟨1, 1, false, b_is_road⟩
def r_is_road : Z.Fr := ⟨.g "is_road", "is_road", "is_road", top 29, ["value"], ["value"], d_is_road⟩
/-- far_end: 0 road, 1 place -/
def b_far_end : Ss := (.cons (.ife (.cmp .eq (.ix (.v 0) (.int 0)) (.v 1)) (.cons (.ret (.ix (.v 0) (.int 1))) .nil) .nil) (.cons (.ret (.ife (.cmp .eq (.ix (.v 0) (.int 1)) (.v 1)) (.ix (.v 0) (.int 0)) .non)) .nil))
def d_far_end : Fd := ⟨2, 2, false, b_far_end⟩
def r_far_end : Z.Fr := ⟨.g "far_end", "far_end", "far_end", top 30, ["road", "place"], ["road", "place"], d_far_end⟩
/-- ways_of: 0 origin, 1 goal, 2 roads, 3 found, 4 open_ways, 5 index, 6 way, 7 places, 8 place -/
def b_ways_of : Ss := (.cons (.par [3, 4] (.cons (.lst true .nil) (.cons (.lst true (.cons (.tup (.cons (.tup .nil) (.cons (.v 0) .nil))) .nil)) .nil))) (.cons (.whl (.cmp .ne (.v 4) (.lst false .nil)) (.cons (.set (.t [(.n 6), (.n 7)]) (.lm .pop (.v 4) .nil)) (.cons (.for_ (.n 5) (.rng1 (.bi .len false (.cons (.v 2) .nil))) (.cons (.set (.n 8) (.call f_far_end (.cons (.ix (.v 2) (.v 5)) (.cons (.ix (.v 7) (.neg (.int 1))) .nil)))) (.cons (.ife (.cmp .eq (.v 8) (.v 1)) (.cons (.ex (.lm .append (.v 3) (.cons (.op .add (.v 6) (.tup (.cons (.v 5) .nil))) .nil))) .nil) (.cons (.ife (.and (.cmp .notn (.v 8) .non) (.cmp .nin (.v 8) (.v 7))) (.cons (.ex (.lm .append (.v 4) (.cons (.tup (.cons (.op .add (.v 6) (.tup (.cons (.v 5) .nil))) (.cons (.op .add (.v 7) (.v 8)) .nil))) .nil))) .nil) .nil) .nil)) .nil))) .nil))) (.cons (.ret (.bi .tuple false (.cons (.bi .sorted false (.cons (.v 3) .nil)) .nil))) .nil)))
def d_ways_of : Fd := ⟨3, 9, false, b_ways_of⟩
def r_ways_of : Z.Fr := ⟨.g "ways_of", "ways_of", "ways_of", top 31, ["origin", "goal", "roads", "found", "open_ways", "index", "way", "places", "place"], ["origin", "goal", "roads"], d_ways_of⟩
/-- check_roads: 0 roads, 1 index -/
def b_check_roads : Ss := (.cons (.ife (.or (.not (.isi .tuple (.v 0))) (.cmp .eq (.v 0) (.tup .nil))) (.cons .bad .nil) .nil) (.cons (.for_ (.n 1) (.rng1 (.bi .len false (.cons (.v 0) .nil))) (.cons (.ife (.or (.cmp .eq (.v 1) (.gv c_MOST_ROADS)) (.not (.call f_is_road (.cons (.ix (.v 0) (.v 1)) .nil)))) (.cons .bad .nil) .nil) .nil)) .nil))
def d_check_roads : Fd := ⟨1, 2, false, b_check_roads⟩
def r_check_roads : Z.Fr := ⟨.g "check_roads", "check_roads", "check_roads", top 32, ["roads", "index"], ["roads"], d_check_roads⟩
/-- Web.__init__: 0 self, 1 origin, 2 goal, 3 roads, 4 index, 5 way -/
def b_Web____init__ : Ss := (.cons (.ife (.not (.call f_is_place (.cons (.v 1) .nil))) (.cons .bad .nil) .nil) (.cons (.ife (.or (.not (.call f_is_place (.cons (.v 2) .nil))) (.cmp .eq (.v 2) (.v 1))) (.cons .bad .nil) .nil) (.cons (.ex (.call f_check_roads (.cons (.v 3) .nil))) (.cons (.sown k_Web 0 (.call f_ways_of (.cons (.v 1) (.cons (.v 2) (.cons (.v 3) .nil))))) (.cons (.for_ (.n 4) (.rng1 (.bi .len false (.cons (.v 3) .nil))) (.cons (.ife (.not (.bi .any false (.cons (.lc false [5] (.n 5) (.val (.fld k_Web 0 (.v 0))) (.bl true) (.cmp .inn (.v 4) (.v 5))) .nil))) (.cons .bad .nil) .nil) .nil)) (.cons (.sown k_Web 1 (.tup (.cons (.v 1) (.cons (.v 2) .nil)))) (.cons (.sown k_Web 2 (.v 3)) .nil)))))))
def d_Web____init__ : Fd := ⟨4, 6, false, b_Web____init__⟩
def r_Web____init__ : Z.Fr := ⟨.m "Web" "__init__", "__init__", "Web.__init__", inner 33 0, ["self", "origin", "goal", "roads", "index", "way"], ["self", "origin", "goal", "roads"], d_Web____init__⟩
/-- Web.origin: 0 self -/
def b_Web__origin : Ss := (.cons (.ret (.ix (.fld k_Web 1 (.v 0)) (.int 0))) .nil)
def d_Web__origin : Fd := ⟨1, 1, false, b_Web__origin⟩
def r_Web__origin : Z.Fr := ⟨.p "Web" "origin", "origin", "Web.origin", inner 33 2, ["self"], ["self"], d_Web__origin⟩
/-- Web.goal: 0 self -/
def b_Web__goal : Ss := (.cons (.ret (.ix (.fld k_Web 1 (.v 0)) (.int 1))) .nil)
def d_Web__goal : Fd := ⟨1, 1, false, b_Web__goal⟩
def r_Web__goal : Z.Fr := ⟨.p "Web" "goal", "goal", "Web.goal", inner 33 3, ["self"], ["self"], d_Web__goal⟩
/-- Web.roads: 0 self -/
def b_Web__roads : Ss := (.cons (.ret (.fld k_Web 2 (.v 0))) .nil)
def d_Web__roads : Fd := ⟨1, 1, false, b_Web__roads⟩
def r_Web__roads : Z.Fr := ⟨.p "Web" "roads", "roads", "Web.roads", inner 33 4, ["self"], ["self"], d_Web__roads⟩
/-- Web.places: 0 self, 1 road, 2 place -/
def b_Web__places : Ss := (.cons .bad .nil)
def d_Web__places : Fd := ⟨1, 3, false, b_Web__places⟩
def r_Web__places : Z.Fr := ⟨.p "Web" "places", "places", "Web.places", inner 33 5, ["self", "road", "place"], ["self"], d_Web__places⟩
/-- Web.__len__: 0 self -/
def b_Web____len__ : Ss := (.cons (.ret (.bi .len false (.cons (.fld k_Web 2 (.v 0)) .nil))) .nil)
def d_Web____len__ : Fd := ⟨1, 1, false, b_Web____len__⟩
def r_Web____len__ : Z.Fr := ⟨.m "Web" "__len__", "__len__", "Web.__len__", inner 33 6, ["self"], ["self"], d_Web____len__⟩
/-- Web.__bool__: 0 self -/
def b_Web____bool__ : Ss := (.cons (.ret (.bl true)) .nil)
def d_Web____bool__ : Fd := ⟨1, 1, false, b_Web____bool__⟩
def r_Web____bool__ : Z.Fr := ⟨.m "Web" "__bool__", "__bool__", "Web.__bool__", inner 33 7, ["self"], ["self"], d_Web____bool__⟩
/-- Web.__eq__: 0 self, 1 other -/
def b_Web____eq__ : Ss := (.cons (.ret (.and (.isi (.cls k_Web) (.v 1)) (.and (.cmp .eq (.fld k_Web 1 (.v 0)) (.fld k_Web 1 (.v 1))) (.cmp .eq (.fld k_Web 2 (.v 0)) (.fld k_Web 2 (.v 1)))))) .nil)
def d_Web____eq__ : Fd := ⟨2, 2, false, b_Web____eq__⟩
def r_Web____eq__ : Z.Fr := ⟨.m "Web" "__eq__", "__eq__", "Web.__eq__", inner 33 8, ["self", "other"], ["self", "other"], d_Web____eq__⟩
/-- Web.__str__: 0 self, 1 lines, 2 road -/
def b_Web____str__ : Ss := (.cons (.set (.n 1) (.lc false [2] (.n 2) (.val (.fld k_Web 2 (.v 0))) (.bl true) (.fst (.cons (.ix (.v 2) (.int 0)) (.cons (.str " ") (.cons (.ix (.v 2) (.int 1)) (.cons (.str " ") (.cons (.ix (.v 2) (.int 2)) (.cons (.str " ") (.cons (.ix (.v 2) (.int 3)) .nil)))))))))) (.cons (.ret (.sm .join false (.str "\n") (.cons (.lst false (.cons (.fst (.cons (.ix (.fld k_Web 1 (.v 0)) (.int 0)) (.cons (.str " ") (.cons (.ix (.fld k_Web 1 (.v 0)) (.int 1)) .nil)))) (.star (.v 1) .nil))) .nil))) .nil))
def d_Web____str__ : Fd := ⟨1, 3, false, b_Web____str__⟩
def r_Web____str__ : Z.Fr := ⟨.m "Web" "__str__", "__str__", "Web.__str__", inner 33 9, ["self", "lines", "road"], ["self"], d_Web____str__⟩
/-- Web.costing: 0 self, 1 index, 2 base, 3 rise -/
def b_Web__costing : Ss := (.cons .bad .nil)
def d_Web__costing : Fd := ⟨4, 4, false, b_Web__costing⟩
def r_Web__costing : Z.Fr := ⟨.m "Web" "costing", "costing", "Web.costing", inner 33 10, ["self", "index", "base", "rise"], ["self", "index", "base", "rise"], d_Web__costing⟩
/-- Web.closed: 0 self, 1 indexes -/
def b_Web__closed : Ss := (.cons (.ex (.call f_check_indexes (.cons (.v 0) (.cons (.v 1) .nil)))) (.cons (.ret (.call f_without (.cons (.v 0) (.cons (.v 1) .nil)))) .nil))
def d_Web__closed : Fd := ⟨2, 2, false, b_Web__closed⟩
def r_Web__closed : Z.Fr := ⟨.m "Web" "closed", "closed", "Web.closed", inner 33 11, ["self", "indexes"], ["self", "indexes"], d_Web__closed⟩
/-- Web.turned: 0 self -/
def b_Web__turned : Ss := (.cons .bad .nil)
def d_Web__turned : Fd := ⟨1, 1, false, b_Web__turned⟩
def r_Web__turned : Z.Fr := ⟨.m "Web" "turned", "turned", "Web.turned", inner 33 12, ["self"], ["self"], d_Web__turned⟩
/-- Web.widened: 0 self, 1 road -/
def b_Web__widened : Ss := (.cons .bad .nil)
def d_Web__widened : Fd := ⟨2, 2, false, b_Web__widened⟩
def r_Web__widened : Z.Fr := ⟨.m "Web" "widened", "widened", "Web.widened", inner 33 13, ["self", "road"], ["self", "road"], d_Web__widened⟩
/-- without: 0 web, 1 indexes, 2 kept, 3 left, 4 way, 5 index -/
def b_without : Ss := (.cons (.set (.n 2) (.lc false [4] (.n 4) (.val (.fld k_Web 0 (.v 0))) (.not (.bi .any false (.cons (.lc false [5] (.n 5) (.val (.v 4)) (.bl true) (.cmp .inn (.v 5) (.v 1))) .nil))) (.v 4))) (.cons (.ife (.cmp .eq (.v 2) (.lst false .nil)) (.cons .bad .nil) .nil) (.cons (.set (.n 3) (.lc false [5] (.n 5) (.rng1 (.bi .len false (.cons (.v 0) .nil))) (.bi .any false (.cons (.lc false [4] (.n 4) (.val (.v 2)) (.bl true) (.cmp .inn (.v 5) (.v 4))) .nil)) (.ix (.prop k_Web f_Web__roads (.v 0)) (.v 5)))) (.cons (.ret (.new k_Web f_Web____init__ 3 (.cons (.prop k_Web f_Web__origin (.v 0)) (.cons (.prop k_Web f_Web__goal (.v 0)) (.cons (.bi .tuple false (.cons (.v 3) .nil)) .nil))))) .nil))))
def d_without : Fd := ⟨2, 6, false, b_without⟩
def r_without : Z.Fr := ⟨.g "without", "without", "without", top 34, ["web", "indexes", "kept", "left", "way", "index"], ["web", "indexes"], d_without⟩
/-- check_web: 0 value -/
def b_check_web : Ss := (.cons (.ife (.not (.isi (.cls k_Web) (.v 0))) (.cons .bad .nil) .nil) .nil)
def d_check_web : Fd := ⟨1, 1, false, b_check_web⟩
def r_check_web : Z.Fr := ⟨.g "check_web", "check_web", "check_web", top 35, ["value"], ["value"], d_check_web⟩
/-- check_indexes: 0 web, 1 indexes, 2 k -/
def b_check_indexes : Ss := (.cons (.ife (.not (.isi .tuple (.v 1))) (.cons .bad .nil) .nil) (.cons (.for_ (.n 2) (.rng1 (.bi .len false (.cons (.v 1) .nil))) (.cons (.ife (.or (.not (.call f_is_within (.cons (.ix (.v 1) (.v 2)) (.cons (.int 0) (.cons (.op .sub (.bi .len false (.cons (.v 0) .nil)) (.int 1)) .nil))))) (.and (.cmp .gt (.v 2) (.int 0)) (.cmp .le (.ix (.v 1) (.v 2)) (.ix (.v 1) (.op .sub (.v 2) (.int 1)))))) (.cons .bad .nil) .nil) .nil)) .nil))
def d_check_indexes : Fd := ⟨2, 3, false, b_check_indexes⟩
def r_check_indexes : Z.Fr := ⟨.g "check_indexes", "check_indexes", "check_indexes", top 36, ["web", "indexes", "k"], ["web", "indexes"], d_check_indexes⟩
/-- is_way: 0 web, 1 value, 2 index -/
def b_is_way : Ss := (.cons (.ife (.or (.not (.isi .tuple (.v 1))) (.bi .any false (.cons (.lc false [2] (.n 2) (.val (.v 1)) (.bl true) (.isi .bool (.v 2))) .nil))) (.cons (.ret (.bl false)) .nil) .nil) (.cons (.ret (.cmp .inn (.v 1) (.fld k_Web 0 (.v 0)))) .nil))
def d_is_way : Fd := ⟨2, 3, false, b_is_way⟩
def r_is_way : Z.Fr := ⟨.g "is_way", "is_way", "is_way", top 38, ["web", "value", "index"], ["web", "value"], d_is_way⟩
/-- check_way: 0 web, 1 way -/
def b_check_way : Ss := (.cons (.ife (.not (.call f_is_way (.cons (.v 0) (.cons (.v 1) .nil)))) (.cons .bad .nil) .nil) .nil)
def d_check_way : Fd := ⟨2, 2, false, b_check_way⟩
def r_check_way : Z.Fr := ⟨.g "check_way", "check_way", "check_way", top 39, ["web", "way"], ["web", "way"], d_check_way⟩
/-- is_load: 0 web, 1 value -/
def b_is_load : Ss := (.cons (.ife (.or (.not (.isi .tuple (.v 1))) (.or (.cmp .ne (.bi .len false (.cons (.v 1) .nil)) (.int 3)) (.not (.call f_is_way (.cons (.v 0) (.cons (.ix (.v 1) (.int 0)) .nil)))))) (.cons (.ret (.bl false)) .nil) .nil) (.cons (.ret (.and (.call f_are_fraction (.cons (.ix (.v 1) (.int 1)) (.cons (.ix (.v 1) (.int 2)) .nil))) (.cmp .gt (.ix (.v 1) (.int 1)) (.int 0)))) .nil))
def d_is_load : Fd := ⟨2, 2, false, b_is_load⟩
def r_is_load : Z.Fr := ⟨.g "is_load", "is_load", "is_load", top 41, ["web", "value"], ["web", "value"], d_is_load⟩
/-- check_loads: 0 web, 1 loads, 2 index -/
def b_check_loads : Ss := (.cons (.ife (.or (.not (.isi .tuple (.v 1))) (.cmp .eq (.v 1) (.tup .nil))) (.cons .bad .nil) .nil) (.cons (.for_ (.n 2) (.rng1 (.bi .len false (.cons (.v 1) .nil))) (.cons (.ife (.or (.not (.call f_is_load (.cons (.v 0) (.cons (.ix (.v 1) (.v 2)) .nil)))) (.and (.cmp .gt (.v 2) (.int 0)) (.not (.cmp .lt (.ix (.ix (.v 1) (.op .sub (.v 2) (.int 1))) (.int 0)) (.ix (.ix (.v 1) (.v 2)) (.int 0)))))) (.cons .bad .nil) .nil) .nil)) .nil))
def d_check_loads : Fd := ⟨2, 3, false, b_check_loads⟩
def r_check_loads : Z.Fr := ⟨.g "check_loads", "check_loads", "check_loads", top 42, ["web", "loads", "index"], ["web", "loads"], d_check_loads⟩
/-- carried_by: 0 loads, 1 load -/
def b_carried_by : Ss := (.cons (.ret (.call f_sum_of (.cons (.lc false [1] (.n 1) (.val (.v 0)) (.bl true) (.tup (.cons (.ix (.v 1) (.int 1)) (.cons (.ix (.v 1) (.int 2)) .nil)))) .nil))) .nil)
def d_carried_by : Fd := ⟨1, 2, false, b_carried_by⟩
def r_carried_by : Z.Fr := ⟨.g "carried_by", "carried_by", "carried_by", top 43, ["loads", "load"], ["loads"], d_carried_by⟩
/-- road_loads_of: 0 web, 1 loads, 2 index, 3 load -/
def b_road_loads_of : Ss := (.cons (.ret (.bi .tuple false (.cons (.lc false [2] (.n 2) (.rng1 (.bi .len false (.cons (.v 0) .nil))) (.bl true) (.call f_carried_by (.cons (.lc false [3] (.n 3) (.val (.v 1)) (.cmp .inn (.v 2) (.ix (.v 3) (.int 0))) (.v 3)) .nil))) .nil))) .nil)
def d_road_loads_of : Fd := ⟨2, 4, false, b_road_loads_of⟩
def r_road_loads_of : Z.Fr := ⟨.g "road_loads_of", "road_loads_of", "road_loads_of", top 44, ["web", "loads", "index", "load"], ["web", "loads"], d_road_loads_of⟩
/-- costs_at: 0 web, 1 road_parts, 2 found, 3 road, 4 part -/
def b_costs_at : Ss := (.cons (.set (.n 2) (.lst true .nil)) (.cons (.for_ (.t [(.n 3), (.n 4)]) (.zip (.prop k_Web f_Web__roads (.v 0)) (.v 1)) (.cons (.ex (.lm .append (.v 2) (.cons (.call f_plus (.cons (.tup (.cons (.ix (.v 3) (.int 2)) (.cons (.int 1) .nil))) (.cons (.call f_lowest (.cons (.op .mul (.ix (.v 3) (.int 3)) (.ix (.v 4) (.int 0))) (.cons (.ix (.v 4) (.int 1)) .nil))) .nil))) .nil))) .nil)) (.cons (.ret (.bi .tuple false (.cons (.v 2) .nil))) .nil)))
def d_costs_at : Fd := ⟨2, 5, false, b_costs_at⟩
def r_costs_at : Z.Fr := ⟨.g "costs_at", "costs_at", "costs_at", top 45, ["web", "road_parts", "found", "road", "part"], ["web", "road_parts"], d_costs_at⟩
/-- road_costs_of: 0 web, 1 loads -/
def b_road_costs_of : Ss := (.cons (.ret (.call f_costs_at (.cons (.v 0) (.cons (.call f_road_loads_of (.cons (.v 0) (.cons (.v 1) .nil))) .nil)))) .nil)
def d_road_costs_of : Fd := ⟨2, 2, false, b_road_costs_of⟩
def r_road_costs_of : Z.Fr := ⟨.g "road_costs_of", "road_costs_of", "road_costs_of", top 46, ["web", "loads"], ["web", "loads"], d_road_costs_of⟩
/-- cost_of_way: 0 costs, 1 way, 2 index -/
def b_cost_of_way : Ss := (.cons (.ret (.call f_sum_of (.cons (.lc false [2] (.n 2) (.val (.v 1)) (.bl true) (.ix (.v 0) (.v 2))) .nil))) .nil)
def d_cost_of_way : Fd := ⟨2, 3, false, b_cost_of_way⟩
def r_cost_of_way : Z.Fr := ⟨.g "cost_of_way", "cost_of_way", "cost_of_way", top 47, ["costs", "way", "index"], ["costs", "way"], d_cost_of_way⟩
/-- way_cost: 0 web, 1 loads, 2 way -/
def b_way_cost : Ss := (.cons (.ex (.call f_check_web (.cons (.v 0) .nil))) (.cons (.ex (.call f_check_loads (.cons (.v 0) (.cons (.v 1) .nil)))) (.cons (.ex (.call f_check_way (.cons (.v 0) (.cons (.v 2) .nil)))) (.cons (.ret (.call f_cost_of_way (.cons (.call f_road_costs_of (.cons (.v 0) (.cons (.v 1) .nil))) (.cons (.v 2) .nil)))) .nil))))
def d_way_cost : Fd := ⟨3, 3, false, b_way_cost⟩
def r_way_cost : Z.Fr := ⟨.g "way_cost", "way_cost", "way_cost", top 48, ["web", "loads", "way"], ["web", "loads", "way"], d_way_cost⟩
/-- least_cost: 0 web, 1 costs, 2 way -/
def b_least_cost : Ss := (.cons (.ret (.call f_least_of (.cons (.lc false [2] (.n 2) (.val (.fld k_Web 0 (.v 0))) (.bl true) (.call f_cost_of_way (.cons (.v 1) (.cons (.v 2) .nil)))) .nil))) .nil)
def d_least_cost : Fd := ⟨2, 3, false, b_least_cost⟩
def r_least_cost : Z.Fr := ⟨.g "least_cost", "least_cost", "least_cost", top 49, ["web", "costs", "way"], ["web", "costs"], d_least_cost⟩
/-- excess_of: 0 web, 1 loads, 2 costs, 3 load -/
def b_excess_of : Ss := (.cons (.set (.n 2) (.call f_road_costs_of (.cons (.v 0) (.cons (.v 1) .nil)))) (.cons (.ret (.call f_less (.cons (.call f_greatest_of (.cons (.lc false [3] (.n 3) (.val (.v 1)) (.bl true) (.call f_cost_of_way (.cons (.v 2) (.cons (.ix (.v 3) (.int 0)) .nil)))) .nil)) (.cons (.call f_least_cost (.cons (.v 0) (.cons (.v 2) .nil))) .nil)))) .nil))
def d_excess_of : Fd := ⟨2, 4, false, b_excess_of⟩
def r_excess_of : Z.Fr := ⟨.g "excess_of", "excess_of", "excess_of", top 50, ["web", "loads", "costs", "load"], ["web", "loads"], d_excess_of⟩
/-- excess: 0 web, 1 loads -/
def b_excess : Ss := (.cons (.ex (.call f_check_web (.cons (.v 0) .nil))) (.cons (.ex (.call f_check_loads (.cons (.v 0) (.cons (.v 1) .nil)))) (.cons (.ret (.call f_excess_of (.cons (.v 0) (.cons (.v 1) .nil)))) .nil)))
def d_excess : Fd := ⟨2, 2, false, b_excess⟩
def r_excess : Z.Fr := ⟨.g "excess", "excess", "excess", top 51, ["web", "loads"], ["web", "loads"], d_excess⟩
/-- is_steady: 0 web, 1 loads -/
def b_is_steady : Ss := (.cons (.ret (.cmp .eq (.call f_excess (.cons (.v 0) (.cons (.v 1) .nil))) (.tup (.cons (.int 0) (.cons (.int 1) .nil))))) .nil)
def d_is_steady : Fd := ⟨2, 2, false, b_is_steady⟩
def r_is_steady : Z.Fr := ⟨.g "is_steady", "is_steady", "is_steady", top 52, ["web", "loads"], ["web", "loads"], d_is_steady⟩
/-- _law_jar: 0 script, 1 k, 2 churned, 3 cell, 4 own, 5 digits -/
def b_law_jar : Ss := (.cons (.set (.n 2) (.op .add (.op .mul (.op .mul (.int 7369) (.op .add (.v 1) (.int 5))) (.op .add (.v 1) (.int 2))) (.op .mul (.int 29) (.bi .len false (.cons (.v 0) .nil))))) (.cons (.for_ (.n 3) (.val (.sl (.v 0) .non (.int 4))) (.cons (.set (.n 2) (.op .mod (.bi .int false (.cons (.op .add (.op .mul (.v 2) (.int 733)) (.v 3)) .nil)) (.int 1000000009))) .nil)) (.cons (.set (.n 4) (.ife (.cmp .lt (.v 1) (.bi .len false (.cons (.v 0) .nil))) (.ix (.v 0) (.v 1)) (.int 0))) (.cons (.set (.n 5) (.ife (.or (.cmp .lt (.v 4) (.int 0)) (.cmp .ge (.v 4) (.op .pow (.int 10) (.int 18)))) (.bi .abs false (.cons (.v 4) .nil)) (.int 0))) (.cons (.ret (.lst true (.cons (.v 5) (.cons (.op .mod (.bi .int false (.cons (.op .add (.op .add (.op .mul (.v 2) (.int 8117)) (.op .mul (.v 4) (.int 64013))) (.op .mul (.int 105019) (.op .add (.v 1) (.int 1)))) .nil)) (.int 2147483563)) (.cons (.int 0) .nil))))) .nil)))))
def d_law_jar : Fd := ⟨2, 6, true, b_law_jar⟩
def r_law_jar : Z.Fr := ⟨.g "_law_jar", "_law_jar", "_law_jar", top 54, ["script", "k", "churned", "cell", "own", "digits"], ["script", "k"], d_law_jar⟩
/-- _law_dip: 0 jar, 1 wide, 2 seed, 3 digit -/
def b_law_dip : Ss := (.cons (.seti (.v 0) (.int 2) (.op .add (.ix (.v 0) (.int 2)) (.int 1))) (.cons (.ife (.cmp .gt (.ix (.v 0) (.int 0)) (.int 0)) (.cons (.set (.n 3) (.op .mod (.bi .int false (.cons (.ix (.v 0) (.int 0)) .nil)) (.v 1))) (.cons (.seti (.v 0) (.int 0) (.op .fdiv (.bi .int false (.cons (.ix (.v 0) (.int 0)) .nil)) (.v 1))) (.cons (.ret (.v 3)) .nil))) .nil) (.cons (.set (.n 2) (.bi .int false (.cons (.ix (.v 0) (.int 1)) .nil))) (.cons (.seti (.v 0) (.int 1) (.op .mod (.bi .int false (.cons (.op .add (.op .add (.op .mul (.v 2) (.int 40692)) (.op .mul (.ix (.v 0) (.int 2)) (.int 52021))) (.int 31)) .nil)) (.int 2147483399))) (.cons (.ret (.op .mod (.bi .int false (.cons (.op .fdiv (.ix (.v 0) (.int 1)) (.int 2048)) .nil)) (.v 1))) .nil)))))
def d_law_dip : Fd := ⟨2, 4, false, b_law_dip⟩
def r_law_dip : Z.Fr := ⟨.g "_law_dip", "_law_dip", "_law_dip", top 55, ["jar", "wide", "seed", "digit"], ["jar", "wide"], d_law_dip⟩
/-- _law_pick: 0 jar, 1 menu, 2 at -/
def b_law_pick : Ss := (.cons (.set (.n 2) (.call f_law_dip (.cons (.v 0) (.cons (.bi .len false (.cons (.v 1) .nil)) .nil)))) (.cons (.ret (.ix (.v 1) (.v 2))) .nil))
def d_law_pick : Fd := ⟨2, 3, false, b_law_pick⟩
def r_law_pick : Z.Fr := ⟨.g "_law_pick", "_law_pick", "_law_pick", top 56, ["jar", "menu", "at"], ["jar", "menu"], d_law_pick⟩
/-- _law_common: 0 one, 1 other, 2 turn -/
def b_law_common : Ss := (.cons (.for_ (.n 2) (.rng1 (.int 500)) (.cons (.ife (.cmp .eq (.v 1) (.int 0)) (.cons (.ret (.bi .abs false (.cons (.v 0) .nil))) .nil) .nil) (.cons (.par [0, 1] (.cons (.v 1) (.cons (.op .mod (.bi .int false (.cons (.v 0) .nil)) (.bi .int false (.cons (.v 1) .nil))) .nil))) .nil))) (.cons (.ret (.int 1)) .nil))
def d_law_common : Fd := ⟨2, 3, false, b_law_common⟩
def r_law_common : Z.Fr := ⟨.g "_law_common", "_law_common", "_law_common", top 57, ["one", "other", "turn"], ["one", "other"], d_law_common⟩
/-- _law_lowest: 0 number, 1 under, 2 shared -/
def b_law_lowest : Ss := (.cons (.set (.n 2) (.call f_law_common (.cons (.v 0) (.cons (.v 1) .nil)))) (.cons (.ret (.tup (.cons (.op .fdiv (.v 0) (.v 2)) (.cons (.op .fdiv (.v 1) (.v 2)) .nil)))) .nil))
def d_law_lowest : Fd := ⟨2, 3, false, b_law_lowest⟩
def r_law_lowest : Z.Fr := ⟨.g "_law_lowest", "_law_lowest", "_law_lowest", top 58, ["number", "under", "shared"], ["number", "under"], d_law_lowest⟩
/-- _law_plus: 0 one, 1 other -/
def b_law_plus : Ss := (.cons (.ret (.call f_law_lowest (.cons (.op .add (.op .mul (.ix (.v 0) (.int 0)) (.ix (.v 1) (.int 1))) (.op .mul (.ix (.v 1) (.int 0)) (.ix (.v 0) (.int 1)))) (.cons (.op .mul (.ix (.v 0) (.int 1)) (.ix (.v 1) (.int 1))) .nil)))) .nil)
def d_law_plus : Fd := ⟨2, 2, false, b_law_plus⟩
def r_law_plus : Z.Fr := ⟨.g "_law_plus", "_law_plus", "_law_plus", top 59, ["one", "other"], ["one", "other"], d_law_plus⟩
/-- _law_beside_right: 0 jar, 1 k, 2 mine, 3 more, 4 many, 5 level_here, 6 streets, 7 loads_here, 8 number, 9 under, 10 base, 11 rise -/
def b_law_beside_right : Ss := (.cons (.par [4, 5] (.cons (.op .add (.int 2) (.call f_law_dip (.cons (.v 0) (.cons (.int 4) .nil)))) (.cons (.op .add (.int 10) (.call f_law_dip (.cons (.v 0) (.cons (.int 50) .nil)))) .nil))) (.cons (.par [6, 7] (.cons (.lst true .nil) (.cons (.lst true .nil) .nil))) (.cons (.for_ (.n 1) (.rng1 (.v 4)) (.cons (.par [10, 11] (.cons (.call f_law_dip (.cons (.v 0) (.cons (.int 10) .nil))) (.cons (.op .add (.int 1) (.call f_law_dip (.cons (.v 0) (.cons (.int 9) .nil)))) .nil))) (.cons (.ex (.lm .append (.v 6) (.cons (.tup (.cons (.str "a") (.cons (.str "b") (.cons (.v 10) (.cons (.v 11) .nil))))) .nil))) (.cons (.ex (.lm .append (.v 7) (.cons (.op .add (.tup (.cons (.tup (.cons (.v 1) .nil)) .nil)) (.call f_law_lowest (.cons (.op .sub (.v 5) (.v 10)) (.cons (.v 11) .nil)))) .nil))) .nil)))) (.cons (.set (.n 2) (.new k_Web f_Web____init__ 3 (.cons (.str "a") (.cons (.str "b") (.cons (.bi .tuple false (.cons (.v 6) .nil)) .nil))))) (.cons (.ife (.or (.not (.call f_is_steady (.cons (.v 2) (.cons (.bi .tuple false (.cons (.v 7) .nil)) .nil)))) (.cmp .ne (.call f_way_cost (.cons (.v 2) (.cons (.bi .tuple false (.cons (.v 7) .nil)) (.cons (.tup (.cons (.int 0) .nil)) .nil)))) (.tup (.cons (.v 5) (.cons (.int 1) .nil))))) (.cons (.ret (.bl false)) .nil) .nil) (.cons (.set (.t [(.n 8), (.n 9)]) (.sl (.ix (.v 7) (.int 0)) (.int 1) .non)) (.cons (.set (.n 3) (.op .add (.lst false (.cons (.op .add (.tup (.cons (.tup (.cons (.int 0) .nil)) .nil)) (.call f_law_lowest (.cons (.op .add (.v 8) (.v 9)) (.cons (.v 9) .nil)))) .nil)) (.sl (.v 7) (.int 1) .non))) (.cons (.ret (.and (.not (.call f_is_steady (.cons (.v 2) (.cons (.bi .tuple false (.cons (.v 3) .nil)) .nil)))) (.cmp .eq (.call f_excess (.cons (.v 2) (.cons (.bi .tuple false (.cons (.v 3) .nil)) .nil))) (.tup (.cons (.ix (.ix (.v 6) (.int 0)) (.int 3)) (.cons (.int 1) .nil)))))) .nil))))))))
def d_law_beside_right : Fd := ⟨1, 12, false, b_law_beside_right⟩
def r_law_beside_right : Z.Fr := ⟨.g "_law_beside_right", "_law_beside_right", "_law_beside_right", top 60, ["jar", "k", "mine", "more", "many", "level_here", "streets", "loads_here", "number", "under", "base", "rise"], ["jar"], d_law_beside_right⟩
/-- _law_behind_right: 0 jar, 1 k, 2 many, 3 streets, 4 total, 5 number, 6 under, 7 mine, 8 run, 9 base, 10 rise -/
def b_law_behind_right : Ss := (.cons (.par [2, 3, 4] (.cons (.op .add (.int 1) (.call f_law_dip (.cons (.v 0) (.cons (.int 8) .nil)))) (.cons (.lst true .nil) (.cons (.tup (.cons (.int 0) (.cons (.int 1) .nil))) .nil)))) (.cons (.set (.t [(.n 5), (.n 6)]) (.call f_law_lowest (.cons (.op .add (.int 1) (.call f_law_dip (.cons (.v 0) (.cons (.int 99) .nil)))) (.cons (.op .add (.int 1) (.call f_law_dip (.cons (.v 0) (.cons (.int 20) .nil)))) .nil)))) (.cons (.for_ (.n 1) (.rng1 (.v 2)) (.cons (.par [9, 10] (.cons (.call f_law_dip (.cons (.v 0) (.cons (.int 100) .nil))) (.cons (.call f_law_dip (.cons (.v 0) (.cons (.int 100) .nil))) .nil))) (.cons (.ex (.lm .append (.v 3) (.cons (.tup (.cons (.ix (.str "abcdefghi") (.v 1)) (.cons (.ix (.str "abcdefghi") (.op .add (.v 1) (.int 1))) (.cons (.v 9) (.cons (.v 10) .nil))))) .nil))) (.cons (.set (.n 4) (.call f_law_plus (.cons (.v 4) (.cons (.call f_law_plus (.cons (.tup (.cons (.v 9) (.cons (.int 1) .nil))) (.cons (.call f_law_lowest (.cons (.op .mul (.v 10) (.v 5)) (.cons (.v 6) .nil))) .nil))) .nil)))) .nil)))) (.cons (.par [7, 8] (.cons (.new k_Web f_Web____init__ 3 (.cons (.str "a") (.cons (.ix (.str "abcdefghi") (.v 2)) (.cons (.bi .tuple false (.cons (.v 3) .nil)) .nil)))) (.cons (.rgt false false (.v 2)) .nil))) (.cons (.ret (.and (.call f_is_steady (.cons (.v 7) (.cons (.tup (.cons (.tup (.cons (.v 8) (.cons (.v 5) (.cons (.v 6) .nil)))) .nil)) .nil))) (.cmp .eq (.call f_way_cost (.cons (.v 7) (.cons (.tup (.cons (.tup (.cons (.v 8) (.cons (.v 5) (.cons (.v 6) .nil)))) .nil)) (.cons (.v 8) .nil)))) (.v 4)))) .nil)))))
def d_law_behind_right : Fd := ⟨1, 11, false, b_law_behind_right⟩
def r_law_behind_right : Z.Fr := ⟨.g "_law_behind_right", "_law_behind_right", "_law_behind_right", top 61, ["jar", "k", "many", "streets", "total", "number", "under", "mine", "run", "base", "rise"], ["jar"], d_law_behind_right⟩
/-- _law_right: 0 jar, 1 by, 2 streets, 3 mine, 4 even, 5 two, 6 shut -/
def b_law_right : Ss := (.cons (.ife (.or (.not (.call f_law_beside_right (.cons (.v 0) .nil))) (.not (.call f_law_behind_right (.cons (.v 0) .nil)))) (.cons (.ret (.bl false)) .nil) .nil) (.cons (.set (.n 1) (.op .add (.int 1) (.call f_law_dip (.cons (.v 0) (.cons (.int 1000) .nil))))) (.cons (.set (.n 2) (.tup (.cons (.tup (.cons (.str "a") (.cons (.str "b") (.cons (.int 0) (.cons (.op .mul (.int 10) (.v 1)) .nil))))) (.cons (.tup (.cons (.str "a") (.cons (.str "c") (.cons (.op .mul (.int 50) (.v 1)) (.cons (.v 1) .nil))))) (.cons (.tup (.cons (.str "b") (.cons (.str "c") (.cons (.op .mul (.int 10) (.v 1)) (.cons (.v 1) .nil))))) (.cons (.tup (.cons (.str "b") (.cons (.str "d") (.cons (.op .mul (.int 50) (.v 1)) (.cons (.v 1) .nil))))) .nil)))))) (.cons (.set (.n 3) (.new k_Web f_Web____init__ 3 (.cons (.str "a") (.cons (.str "d") (.cons (.op .add (.v 2) (.tup (.cons (.tup (.cons (.str "c") (.cons (.str "d") (.cons (.int 0) (.cons (.op .mul (.int 10) (.v 1)) .nil))))) .nil))) .nil))))) (.cons (.set (.n 4) (.tup (.cons (.tup (.cons (.tup (.cons (.int 0) (.cons (.int 2) (.cons (.int 4) .nil)))) (.cons (.int 2) (.cons (.int 1) .nil)))) (.cons (.tup (.cons (.tup (.cons (.int 0) (.cons (.int 3) .nil))) (.cons (.int 2) (.cons (.int 1) .nil)))) (.cons (.tup (.cons (.tup (.cons (.int 1) (.cons (.int 4) .nil))) (.cons (.int 2) (.cons (.int 1) .nil)))) .nil))))) (.cons (.ife (.or (.not (.call f_is_steady (.cons (.v 3) (.cons (.v 4) .nil)))) (.cmp .ne (.call f_way_cost (.cons (.v 3) (.cons (.v 4) (.cons (.tup (.cons (.int 1) (.cons (.int 2) (.cons (.int 3) .nil)))) .nil)))) (.tup (.cons (.op .mul (.int 116) (.v 1)) (.cons (.int 1) .nil))))) (.cons (.ret (.bl false)) .nil) .nil) (.cons (.set (.n 5) (.tup (.cons (.tup (.cons (.tup (.cons (.int 0) (.cons (.int 3) .nil))) (.cons (.int 3) (.cons (.int 1) .nil)))) (.cons (.tup (.cons (.tup (.cons (.int 1) (.cons (.int 4) .nil))) (.cons (.int 3) (.cons (.int 1) .nil)))) .nil)))) (.cons (.ife (.or (.call f_is_steady (.cons (.v 3) (.cons (.v 5) .nil))) (.or (.cmp .ne (.call f_excess (.cons (.v 3) (.cons (.v 5) .nil))) (.tup (.cons (.op .mul (.int 13) (.v 1)) (.cons (.int 1) .nil)))) (.cmp .ne (.call f_way_cost (.cons (.v 3) (.cons (.v 5) (.cons (.tup (.cons (.int 0) (.cons (.int 2) (.cons (.int 4) .nil)))) .nil)))) (.tup (.cons (.op .mul (.int 70) (.v 1)) (.cons (.int 1) .nil)))))) (.cons (.ret (.bl false)) .nil) .nil) (.cons (.set (.n 6) (.meth k_Web f_Web__closed (.v 3) (.cons (.tup (.cons (.int 2) .nil)) .nil))) (.cons (.ret (.and (.call f_is_steady (.cons (.v 6) (.cons (.tup (.cons (.tup (.cons (.tup (.cons (.int 0) (.cons (.int 2) .nil))) (.cons (.int 3) (.cons (.int 1) .nil)))) (.cons (.tup (.cons (.tup (.cons (.int 1) (.cons (.int 3) .nil))) (.cons (.int 3) (.cons (.int 1) .nil)))) .nil))) .nil))) (.not (.call f_is_steady (.cons (.v 6) (.cons (.tup (.cons (.tup (.cons (.tup (.cons (.int 0) (.cons (.int 2) .nil))) (.cons (.int 4) (.cons (.int 1) .nil)))) (.cons (.tup (.cons (.tup (.cons (.int 1) (.cons (.int 3) .nil))) (.cons (.int 2) (.cons (.int 1) .nil)))) .nil))) .nil)))))) .nil))))))))))
def d_law_right : Fd := ⟨1, 7, false, b_law_right⟩
def r_law_right : Z.Fr := ⟨.g "_law_right", "_law_right", "_law_right", top 62, ["jar", "by", "streets", "mine", "even", "two", "shut"], ["jar"], d_law_right⟩
/-- law: 0 script, 1 k -/
def b_law : Ss := (.cons (.for_ (.n 1) (.rng1 (.bi .max2 false (.cons (.int 2) (.cons (.bi .min2 false (.cons (.bi .len false (.cons (.v 0) .nil)) (.cons (.int 4) .nil))) .nil)))) (.cons (.ife (.not (.call f_law_right (.cons (.call f_law_jar (.cons (.v 0) (.cons (.v 1) .nil))) .nil))) (.cons (.ret (.bl false)) .nil) .nil) .nil)) (.cons (.ret (.bl true)) .nil))
def d_law : Fd := ⟨1, 2, false, b_law⟩
def r_law : Z.Fr := ⟨.g "law", "law", "law", top 63, ["script", "k"], ["script"], d_law⟩
def I0 : Inf := ⟨(([("is_integer", f_is_integer), ("is_within", f_is_within), ("common", f_common), ("lowest", f_lowest), ("are_fraction", f_are_fraction), ("plus", f_plus), ("less", f_less), ("is_below", f_is_below), ("sum_of", f_sum_of), ("greatest_of", f_greatest_of), ("least_of", f_least_of), ("is_place", f_is_place), ("is_cost", f_is_cost), ("is_road", f_is_road), ("far_end", f_far_end), ("ways_of", f_ways_of), ("check_roads", f_check_roads), ("without", f_without), ("check_web", f_check_web), ("check_indexes", f_check_indexes), ("is_way", f_is_way), ("check_way", f_check_way), ("is_load", f_is_load), ("check_loads", f_check_loads), ("carried_by", f_carried_by), ("road_loads_of", f_road_loads_of), ("costs_at", f_costs_at), ("road_costs_of", f_road_costs_of), ("cost_of_way", f_cost_of_way), ("way_cost", f_way_cost)] : List (Str × Nat)) ++ ([("least_cost", f_least_cost), ("excess_of", f_excess_of), ("excess", f_excess), ("is_steady", f_is_steady), ("_law_jar", f_law_jar), ("_law_dip", f_law_dip), ("_law_pick", f_law_pick), ("_law_common", f_law_common), ("_law_lowest", f_law_lowest), ("_law_plus", f_law_plus), ("_law_beside_right", f_law_beside_right), ("_law_behind_right", f_law_behind_right), ("_law_right", f_law_right), ("law", f_law)] : List (Str × Nat))),
  [("Web", k_Web, f_Web____init__, 3)],
  [("MOST_ROADS", c_MOST_ROADS), ("MOST_COST", c_MOST_COST), ("LETTERS", c_LETTERS)],
  [("every_way", k_Web, 0), ("ends", k_Web, 1), ("kept_roads", k_Web, 2)],
  [("origin", k_Web, f_Web__origin), ("goal", k_Web, f_Web__goal), ("roads", k_Web, f_Web__roads), ("places", k_Web, f_Web__places)],
  [("costing", k_Web, f_Web__costing), ("closed", k_Web, f_Web__closed), ("turned", k_Web, f_Web__turned), ("widened", k_Web, f_Web__widened)],
  [("Web", k_Web)],
  ["isinstance", "len", "abs", "int", "str", "min", "max", "any", "tuple", "sorted", "range", "zip", "set", "bool"]⟩
def L0 : Lw := ⟨["WrongValue", "InvalidPlace", "InvalidWay", "NotAWeb", "InvalidRoads", "InvalidLoads", "InvalidIndexes", "NotPossible", "NoWay", "Web"], [[], [], [], [], [], [], [], [], [], ["every_way", "ends", "kept_roads"]], [k_Web], (([r_is_integer, r_is_within, r_common, r_lowest, r_are_fraction, r_plus, r_less, r_is_below, r_sum_of, r_greatest_of, r_least_of, r_is_place, r_is_cost, r_is_road, r_far_end, r_ways_of, r_check_roads, r_Web____init__, r_Web__origin, r_Web__goal, r_Web__roads, r_Web__places, r_Web____len__, r_Web____bool__, r_Web____eq__, r_Web____str__, r_Web__costing, r_Web__closed, r_Web__turned, r_Web__widened] : List Z.Fr) ++ ([r_without, r_check_web, r_check_indexes, r_is_way, r_check_way, r_is_load, r_check_loads, r_carried_by, r_road_loads_of, r_costs_at, r_road_costs_of, r_cost_of_way, r_way_cost, r_least_cost, r_excess_of, r_excess, r_is_steady, r_law_jar, r_law_dip, r_law_pick, r_law_common, r_law_lowest, r_law_plus, r_law_beside_right, r_law_behind_right, r_law_right, r_law] : List Z.Fr)), [.int 8, .int 1000000, .str "abcdefghijklmnopqrstuvwxyz"], [(k_Web, k_Web)], [(k_Web, f_Web____len__)], 2 ^ 9000, I0⟩
def MG : Pg := L0.G
theorem fd_is_integer : MG.fd f_is_integer = some d_is_integer := rfl
theorem fd_is_within : MG.fd f_is_within = some d_is_within := rfl
theorem fd_common : MG.fd f_common = some d_common := rfl
theorem fd_lowest : MG.fd f_lowest = some d_lowest := rfl
theorem fd_are_fraction : MG.fd f_are_fraction = some d_are_fraction := rfl
theorem fd_plus : MG.fd f_plus = some d_plus := rfl
theorem fd_less : MG.fd f_less = some d_less := rfl
theorem fd_is_below : MG.fd f_is_below = some d_is_below := rfl
theorem fd_sum_of : MG.fd f_sum_of = some d_sum_of := rfl
theorem fd_greatest_of : MG.fd f_greatest_of = some d_greatest_of := rfl
theorem fd_least_of : MG.fd f_least_of = some d_least_of := rfl
theorem fd_is_place : MG.fd f_is_place = some d_is_place := rfl
theorem fd_is_cost : MG.fd f_is_cost = some d_is_cost := rfl
theorem fd_is_road : MG.fd f_is_road = some d_is_road := rfl
theorem fd_far_end : MG.fd f_far_end = some d_far_end := rfl
theorem fd_ways_of : MG.fd f_ways_of = some d_ways_of := rfl
theorem fd_check_roads : MG.fd f_check_roads = some d_check_roads := rfl
theorem fd_Web____init__ : MG.fd f_Web____init__ = some d_Web____init__ := rfl
theorem fd_Web__origin : MG.fd f_Web__origin = some d_Web__origin := rfl
theorem fd_Web__goal : MG.fd f_Web__goal = some d_Web__goal := rfl
theorem fd_Web__roads : MG.fd f_Web__roads = some d_Web__roads := rfl
theorem fd_Web__places : MG.fd f_Web__places = some d_Web__places := rfl
theorem fd_Web____len__ : MG.fd f_Web____len__ = some d_Web____len__ := rfl
theorem fd_Web____bool__ : MG.fd f_Web____bool__ = some d_Web____bool__ := rfl
theorem fd_Web____eq__ : MG.fd f_Web____eq__ = some d_Web____eq__ := rfl
theorem fd_Web____str__ : MG.fd f_Web____str__ = some d_Web____str__ := rfl
theorem fd_Web__costing : MG.fd f_Web__costing = some d_Web__costing := rfl
theorem fd_Web__closed : MG.fd f_Web__closed = some d_Web__closed := rfl
theorem fd_Web__turned : MG.fd f_Web__turned = some d_Web__turned := rfl
theorem fd_Web__widened : MG.fd f_Web__widened = some d_Web__widened := rfl
theorem fd_without : MG.fd f_without = some d_without := rfl
theorem fd_check_web : MG.fd f_check_web = some d_check_web := rfl
theorem fd_check_indexes : MG.fd f_check_indexes = some d_check_indexes := rfl
theorem fd_is_way : MG.fd f_is_way = some d_is_way := rfl
theorem fd_check_way : MG.fd f_check_way = some d_check_way := rfl
theorem fd_is_load : MG.fd f_is_load = some d_is_load := rfl
theorem fd_check_loads : MG.fd f_check_loads = some d_check_loads := rfl
theorem fd_carried_by : MG.fd f_carried_by = some d_carried_by := rfl
theorem fd_road_loads_of : MG.fd f_road_loads_of = some d_road_loads_of := rfl
theorem fd_costs_at : MG.fd f_costs_at = some d_costs_at := rfl
theorem fd_road_costs_of : MG.fd f_road_costs_of = some d_road_costs_of := rfl
theorem fd_cost_of_way : MG.fd f_cost_of_way = some d_cost_of_way := rfl
theorem fd_way_cost : MG.fd f_way_cost = some d_way_cost := rfl
theorem fd_least_cost : MG.fd f_least_cost = some d_least_cost := rfl
theorem fd_excess_of : MG.fd f_excess_of = some d_excess_of := rfl
theorem fd_excess : MG.fd f_excess = some d_excess := rfl
theorem fd_is_steady : MG.fd f_is_steady = some d_is_steady := rfl
theorem fd_law_jar : MG.fd f_law_jar = some d_law_jar := rfl
theorem fd_law_dip : MG.fd f_law_dip = some d_law_dip := rfl
theorem fd_law_pick : MG.fd f_law_pick = some d_law_pick := rfl
theorem fd_law_common : MG.fd f_law_common = some d_law_common := rfl
theorem fd_law_lowest : MG.fd f_law_lowest = some d_law_lowest := rfl
theorem fd_law_plus : MG.fd f_law_plus = some d_law_plus := rfl
theorem fd_law_beside_right : MG.fd f_law_beside_right = some d_law_beside_right := rfl
theorem fd_law_behind_right : MG.fd f_law_behind_right = some d_law_behind_right := rfl
theorem fd_law_right : MG.fd f_law_right = some d_law_right := rfl
theorem fd_law : MG.fd f_law = some d_law := rfl
theorem gl_MOST_ROADS : MG.glo c_MOST_ROADS = some (.int 8) := rfl
theorem gl_MOST_COST : MG.glo c_MOST_COST = some (.int 1000000) := rfl
theorem gl_LETTERS : MG.glo c_LETTERS = some (.str "abcdefghijklmnopqrstuvwxyz") := rfl
theorem in_Web : MG.inst k_Web = true := rfl
theorem sb_Web : MG.sub k_Web k_Web = true := rfl
theorem dn_Web : MG.dun k_Web 0 = some f_Web____len__ := rfl
theorem fu_MG : MG.fuel = 2 ^ 9000 := rfl
end Z

namespace Z.U
open PySem

theorem bind_ok {α β : Type} {a : α} {st : Sto} {f : α → Sto → Res β} : (Res.ok a st).bind f = f a st := rfl
theorem bind_exc {α β : Type} {c : Nat} {fs : List P} {st : Sto} {f : α → Sto → Res β} : (Res.exc c fs st).bind f = .exc c fs st := rfl
theorem bind_no {α β : Type} {f : α → Sto → Res β} : (Res.no : Res α).bind f = .no := rfl
theorem sr_ok {α : Type} {a : α} {st : Sto} {δ : Env} {f : α → Sto → SR} : (Res.ok a st).sr δ f = f a st := rfl
theorem sr_exc {α : Type} {c : Nat} {fs : List P} {st : Sto} {δ : Env} {f : α → Sto → SR} : (Res.exc c fs st).sr δ f = .xc c fs δ st := rfl
theorem sr_no {α : Type} {δ : Env} {f : α → Sto → SR} : (Res.no : Res α).sr δ f = .no := rfl
theorem peek_p {st : Sto} {x : P} : peek st (.p x) = some x := rfl
theorem keep_p {st : Sto} {x : P} : keep st (.p x) = .ok x st := rfl
theorem tru_b {st : Sto} {b : Bool} : tru (.p (.bl b)) st = .ok b st := rfl
theorem omap_some {α β : Type} {f : α → β} {a : α} : Option.map f (some a) = some (f a) := rfl
theorem omap_none {α β : Type} {f : α → β} : Option.map f none = none := rfl
theorem cx_call {G : Pg} {a b} : (Pg.cx G a b).call = a := rfl
theorem cx_new {G : Pg} {a b} : (Pg.cx G a b).new = b := rfl
theorem cx_glo {G : Pg} {a b} : (Pg.cx G a b).glo = G.glo := rfl
theorem cx_sub {G : Pg} {a b} : (Pg.cx G a b).sub = G.sub := rfl
theorem cx_dun {G : Pg} {a b} : (Pg.cx G a b).dun = G.dun := rfl
theorem cx_inst {G : Pg} {a b} : (Pg.cx G a b).inst = G.inst := rfl
theorem cx_fuel {G : Pg} {a b} : (Pg.cx G a b).fuel = G.fuel := rfl
abbrev Cn (n : Nat) : Ctx := MG.cx (MG.call n) (MG.new n)
theorem call_eq {m f : Nat} {d : Fd} {ws : List W} {st : Sto} (hf : MG.fd f = some d) (hl : ws.length = d.np) (ho : ws.all notOwn = true) :
    MG.call (m + 1) f ws st = leave d.rc st.ls.length (d.body.ev (Cn m) (start d.ns ws) st) := by
  rw [Pg.call, hf]
  dsimp only
  rw [if_pos (by rw [hl, ho]; simp)]
theorem new_eq {m c f : Nat} {d : Fd} {ws : List W} {st : Sto} (hf : MG.fd f = some d) (hl : ws.length + 1 = d.np) (ho : ws.all notOwn = true) :
    MG.new (m + 1) c f ws st = leaveN c st.ls.length (d.body.ev (Cn m) (start d.ns (.own c [] :: ws)) st) := by
  rw [Pg.new, hf]
  dsimp only
  rw [if_pos (by rw [hl, ho]; simp)]
theorem suc_of {k m : Nat} (h : k + 1 ≤ m) : ∃ n, m = n + 1 ∧ k ≤ n := ⟨m - 1, by omega, by omega⟩
theorem op_add {a b : Int} : opP .add (.int a) (.int b) = some (.int (a + b)) := rfl
theorem op_sub {a b : Int} : opP .sub (.int a) (.int b) = some (.int (a - b)) := rfl
theorem op_addt {a b : List P} (h : lim (a.length + b.length) = true) : opP .add (.tup a) (.tup b) = some (.tup (a ++ b)) := by
  simp only [opP, h, if_true]
theorem op_adds {a b : Str} (h : lim (a.length + b.length) = true) : opP .add (.str a) (.str b) = some (.str (a ++ b)) := by
  simp only [opP, h, if_true]
theorem cp_eq {a b : P} : cpP .eq a b = eqP a b := rfl
theorem cp_ne {a b : P} : cpP .ne a b = (eqP a b).map (!·) := rfl
theorem cp_lt {a b : Int} : cpP .lt (.int a) (.int b) = some (decide (a < b)) := rfl
theorem cp_le {a b : Int} : cpP .le (.int a) (.int b) = some (decide (a ≤ b)) := rfl
theorem cp_gt {a b : Int} : cpP .gt (.int a) (.int b) = some (decide (b < a)) := rfl
theorem cp_ge {a b : Int} : cpP .ge (.int a) (.int b) = some (decide (b ≤ a)) := rfl
theorem cp_lts {a b : Str} : cpP .lt (.str a) (.str b) = some (ltStr a b) := rfl
theorem cp_isn {a : P} : cpP .isn a .non = some (isNon a) := by cases a <;> rfl
theorem cp_notn {a : P} : cpP .notn a .non = some (!isNon a) := by cases a <;> rfl
theorem cp_inn {a b : Str} : cpP .inn (.str a) (.str b) = some (inStr a b) := rfl
theorem cp_nin {a b : Str} : cpP .nin (.str a) (.str b) = some (!inStr a b) := rfl
theorem cp_innt {x : P} {ys : List P} : cpP .inn x (.tup ys) = eqAny x ys := by cases x <;> rfl
theorem cp_innl {x : P} {ys : List P} : cpP .inn x (.lst ys) = eqAny x ys := by cases x <;> rfl
theorem cp_nint {x : P} {ys : List P} : cpP .nin x (.tup ys) = (eqAny x ys).map (!·) := by cases x <;> rfl
theorem cp_ninl {x : P} {ys : List P} : cpP .nin x (.lst ys) = (eqAny x ys).map (!·) := by cases x <;> rfl
theorem mkL_t {xs : List P} {st : Sto} : mkL true xs st = newC xs st := rfl
theorem mkL_f {xs : List P} {st : Sto} : mkL false xs st = .ok (.p (.lst xs)) st := rfl
theorem lim_of {n : Nat} (h : n ≤ 16777216) : lim n = true := by
  unfold lim
  rw [Nat.ble_eq]
  exact h

theorem lim_0 : lim 0 = true := rfl
theorem lim_1 : lim 1 = true := rfl
theorem lim_2 : lim 2 = true := rfl
theorem lim_3 : lim 3 = true := rfl
theorem lim_4 : lim 4 = true := rfl
theorem lim_5 : lim 5 = true := rfl
theorem lim_6 : lim 6 = true := rfl
theorem lim_7 : lim 7 = true := rfl
theorem lim_8 : lim 8 = true := rfl
theorem biW_int {C : Ctx} {b : Bi} {c : Bool} {i : Int} {st : Sto} : biW C b c [.p (.int i)] st = biG b c [.p (.int i)] st := rfl
theorem biW_str {C : Ctx} {b : Bi} {c : Bool} {i : Str} {st : Sto} : biW C b c [.p (.str i)] st = biG b c [.p (.str i)] st := rfl
theorem biW_tup {C : Ctx} {b : Bi} {c : Bool} {i : List P} {st : Sto} : biW C b c [.p (.tup i)] st = biG b c [.p (.tup i)] st := rfl
theorem biW_lst {C : Ctx} {b : Bi} {c : Bool} {i : List P} {st : Sto} : biW C b c [.p (.lst i)] st = biG b c [.p (.lst i)] st := rfl
theorem biW_scr {C : Ctx} {b : Bi} {c : Bool} {i : List P} {st : Sto} : biW C b c [.p (.scr i)] st = biG b c [.p (.scr i)] st := rfl
theorem biW_bl {C : Ctx} {b : Bi} {c : Bool} {i : Bool} {st : Sto} : biW C b c [.p (.bl i)] st = biG b c [.p (.bl i)] st := rfl
theorem biW_non {C : Ctx} {b : Bi} {c : Bool} {st : Sto} : biW C b c [.p .non] st = biG b c [.p .non] st := rfl
theorem biW_cel {C : Ctx} {b : Bi} {c : Bool} {i : Nat} {st : Sto} : biW C b c [.cel i] st = biG b c [.cel i] st := rfl
theorem biW_two {C : Ctx} {b : Bi} {c : Bool} {u w : W} {ws : List W} {st : Sto} : biW C b c (u :: w :: ws) st = biG b c (u :: w :: ws) st := by
  cases u with
  | p x => cases x <;> rfl
  | _ => rfl
theorem int_mod {a b : Int} (h : b ≠ 0) : opP .mod (.int a) (.int b) = some (.int (a.fmod b)) := by
  have e : (b == 0) = false := by
    rw [beq_eq_false_iff_ne]
    exact h
  simp only [opP, e, Bool.false_eq_true, if_false]
theorem int_fdiv {a b : Int} (hb : 0 < b) (hw : wid b = true) : opP .fdiv (.int a) (.int b) = some (.int (a.fdiv b)) := by
  have h0 : (b == 0) = false := by
    rw [beq_eq_false_iff_ne]
    omega
  simp only [opP, h0, Bool.false_eq_true, if_false, hw, Bool.and_true, decide_eq_true_eq, hb, if_true]
  split <;> rfl
theorem int_mulw {a b : Int} (ha : wid a = true) (hb : wid b = true) : opP .mul (.int a) (.int b) = some (.int (a * b)) := by
  simp only [opP, ha, hb, Bool.and_true, Bool.or_true, if_true]
theorem int_muls {a b : Int} (ha : smallI a = true) : opP .mul (.int a) (.int b) = some (.int (a * b)) := by
  simp only [opP, ha, Bool.true_or, if_true]
theorem int_mulr {a b : Int} (ha : smallI b = true) : opP .mul (.int a) (.int b) = some (.int (a * b)) := by
  simp only [opP, ha, Bool.true_or, Bool.or_true, if_true]
theorem smallI_of {i : Int} (h : i.natAbs < 18446744073709551616) : smallI i = true := by
  unfold smallI
  rw [Nat.blt_eq]
  exact h
theorem wid_of {i : Int} (h : i.natAbs < 2 ^ 8900) : wid i = true := by
  unfold wid
  rw [Nat.blt_eq]
  exact h
theorem small_wid {i : Int} (h : i.natAbs < 18446744073709551616) : wid i = true := by
  apply wid_of
  have : (18446744073709551616 : Nat) ≤ 2 ^ 8900 := by decide +kernel
  omega
theorem of_wid {i : Int} (h : wid i = true) : i.natAbs < 2 ^ 8900 := by
  unfold wid at h
  rwa [Nat.blt_eq] at h
theorem wid_le {a b : Int} (h : a.natAbs ≤ b.natAbs) (hb : wid b = true) : wid a = true := wid_of (Nat.lt_of_le_of_lt h (of_wid hb))

def _root_.Z.SR.nxP (r : SR) (Q : Env → Sto → Prop) : Prop := match r with
  | .nx δ st => Q δ st
  | _ => False
def _root_.Z.Res.okP {α : Type} (r : Res α) (Q : α → Sto → Prop) : Prop := match r with
  | .ok a st => Q a st
  | _ => False
theorem nxP_nx {δ : Env} {st : Sto} {Q : Env → Sto → Prop} : (SR.nx δ st).nxP Q = Q δ st := rfl
theorem okP_ok {α : Type} {a : α} {st : Sto} {Q : α → Sto → Prop} : (Res.ok a st).okP Q = Q a st := rfl
theorem nxP_of {r : SR} {Q : Env → Sto → Prop} (h : r.nxP Q) : ∃ δ st, r = .nx δ st ∧ Q δ st := by
  cases r with
  | nx δ st => exact ⟨δ, st, rfl, h⟩
  | _ => exact h.elim
theorem okP_of {α : Type} {r : Res α} {Q : α → Sto → Prop} (h : r.okP Q) : ∃ a st, r = .ok a st ∧ Q a st := by
  cases r with
  | ok δ st => exact ⟨δ, st, rfl, h⟩
  | _ => exact h.elim
def putS (tg : Tg) (x : P) (δ : Env) (f : Env → SR) : SR := match tg.put (.p x) δ with
  | some δ1 => f δ1
  | none => .no
theorem putS_eq {tg : Tg} {x : P} {δ : Env} {f : Env → SR} : putS tg x δ f = match tg.put (.p x) δ with
  | some δ1 => f δ1
  | none => .no := rfl
/-- a for loop over items of one kind: what holds of those that are done -/
theorem forR_pre {α : Type} {e : α → P} {tg : Tg} {body : Env → Sto → SR} (l : List α) (I : List α → Env → Sto → Prop) {δ : Env} {st : Sto} (h0 : I [] δ st)
    (hs : ∀ done a rest δ st, l = done ++ a :: rest → I done δ st → (putS tg (e a) δ fun δ1 => body δ1 st).nxP (I (done ++ [a]))) : ∃ δ' st', forR tg body (l.map e) δ st = .nx δ' st' ∧ I l δ' st' := by
  have main : ∀ (rest done : List α) (δ : Env) (st : Sto), l = done ++ rest → I done δ st → ∃ δ' st', forR tg body (rest.map e) δ st = .nx δ' st' ∧ I l δ' st' := by
    intro rest
    induction rest with
    | nil =>
      intro done δ st hl hI
      rw [List.append_nil] at hl
      subst hl
      exact ⟨δ, st, rfl, hI⟩
    | cons a rest ih =>
      intro done δ st hl hI
      have h := hs done a rest δ st hl hI
      rw [List.map_cons, forR]
      unfold putS at h
      cases hp : tg.put (.p (e a)) δ with
      | none =>
        rw [hp] at h
        exact h.elim
      | some δ1 =>
        rw [hp] at h
        dsimp only at h ⊢
        obtain ⟨δ2, st2, e2, h2⟩ := nxP_of h
        rw [e2]
        exact ih (done ++ [a]) δ2 st2 (by rw [hl]; simp) h2
  exact main l [] δ st rfl h0
/-- the same, where the loop may be left with a value -/
def _root_.Z.SR.nrP (r : SR) (Q : Env → Sto → Prop) (R : W → Sto → Prop) : Prop := match r with
  | .nx δ st => Q δ st
  | .rt w st => R w st
  | _ => False
theorem nrP_nx {δ : Env} {st : Sto} {Q : Env → Sto → Prop} {R : W → Sto → Prop} : (SR.nx δ st).nrP Q R = Q δ st := rfl
theorem nrP_rt {w : W} {st : Sto} {Q : Env → Sto → Prop} {R : W → Sto → Prop} : (SR.rt w st).nrP Q R = R w st := rfl
theorem forR_ret {α : Type} {e : α → P} {tg : Tg} {body : Env → Sto → SR} (l : List α) (I : List α → Env → Sto → Prop) (R : W → Sto → Prop) {δ : Env} {st : Sto} (h0 : I [] δ st)
    (hs : ∀ done a rest δ st, l = done ++ a :: rest → I done δ st → (putS tg (e a) δ fun δ1 => body δ1 st).nrP (I (done ++ [a])) R) : (forR tg body (l.map e) δ st).nrP (I l) R := by
  have main : ∀ (rest done : List α) (δ : Env) (st : Sto), l = done ++ rest → I done δ st → (forR tg body (rest.map e) δ st).nrP (I l) R := by
    intro rest
    induction rest with
    | nil =>
      intro done δ st hl hI
      rw [List.append_nil] at hl
      subst hl
      exact hI
    | cons a rest ih =>
      intro done δ st hl hI
      have h := hs done a rest δ st hl hI
      rw [List.map_cons, forR]
      unfold putS at h
      cases hp : tg.put (.p (e a)) δ with
      | none =>
        rw [hp] at h
        exact h.elim
      | some δ1 =>
        rw [hp] at h
        dsimp only at h ⊢
        cases hb : body δ1 st with
        | nx δ2 st2 =>
          rw [hb] at h
          exact ih (done ++ [a]) δ2 st2 (by rw [hl]; simp) h
        | rt w st2 =>
          rw [hb] at h
          exact h
        | _ =>
          rw [hb] at h
          exact h.elim
  exact main l [] δ st rfl h0
/-- a comprehension whose items change nothing -/
theorem mapR_if {α : Type} {e : α → P} {f : P → Sto → Res (Option P)} {l : List α} {st : Sto} (t : α → Bool) (g : α → P) (h : ∀ a ∈ l, f (e a) st = .ok (if t a then some (g a) else none) st) :
    mapR f (l.map e) st = .ok ((l.filter t).map g) st := by
  induction l with
  | nil => rfl
  | cons a l ih =>
    rw [List.map_cons, mapR, h a (by simp)]
    simp only [bind_ok]
    rw [ih fun b hb => h b (List.mem_cons_of_mem _ hb)]
    simp only [bind_ok]
    cases ht : t a with
    | true => simp [List.filter_cons, ht]
    | false => simp [List.filter_cons, ht]
theorem mapR_all {α : Type} {e : α → P} {f : P → Sto → Res (Option P)} {l : List α} {st : Sto} (g : α → P) (h : ∀ a ∈ l, f (e a) st = .ok (some (g a)) st) :
    mapR f (l.map e) st = .ok (l.map g) st := by
  rw [mapR_if (fun _ => true) g fun a ha => by rw [h a ha]; rfl, List.filter_eq_self.mpr fun _ _ => rfl]
theorem whlR_go {t : Env → Sto → Res W} {body : Env → Sto → SR} {n : Nat} {δ δ2 : Env} {st st1 st2 : Sto} (h1 : t δ st = .ok (.p (.bl true)) st1) (h2 : body δ st1 = .nx δ2 st2) : whlR t body (n + 1) δ st = whlR t body n δ2 st2 := by
  rw [whlR, h1]
  simp only [sr_ok, tru_b, if_true, h2]
theorem whlR_end {t : Env → Sto → Res W} {body : Env → Sto → SR} {n : Nat} {δ : Env} {st st1 : Sto} (h1 : t δ st = .ok (.p (.bl false)) st1) : whlR t body (n + 1) δ st = .nx δ st1 := by
  rw [whlR, h1]
  simp only [sr_ok, tru_b, Bool.false_eq_true, if_false]
theorem cut_self {st : Sto} : st.cut st.ls.length = st := by
  simp [Sto.cut]
theorem leave_p {rc : Bool} {st : Sto} {x : P} {k : Nat} : leave rc k (.rt (.p x) st) = .ok (.p x) (st.cut k) := rfl
theorem leave_nx {rc : Bool} {st : Sto} {δ : Env} {k : Nat} : leave rc k (.nx δ st) = .ok (.p .non) (st.cut k) := rfl
def lcS (C : Ctx) (vs : List Nat) (tg : Tg) (t e : E) (δ : Env) (x : P) (st : Sto) : Res (Option P) := match tg.put (.p x) (wipe δ vs) with
  | some δ1 => ((t.ev C δ1 st).bind tru).bind fun b st => if b then (e.ev C δ1 st).bind fun w st => (keep st w).bind fun y st => .ok (some y) st else .ok none st
  | none => .no
theorem lc_ev {C : Ctx} {c : Bool} {vs : List Nat} {tg : Tg} {it : It} {t e : E} {δ : Env} {st : Sto} : (E.lc c vs tg it t e).ev C δ st = (it.ev C δ st).bind fun xs st => (noX (mapR (lcS C vs tg t e δ) xs st)).bind fun ys st => if lim ys.length then mkL c ys st else .no := by
  rw [E.ev]
  rfl
theorem lcS_put {C : Ctx} {vs : List Nat} {tg : Tg} {t e : E} {δ δ1 : Env} {x : P} {st : Sto} (h : tg.put (.p x) (wipe δ vs) = some δ1) :
    lcS C vs tg t e δ x st = ((t.ev C δ1 st).bind tru).bind fun b st => if b then (e.ev C δ1 st).bind fun w st => (keep st w).bind fun y st => .ok (some y) st else .ok none st := by
  unfold lcS
  rw [h]
theorem noX_ok {α : Type} {a : α} {st : Sto} : noX (Res.ok a st) = .ok a st := rfl
/-- a comprehension whose items change nothing -/
theorem lc_map {α : Type} {em : α → P} {l : List α} {C : Ctx} {c : Bool} {vs : List Nat} {tg : Tg} {it : It} {t e : E} {δ : Env} {st : Sto} (hit : it.ev C δ st = .ok (l.map em) st) (f : α → Bool) (g : α → P)
    (step : ∀ a ∈ l, lcS C vs tg t e δ (em a) st = .ok (if f a then some (g a) else none) st) (hl : l.length ≤ 16777216) : (E.lc c vs tg it t e).ev C δ st = mkL c ((l.filter f).map g) st := by
  rw [lc_ev, hit]
  simp only [bind_ok]
  rw [mapR_if f g step]
  simp only [noX_ok, bind_ok]
  rw [lim_of (by
    rw [List.length_map]
    exact Nat.le_trans (List.length_filter_le _ _) hl)]
  rfl
theorem lc_all {α : Type} {em : α → P} {l : List α} {C : Ctx} {c : Bool} {vs : List Nat} {tg : Tg} {it : It} {t e : E} {δ : Env} {st : Sto} (hit : it.ev C δ st = .ok (l.map em) st) (g : α → P)
    (step : ∀ a ∈ l, lcS C vs tg t e δ (em a) st = .ok (some (g a)) st) (hl : l.length ≤ 16777216) : (E.lc c vs tg it t e).ev C δ st = mkL c (l.map g) st := by
  rw [lc_map hit (fun _ => true) g (fun a ha => by rw [step a ha]; rfl) hl, List.filter_eq_self.mpr fun _ _ => rfl]
mutual
/-- without truths, nested at most n deep -/
def _root_.Z.P.cl : Nat → P → Bool
  | _, .non => true
  | _, .int _ => true
  | _, .str _ => true
  | n + 1, .tup xs => P.cls n xs
  | n + 1, .lst xs => P.cls n xs
  | _, _ => false
def _root_.Z.P.cls : Nat → List P → Bool
  | _, [] => true
  | n, x :: xs => P.cl n x && P.cls n xs
end
mutual
theorem cl_toD : ∀ (n : Nat) (x : P), x.cl n = true → ∃ d, x.toD = some d ∧ d.plain = true ∧ d.depth ≤ n
  | n, .non, _ => ⟨.none, by rw [P.toD], rfl, by rw [PyData.depth]; omega⟩
  | n, .int i, _ => ⟨.int i, by rw [P.toD], rfl, by rw [PyData.depth]; omega⟩
  | n, .str i, _ => ⟨.str i, by rw [P.toD], rfl, by rw [PyData.depth]; omega⟩
  | n + 1, .tup xs, h => by
    rw [P.cl] at h
    obtain ⟨ds, e, p, q⟩ := cls_toD n xs h
    exact ⟨.tuple ds, by rw [P.toD, e], by rw [PyData.plain]; exact p, by rw [PyData.depth]; omega⟩
  | n + 1, .lst xs, h => by
    rw [P.cl] at h
    obtain ⟨ds, e, p, q⟩ := cls_toD n xs h
    exact ⟨.list ds, by rw [P.toD, e], by rw [PyData.plain]; exact p, by rw [PyData.depth]; omega⟩
  | 0, .tup xs, h => by simp [P.cl] at h
  | 0, .lst xs, h => by simp [P.cl] at h
  | n, .bl b, h => by simp [P.cl] at h
  | n, .scr xs, h => by simp [P.cl] at h
  | n, .ins c xs, h => by simp [P.cl] at h
  | n, .obj c, h => by simp [P.cl] at h
  | n, .fn c, h => by simp [P.cl] at h
theorem cls_toD : ∀ (n : Nat) (xs : List P), P.cls n xs = true → ∃ ds, P.toDs xs = some ds ∧ PyData.plainAll ds = true ∧ PyData.depthAll ds ≤ n
  | n, [], _ => ⟨[], by rw [P.toDs], rfl, by rw [PyData.depthAll]; omega⟩
  | n, x :: xs, h => by
    rw [P.cls, Bool.and_eq_true] at h
    obtain ⟨d, e, p, q⟩ := cl_toD n x h.1
    obtain ⟨ds, e2, p2, q2⟩ := cls_toD n xs h.2
    exact ⟨d :: ds, by rw [P.toDs, e, e2], by rw [PyData.plainAll, p, p2]; rfl, by rw [PyData.depthAll]; omega⟩
end
mutual
theorem cl_eqv : ∀ (n : Nat) (x y : P) (d e : PyData), x.cl n = true → y.cl n = true → x.toD = some d → y.toD = some e → PyData.eqv d e = true → x = y
  | n, .non, y, d, e, c1, c2, h1, h2, h => by
    rw [P.toD] at h1
    cases h1
    cases y <;> simp only [P.toD] at h2 <;> (try split at h2) <;> cases h2 <;> first | rfl | (simp only [PyData.eqv, Bool.false_eq_true] at h) | (cases n <;> simp [P.cl] at c2)
  | n, .int i, y, d, e, c1, c2, h1, h2, h => by
    rw [P.toD] at h1
    cases h1
    cases y <;> simp only [P.toD] at h2 <;> (try split at h2) <;> cases h2 <;> simp only [PyData.eqv, Bool.false_eq_true] at h
    · cases n <;> simp [P.cl] at c2
    · rw [eq_of_beq h]
  | n, .str i, y, d, e, c1, c2, h1, h2, h => by
    rw [P.toD] at h1
    cases h1
    cases y <;> simp only [P.toD] at h2 <;> (try split at h2) <;> cases h2 <;> simp only [PyData.eqv, Bool.false_eq_true] at h
    rw [eq_of_beq h]
  | n + 1, .tup xs, y, d, e, c1, c2, h1, h2, h => by
    rw [P.cl] at c1
    obtain ⟨ds, e1, _, _⟩ := cls_toD n xs c1
    rw [P.toD, e1] at h1
    cases h1
    cases y with
    | tup ys =>
      rw [P.cl] at c2
      obtain ⟨es, e2, _, _⟩ := cls_toD n ys c2
      rw [P.toD, e2] at h2
      cases h2
      rw [PyData.eqv] at h
      rw [cls_eqv n xs ys ds es c1 c2 e1 e2 h]
    | _ => simp only [P.toD] at h2 <;> (try split at h2) <;> cases h2 <;> simp only [PyData.eqv, Bool.false_eq_true] at h
  | n + 1, .lst xs, y, d, e, c1, c2, h1, h2, h => by
    rw [P.cl] at c1
    obtain ⟨ds, e1, _, _⟩ := cls_toD n xs c1
    rw [P.toD, e1] at h1
    cases h1
    cases y with
    | lst ys =>
      rw [P.cl] at c2
      obtain ⟨es, e2, _, _⟩ := cls_toD n ys c2
      rw [P.toD, e2] at h2
      cases h2
      rw [PyData.eqv] at h
      rw [cls_eqv n xs ys ds es c1 c2 e1 e2 h]
    | _ => simp only [P.toD] at h2 <;> (try split at h2) <;> cases h2 <;> simp only [PyData.eqv, Bool.false_eq_true] at h
  | 0, .tup xs, y, d, e, c1, c2, h1, h2, h => by simp [P.cl] at c1
  | 0, .lst xs, y, d, e, c1, c2, h1, h2, h => by simp [P.cl] at c1
  | n, .bl b, y, d, e, c1, c2, h1, h2, h => by simp [P.cl] at c1
  | n, .scr b, y, d, e, c1, c2, h1, h2, h => by simp [P.cl] at c1
  | n, .ins b c, y, d, e, c1, c2, h1, h2, h => by simp [P.cl] at c1
  | n, .obj b, y, d, e, c1, c2, h1, h2, h => by simp [P.cl] at c1
  | n, .fn b, y, d, e, c1, c2, h1, h2, h => by simp [P.cl] at c1
theorem cls_eqv : ∀ (n : Nat) (xs ys : List P) (ds es : List PyData), P.cls n xs = true → P.cls n ys = true → P.toDs xs = some ds → P.toDs ys = some es → PyData.eqvAll ds es = true → xs = ys
  | n, [], [], ds, es, _, _, _, _, _ => rfl
  | n, [], y :: ys, ds, es, c1, c2, h1, h2, h => by
    rw [P.cls, Bool.and_eq_true] at c2
    obtain ⟨d, e, _, _⟩ := cl_toD n y c2.1
    obtain ⟨ds', e2, _, _⟩ := cls_toD n ys c2.2
    rw [P.toDs] at h1
    rw [P.toDs, e, e2] at h2
    cases h1
    cases h2
    simp [PyData.eqvAll] at h
  | n, x :: xs, [], ds, es, c1, c2, h1, h2, h => by
    rw [P.cls, Bool.and_eq_true] at c1
    obtain ⟨d, e, _, _⟩ := cl_toD n x c1.1
    obtain ⟨ds', e2, _, _⟩ := cls_toD n xs c1.2
    rw [P.toDs] at h2
    rw [P.toDs, e, e2] at h1
    cases h1
    cases h2
    simp [PyData.eqvAll] at h
  | n, x :: xs, y :: ys, ds, es, c1, c2, h1, h2, h => by
    rw [P.cls, Bool.and_eq_true] at c1 c2
    obtain ⟨d, e, _, _⟩ := cl_toD n x c1.1
    obtain ⟨ds', e2, _, _⟩ := cls_toD n xs c1.2
    obtain ⟨d3, e3, _, _⟩ := cl_toD n y c2.1
    obtain ⟨ds4, e4, _, _⟩ := cls_toD n ys c2.2
    rw [P.toDs, e, e2] at h1
    rw [P.toDs, e3, e4] at h2
    cases h1
    cases h2
    rw [PyData.eqvAll, Bool.and_eq_true] at h
    rw [cl_eqv n x y _ _ c1.1 c2.1 e e3 h.1, cls_eqv n xs ys _ _ c1.2 c2.2 e2 e4 h.2]
end
theorem eqP_same {x : P} {n : Nat} (h : x.cl n = true) (hn : n ≤ 60 := by omega) : eqP x x = some true := by
  obtain ⟨d, e, p, q⟩ := cl_toD n x h
  unfold eqP
  rw [e]
  have b : Nat.ble d.depth 60 = true := by
    rw [Nat.ble_eq]
    omega
  simp only [p, b, Bool.and_self, if_true, PySem.SeqAt.eqv_refl_plain d p]
theorem eqP_ne {x y : P} {n : Nat} (h : x.cl n = true) (h2 : y.cl n = true) (hne : x ≠ y) (hn : n ≤ 60 := by omega) : eqP x y = some false := by
  obtain ⟨d, e, p, q⟩ := cl_toD n x h
  obtain ⟨d2, e2, p2, q2⟩ := cl_toD n y h2
  unfold eqP
  rw [e, e2]
  have b : Nat.ble d.depth 60 = true := by
    rw [Nat.ble_eq]
    omega
  simp only [p, p2, b, Bool.and_self, if_true, Option.some.injEq]
  cases hv : PyData.eqv d d2 with
  | false => rfl
  | true => exact absurd (cl_eqv n x y d d2 h h2 e e2 hv) hne
theorem eqP_int {a b : Int} : eqP (.int a) (.int b) = some (decide (a = b)) := rfl
theorem eqP_str {a b : Str} : eqP (.str a) (.str b) = some (decide (a = b)) := by
  by_cases h : a = b
  · subst h
    rw [eqP_same (n := 0) rfl]
    simp
  · rw [eqP_ne (n := 0) rfl rfl (fun e => h (P.str.inj e))]
    simp [h]
theorem eqAny_of {x : P} {ys : List P} {n : Nat} {b : Bool} (h : x.cl n = true) (h2 : P.cls n ys = true) (hb : b = true ↔ x ∈ ys) (hn : n ≤ 60 := by omega) : eqAny x ys = some b := by
  obtain ⟨d, e, p, q⟩ := cl_toD n x h
  obtain ⟨ds, e2, p2, q2⟩ := cls_toD n ys h2
  unfold eqAny
  rw [e, e2]
  have bb : Nat.ble d.depth 60 = true := by
    rw [Nat.ble_eq]
    omega
  simp only [p, p2, bb, Bool.and_self, if_true, Option.some.injEq]
  have main : ∀ (ys : List P) (ds : List PyData), P.cls n ys = true → P.toDs ys = some ds → ((ds.any fun e => PyData.eqv e d) = true ↔ x ∈ ys) := by
    intro ys
    induction ys with
    | nil =>
      intro ds _ e2
      rw [P.toDs] at e2
      cases e2
      simp
    | cons y ys ih =>
      intro ds c e2
      rw [P.cls, Bool.and_eq_true] at c
      obtain ⟨d3, e3, p3, _⟩ := cl_toD n y c.1
      obtain ⟨ds4, e4, _, _⟩ := cls_toD n ys c.2
      rw [P.toDs, e3, e4] at e2
      cases e2
      rw [List.any_cons, Bool.or_eq_true, ih ds4 c.2 e4, List.mem_cons]
      have : PyData.eqv d3 d = true ↔ x = y := by
        constructor
        · intro hv
          exact (cl_eqv n y x d3 d c.1 h e3 e hv).symm
        · intro hv
          subst hv
          rw [e] at e3
          cases e3
          exact PySem.SeqAt.eqv_refl_plain d p
      rw [this]
  have m := main ys ds h2 e2
  cases b with
  | true => exact m.mpr (hb.mp rfl)
  | false =>
    cases ha : ds.any fun e => PyData.eqv e d with
    | false => rfl
    | true =>
      have := hb.mpr (m.mp ha)
      cases this
theorem ix_of {xs : List P} {i : Int} {x : P} (h : L2.atI xs i = some x) : ixP (.tup xs) (.int i) = some x ∧ ixP (.lst xs) (.int i) = some x := ⟨h, h⟩
theorem atI_nat {α : Type} {xs : List α} {k : Nat} {x : α} (h : xs[k]? = some x) : L2.atI xs (k : Int) = some x := by
  unfold L2.atI L2.ixN
  have hk : k < xs.length := (List.getElem?_eq_some_iff.mp h).1
  rw [if_pos (by omega), if_pos (by omega)]
  show xs[(k : Int).toNat]? = _
  rw [Int.toNat_natCast, h]
theorem rng_nat (n : Nat) (h : n ≤ 1000000000000) : rngP 0 (n : Int) = some ((List.range n).map fun k => P.int (k : Nat)) := by
  unfold rngP
  have z : (small62 0 && small62 (n : Int)) = true := by
    unfold small62
    simp only [Bool.and_eq_true, Nat.blt_eq]
    omega
  rw [if_pos z]
  simp
end Z.U

namespace Z.U
open PySem

mutual
/-- data that a door may look at -/
def _root_.Z.P.fit : P → Bool
  | .str s => lim s.length
  | .tup xs => P.fits xs
  | .lst xs => P.fits xs
  | .ins c _ => MG.inst c
  | .scr _ => false
  | .obj _ => false
  | .fn _ => false
  | _ => true
def _root_.Z.P.fits : List P → Bool
  | [] => true
  | x :: xs => P.fit x && P.fits xs
end
theorem fits_mem : ∀ {xs : List P} {x : P}, P.fits xs = true → x ∈ xs → x.fit = true
  | y :: ys, x, h, hm => by
    rw [P.fits, Bool.and_eq_true] at h
    rcases List.mem_cons.mp hm with q | q
    · subst q
      exact h.1
    · exact fits_mem h.2 q
theorem fits_of : ∀ {xs : List P}, (∀ x ∈ xs, x.fit = true) → P.fits xs = true
  | [], _ => by rw [P.fits]
  | y :: ys, h => by
    rw [P.fits, h y (by simp), fits_of fun x hx => h x (List.mem_cons_of_mem _ hx)]
    rfl
theorem fit_kind {x : P} (h : x.fit = true) : kindP MG.inst x = true := by
  cases x <;> first | rfl | (simp [P.fit] at h; done) | (simp [P.fit] at h; exact h)
theorem isi_ev {C : Ctx} {t : Ty} {x : P} {st : Sto} (hk : kindP C.inst x = true) : Res.one (fun x => if kindP C.inst x = true then some (P.bl (isP C.sub t x)) else none) (.p x) st = .ok (.p (.bl (isP C.sub t x))) st := by
  simp only [Res.one, peek_p, hk, if_true]
theorem isP_int {s : Nat → Nat → Bool} {x : P} : (isP s .int x && !isP s .bool x) = isInt x := by
  cases x <;> rfl
theorem integer_ok {m : Nat} (hm : 1 ≤ m) {x : P} {st : Sto} (hx : x.fit = true) : MG.call m f_is_integer [.p x] st = .ok (.p (.bl (isInt x))) st := by
  obtain ⟨n, rfl, hn⟩ := suc_of hm
  rw [call_eq fd_is_integer rfl rfl]
  have k : kindP MG.inst x = true := fit_kind hx
  simp only [d_is_integer, b_is_integer, Ss.ev, S.ev, E.ev, Es.ev, It.ev, bind_ok, bind_exc, bind_no, sr_ok, sr_exc, sr_no, Res.two, Res.one, peek_p, keep_p, keeps, tru_b, cx_call, cx_new, cx_glo, cx_sub, cx_dun, cx_inst, cx_fuel, start, List.map_cons, List.map_nil, List.length_cons, List.length_nil, List.reduceReplicate, List.cons_append, List.nil_append, List.getElem?_cons_zero, List.getElem?_cons_succ, List.set_cons_zero, List.set_cons_succ, Nat.reduceAdd, Nat.reduceSub, Nat.reduceLT, Nat.reduceEqDiff, decide_true, decide_false, notOwn, Bool.and_true, Bool.true_and, Bool.and_false, Bool.false_and, Bool.or_true, Bool.true_or, Bool.or_false, Bool.false_or, Bool.not_true, Bool.not_false, Bool.false_eq_true, if_true, if_false, decide_eq_true_eq, omap_some, omap_none, op_add, op_sub, op_addt, cp_eq, cp_ne, cp_lt, cp_le, cp_gt, cp_ge, cp_isn, cp_notn, cp_inn, cp_nin, itemsP, ofO, Tg.put, Tg.puts, putAll, mkL_t, mkL_f, lim_0, lim_1, lim_2, lim_3, lim_4, lim_5, lim_6, lim_7, lim_8, nxP_nx, okP_ok, putS_eq, biW_int, biW_str, biW_tup, biW_lst, biW_bl, biW_non, biW_scr, biW_cel, biW_two, biG, peeks, biP, biL, int_mod, int_fdiv, List.all_cons, List.all_nil, Int.cast_ofNat_Int, Int.reduceEq, Int.reduceLT, Int.reduceLE, Int.reduceAdd, Int.reduceSub, Int.reduceNeg, eqP_int, nrP_nx, nrP_rt, leave_p, leave_nx, cut_self, k]
  rw [← isP_int (s := MG.sub)]
  cases isP MG.sub .int x <;> simp only [Ss.ev, S.ev, E.ev, Es.ev, It.ev, bind_ok, bind_exc, bind_no, sr_ok, sr_exc, sr_no, Res.two, Res.one, peek_p, keep_p, keeps, tru_b, cx_call, cx_new, cx_glo, cx_sub, cx_dun, cx_inst, cx_fuel, start, List.map_cons, List.map_nil, List.length_cons, List.length_nil, List.reduceReplicate, List.cons_append, List.nil_append, List.getElem?_cons_zero, List.getElem?_cons_succ, List.set_cons_zero, List.set_cons_succ, Nat.reduceAdd, Nat.reduceSub, Nat.reduceLT, Nat.reduceEqDiff, decide_true, decide_false, notOwn, Bool.and_true, Bool.true_and, Bool.and_false, Bool.false_and, Bool.or_true, Bool.true_or, Bool.or_false, Bool.false_or, Bool.not_true, Bool.not_false, Bool.false_eq_true, if_true, if_false, decide_eq_true_eq, omap_some, omap_none, op_add, op_sub, op_addt, cp_eq, cp_ne, cp_lt, cp_le, cp_gt, cp_ge, cp_isn, cp_notn, cp_inn, cp_nin, itemsP, ofO, Tg.put, Tg.puts, putAll, mkL_t, mkL_f, lim_0, lim_1, lim_2, lim_3, lim_4, lim_5, lim_6, lim_7, lim_8, nxP_nx, okP_ok, putS_eq, biW_int, biW_str, biW_tup, biW_lst, biW_bl, biW_non, biW_scr, biW_cel, biW_two, biG, peeks, biP, biL, int_mod, int_fdiv, List.all_cons, List.all_nil, Int.cast_ofNat_Int, Int.reduceEq, Int.reduceLT, Int.reduceLE, Int.reduceAdd, Int.reduceSub, Int.reduceNeg, eqP_int, nrP_nx, nrP_rt, leave_p, leave_nx, cut_self, leave_p, cut_self, tru_b]
def isWithin (x : P) (lo hi : Int) : Bool := match x with
  | .int i => decide (lo ≤ i) && decide (i ≤ hi)
  | _ => false
theorem within_ok {m : Nat} (hm : 2 ≤ m) {x : P} {lo hi : Int} {st : Sto} (hx : x.fit = true) : MG.call m f_is_within [.p x, .p (.int lo), .p (.int hi)] st = .ok (.p (.bl (isWithin x lo hi))) st := by
  obtain ⟨n, rfl, hn⟩ := suc_of hm
  rw [call_eq fd_is_within rfl rfl]
  have e1 : MG.call n f_is_integer [.p x] st = .ok (.p (.bl (isInt x))) st := integer_ok hn hx
  cases x with
  | int i =>
    by_cases h : lo ≤ i
    · simp only [d_is_within, b_is_within, Ss.ev, S.ev, E.ev, Es.ev, It.ev, bind_ok, bind_exc, bind_no, sr_ok, sr_exc, sr_no, Res.two, Res.one, peek_p, keep_p, keeps, tru_b, cx_call, cx_new, cx_glo, cx_sub, cx_dun, cx_inst, cx_fuel, start, List.map_cons, List.map_nil, List.length_cons, List.length_nil, List.reduceReplicate, List.cons_append, List.nil_append, List.getElem?_cons_zero, List.getElem?_cons_succ, List.set_cons_zero, List.set_cons_succ, Nat.reduceAdd, Nat.reduceSub, Nat.reduceLT, Nat.reduceEqDiff, decide_true, decide_false, notOwn, Bool.and_true, Bool.true_and, Bool.and_false, Bool.false_and, Bool.or_true, Bool.true_or, Bool.or_false, Bool.false_or, Bool.not_true, Bool.not_false, Bool.false_eq_true, if_true, if_false, decide_eq_true_eq, omap_some, omap_none, op_add, op_sub, op_addt, cp_eq, cp_ne, cp_lt, cp_le, cp_gt, cp_ge, cp_isn, cp_notn, cp_inn, cp_nin, itemsP, ofO, Tg.put, Tg.puts, putAll, mkL_t, mkL_f, lim_0, lim_1, lim_2, lim_3, lim_4, lim_5, lim_6, lim_7, lim_8, nxP_nx, okP_ok, putS_eq, biW_int, biW_str, biW_tup, biW_lst, biW_bl, biW_non, biW_scr, biW_cel, biW_two, biG, peeks, biP, biL, int_mod, int_fdiv, List.all_cons, List.all_nil, Int.cast_ofNat_Int, Int.reduceEq, Int.reduceLT, Int.reduceLE, Int.reduceAdd, Int.reduceSub, Int.reduceNeg, eqP_int, nrP_nx, nrP_rt, leave_p, leave_nx, cut_self, e1, isInt, h, isWithin, leave_p, cut_self]
    · simp only [d_is_within, b_is_within, Ss.ev, S.ev, E.ev, Es.ev, It.ev, bind_ok, bind_exc, bind_no, sr_ok, sr_exc, sr_no, Res.two, Res.one, peek_p, keep_p, keeps, tru_b, cx_call, cx_new, cx_glo, cx_sub, cx_dun, cx_inst, cx_fuel, start, List.map_cons, List.map_nil, List.length_cons, List.length_nil, List.reduceReplicate, List.cons_append, List.nil_append, List.getElem?_cons_zero, List.getElem?_cons_succ, List.set_cons_zero, List.set_cons_succ, Nat.reduceAdd, Nat.reduceSub, Nat.reduceLT, Nat.reduceEqDiff, decide_true, decide_false, notOwn, Bool.and_true, Bool.true_and, Bool.and_false, Bool.false_and, Bool.or_true, Bool.true_or, Bool.or_false, Bool.false_or, Bool.not_true, Bool.not_false, Bool.false_eq_true, if_true, if_false, decide_eq_true_eq, omap_some, omap_none, op_add, op_sub, op_addt, cp_eq, cp_ne, cp_lt, cp_le, cp_gt, cp_ge, cp_isn, cp_notn, cp_inn, cp_nin, itemsP, ofO, Tg.put, Tg.puts, putAll, mkL_t, mkL_f, lim_0, lim_1, lim_2, lim_3, lim_4, lim_5, lim_6, lim_7, lim_8, nxP_nx, okP_ok, putS_eq, biW_int, biW_str, biW_tup, biW_lst, biW_bl, biW_non, biW_scr, biW_cel, biW_two, biG, peeks, biP, biL, int_mod, int_fdiv, List.all_cons, List.all_nil, Int.cast_ofNat_Int, Int.reduceEq, Int.reduceLT, Int.reduceLE, Int.reduceAdd, Int.reduceSub, Int.reduceNeg, eqP_int, nrP_nx, nrP_rt, leave_p, leave_nx, cut_self, e1, isInt, h, isWithin, leave_p, cut_self]
  | _ => simp only [d_is_within, b_is_within, Ss.ev, S.ev, E.ev, Es.ev, It.ev, bind_ok, bind_exc, bind_no, sr_ok, sr_exc, sr_no, Res.two, Res.one, peek_p, keep_p, keeps, tru_b, cx_call, cx_new, cx_glo, cx_sub, cx_dun, cx_inst, cx_fuel, start, List.map_cons, List.map_nil, List.length_cons, List.length_nil, List.reduceReplicate, List.cons_append, List.nil_append, List.getElem?_cons_zero, List.getElem?_cons_succ, List.set_cons_zero, List.set_cons_succ, Nat.reduceAdd, Nat.reduceSub, Nat.reduceLT, Nat.reduceEqDiff, decide_true, decide_false, notOwn, Bool.and_true, Bool.true_and, Bool.and_false, Bool.false_and, Bool.or_true, Bool.true_or, Bool.or_false, Bool.false_or, Bool.not_true, Bool.not_false, Bool.false_eq_true, if_true, if_false, decide_eq_true_eq, omap_some, omap_none, op_add, op_sub, op_addt, cp_eq, cp_ne, cp_lt, cp_le, cp_gt, cp_ge, cp_isn, cp_notn, cp_inn, cp_nin, itemsP, ofO, Tg.put, Tg.puts, putAll, mkL_t, mkL_f, lim_0, lim_1, lim_2, lim_3, lim_4, lim_5, lim_6, lim_7, lim_8, nxP_nx, okP_ok, putS_eq, biW_int, biW_str, biW_tup, biW_lst, biW_bl, biW_non, biW_scr, biW_cel, biW_two, biG, peeks, biP, biL, int_mod, int_fdiv, List.all_cons, List.all_nil, Int.cast_ofNat_Int, Int.reduceEq, Int.reduceLT, Int.reduceLE, Int.reduceAdd, Int.reduceSub, Int.reduceNeg, eqP_int, nrP_nx, nrP_rt, leave_p, leave_nx, cut_self, e1, isInt, isWithin, leave_p, cut_self]
/-- a place -/
def plc (c : Nat) : P := .str ⟨#[c]⟩
def letters : List Nat := [97, 98, 99, 100, 101, 102, 103, 104, 105, 106, 107, 108, 109, 110, 111, 112, 113, 114, 115, 116, 117, 118, 119, 120, 121, 122]
def isPlace : P → Bool
  | .str s => decide (s.length = 1) && inStr s "abcdefghijklmnopqrstuvwxyz"
  | _ => false
theorem place_ok {m : Nat} (hm : 1 ≤ m) {x : P} {st : Sto} (hx : x.fit = true) : MG.call m f_is_place [.p x] st = .ok (.p (.bl (isPlace x))) st := by
  obtain ⟨n, rfl, hn⟩ := suc_of hm
  rw [call_eq fd_is_place rfl rfl]
  have k : kindP MG.inst x = true := fit_kind hx
  cases x with
  | str s =>
    have hl : lim s.length = true := by simpa [P.fit] using hx
    by_cases h : s.length = 1
    · have h' : ((1 : Nat) : Int) = 1 := rfl
      simp only [d_is_place, b_is_place, Ss.ev, S.ev, E.ev, Es.ev, It.ev, bind_ok, bind_exc, bind_no, sr_ok, sr_exc, sr_no, Res.two, Res.one, peek_p, keep_p, keeps, tru_b, cx_call, cx_new, cx_glo, cx_sub, cx_dun, cx_inst, cx_fuel, start, List.map_cons, List.map_nil, List.length_cons, List.length_nil, List.reduceReplicate, List.cons_append, List.nil_append, List.getElem?_cons_zero, List.getElem?_cons_succ, List.set_cons_zero, List.set_cons_succ, Nat.reduceAdd, Nat.reduceSub, Nat.reduceLT, Nat.reduceEqDiff, decide_true, decide_false, notOwn, Bool.and_true, Bool.true_and, Bool.and_false, Bool.false_and, Bool.or_true, Bool.true_or, Bool.or_false, Bool.false_or, Bool.not_true, Bool.not_false, Bool.false_eq_true, if_true, if_false, decide_eq_true_eq, omap_some, omap_none, op_add, op_sub, op_addt, cp_eq, cp_ne, cp_lt, cp_le, cp_gt, cp_ge, cp_isn, cp_notn, cp_inn, cp_nin, itemsP, ofO, Tg.put, Tg.puts, putAll, mkL_t, mkL_f, lim_0, lim_1, lim_2, lim_3, lim_4, lim_5, lim_6, lim_7, lim_8, nxP_nx, okP_ok, putS_eq, biW_int, biW_str, biW_tup, biW_lst, biW_bl, biW_non, biW_scr, biW_cel, biW_two, biG, peeks, biP, biL, int_mod, int_fdiv, List.all_cons, List.all_nil, Int.cast_ofNat_Int, Int.reduceEq, Int.reduceLT, Int.reduceLE, Int.reduceAdd, Int.reduceSub, Int.reduceNeg, eqP_int, nrP_nx, nrP_rt, leave_p, leave_nx, cut_self, k, isP, lenP, hl, h, h', eqP_int, gl_LETTERS, isPlace, leave_p, cut_self, lim_1]
    · have hz : ¬ ((s.length : Int) = 1) := by omega
      simp only [d_is_place, b_is_place, Ss.ev, S.ev, E.ev, Es.ev, It.ev, bind_ok, bind_exc, bind_no, sr_ok, sr_exc, sr_no, Res.two, Res.one, peek_p, keep_p, keeps, tru_b, cx_call, cx_new, cx_glo, cx_sub, cx_dun, cx_inst, cx_fuel, start, List.map_cons, List.map_nil, List.length_cons, List.length_nil, List.reduceReplicate, List.cons_append, List.nil_append, List.getElem?_cons_zero, List.getElem?_cons_succ, List.set_cons_zero, List.set_cons_succ, Nat.reduceAdd, Nat.reduceSub, Nat.reduceLT, Nat.reduceEqDiff, decide_true, decide_false, notOwn, Bool.and_true, Bool.true_and, Bool.and_false, Bool.false_and, Bool.or_true, Bool.true_or, Bool.or_false, Bool.false_or, Bool.not_true, Bool.not_false, Bool.false_eq_true, if_true, if_false, decide_eq_true_eq, omap_some, omap_none, op_add, op_sub, op_addt, cp_eq, cp_ne, cp_lt, cp_le, cp_gt, cp_ge, cp_isn, cp_notn, cp_inn, cp_nin, itemsP, ofO, Tg.put, Tg.puts, putAll, mkL_t, mkL_f, lim_0, lim_1, lim_2, lim_3, lim_4, lim_5, lim_6, lim_7, lim_8, nxP_nx, okP_ok, putS_eq, biW_int, biW_str, biW_tup, biW_lst, biW_bl, biW_non, biW_scr, biW_cel, biW_two, biG, peeks, biP, biL, int_mod, int_fdiv, List.all_cons, List.all_nil, Int.cast_ofNat_Int, Int.reduceEq, Int.reduceLT, Int.reduceLE, Int.reduceAdd, Int.reduceSub, Int.reduceNeg, eqP_int, nrP_nx, nrP_rt, leave_p, leave_nx, cut_self, k, isP, lenP, hl, h, hz, eqP_int, isPlace, leave_p, cut_self]
  | _ => simp only [d_is_place, b_is_place, Ss.ev, S.ev, E.ev, Es.ev, It.ev, bind_ok, bind_exc, bind_no, sr_ok, sr_exc, sr_no, Res.two, Res.one, peek_p, keep_p, keeps, tru_b, cx_call, cx_new, cx_glo, cx_sub, cx_dun, cx_inst, cx_fuel, start, List.map_cons, List.map_nil, List.length_cons, List.length_nil, List.reduceReplicate, List.cons_append, List.nil_append, List.getElem?_cons_zero, List.getElem?_cons_succ, List.set_cons_zero, List.set_cons_succ, Nat.reduceAdd, Nat.reduceSub, Nat.reduceLT, Nat.reduceEqDiff, decide_true, decide_false, notOwn, Bool.and_true, Bool.true_and, Bool.and_false, Bool.false_and, Bool.or_true, Bool.true_or, Bool.or_false, Bool.false_or, Bool.not_true, Bool.not_false, Bool.false_eq_true, if_true, if_false, decide_eq_true_eq, omap_some, omap_none, op_add, op_sub, op_addt, cp_eq, cp_ne, cp_lt, cp_le, cp_gt, cp_ge, cp_isn, cp_notn, cp_inn, cp_nin, itemsP, ofO, Tg.put, Tg.puts, putAll, mkL_t, mkL_f, lim_0, lim_1, lim_2, lim_3, lim_4, lim_5, lim_6, lim_7, lim_8, nxP_nx, okP_ok, putS_eq, biW_int, biW_str, biW_tup, biW_lst, biW_bl, biW_non, biW_scr, biW_cel, biW_two, biG, peeks, biP, biL, int_mod, int_fdiv, List.all_cons, List.all_nil, Int.cast_ofNat_Int, Int.reduceEq, Int.reduceLT, Int.reduceLE, Int.reduceAdd, Int.reduceSub, Int.reduceNeg, eqP_int, nrP_nx, nrP_rt, leave_p, leave_nx, cut_self, k, isP, isPlace, leave_p, cut_self]
theorem letters_list : (("abcdefghijklmnopqrstuvwxyz" : Str)).cps.toList = letters := by decide +kernel
theorem mem_letters {c : Nat} : c ∈ letters ↔ 97 ≤ c ∧ c ≤ 122 := by
  constructor
  · intro h
    simp only [letters, List.mem_cons, List.not_mem_nil, or_false] at h
    omega
  · intro h
    have : ∀ k, k < 26 → k + 97 ∈ letters := by decide
    have := this (c - 97) (by omega)
    rwa [Nat.sub_add_cancel h.1] at this
theorem inStr_one {c : Nat} {s : Str} : inStr ⟨#[c]⟩ s = decide (c ∈ s.cps.toList) := by
  unfold inStr
  exact StrLaws.found_one s c
def isLet (c : Nat) : Bool := decide (97 ≤ c) && decide (c ≤ 122)
theorem isPlace_plc {c : Nat} : isPlace (plc c) = isLet c := by
  have l1 : (⟨#[c]⟩ : Str).length = 1 := rfl
  rw [plc, isPlace, l1, inStr_one, letters_list]
  simp only [mem_letters, decide_true, Bool.true_and]
  unfold isLet
  by_cases h1 : 97 ≤ c <;> by_cases h2 : c ≤ 122 <;> simp [h1, h2]
theorem fit_plc {c : Nat} : (plc c).fit = true := rfl
theorem eqP_plc {a b : Nat} : eqP (plc a) (plc b) = some (decide (a = b)) := by
  rw [plc, plc, eqP_str]
  congr 1
  by_cases h : a = b
  · subst h
    simp
  · have : (⟨#[a]⟩ : Str) ≠ ⟨#[b]⟩ := fun e => h (by simpa using e)
    simp [h, this]
theorem lt_one {a b : Nat} : ltStr ⟨#[a]⟩ ⟨#[b]⟩ = decide (a < b) := by
  unfold ltStr
  have : ([a] : List Nat) < [b] ↔ a < b := by
    rw [List.cons_lt_cons_iff]
    simp
  simp only [this]
theorem cost_ok {m : Nat} (hm : 3 ≤ m) {x : P} {st : Sto} (hx : x.fit = true) : MG.call m f_is_cost [.p x] st = .ok (.p (.bl (isWithin x 0 1000000))) st := by
  obtain ⟨n, rfl, hn⟩ := suc_of hm
  rw [call_eq fd_is_cost rfl rfl]
  have e1 := within_ok hn (lo := 0) (hi := 1000000) (st := st) hx
  simp only [d_is_cost, b_is_cost, Ss.ev, S.ev, E.ev, Es.ev, It.ev, bind_ok, bind_exc, bind_no, sr_ok, sr_exc, sr_no, Res.two, Res.one, peek_p, keep_p, keeps, tru_b, cx_call, cx_new, cx_glo, cx_sub, cx_dun, cx_inst, cx_fuel, start, List.map_cons, List.map_nil, List.length_cons, List.length_nil, List.reduceReplicate, List.cons_append, List.nil_append, List.getElem?_cons_zero, List.getElem?_cons_succ, List.set_cons_zero, List.set_cons_succ, Nat.reduceAdd, Nat.reduceSub, Nat.reduceLT, Nat.reduceEqDiff, decide_true, decide_false, notOwn, Bool.and_true, Bool.true_and, Bool.and_false, Bool.false_and, Bool.or_true, Bool.true_or, Bool.or_false, Bool.false_or, Bool.not_true, Bool.not_false, Bool.false_eq_true, if_true, if_false, decide_eq_true_eq, omap_some, omap_none, op_add, op_sub, op_addt, cp_eq, cp_ne, cp_lt, cp_le, cp_gt, cp_ge, cp_isn, cp_notn, cp_inn, cp_nin, itemsP, ofO, Tg.put, Tg.puts, putAll, mkL_t, mkL_f, lim_0, lim_1, lim_2, lim_3, lim_4, lim_5, lim_6, lim_7, lim_8, nxP_nx, okP_ok, putS_eq, biW_int, biW_str, biW_tup, biW_lst, biW_bl, biW_non, biW_scr, biW_cel, biW_two, biG, peeks, biP, biL, int_mod, int_fdiv, List.all_cons, List.all_nil, Int.cast_ofNat_Int, Int.reduceEq, Int.reduceLT, Int.reduceLE, Int.reduceAdd, Int.reduceSub, Int.reduceNeg, eqP_int, nrP_nx, nrP_rt, leave_p, leave_nx, cut_self, gl_MOST_COST, e1, leave_p, cut_self]
def ltP : P → P → Bool
  | .str a, .str b => ltStr a b
  | _, _ => false
def isRoad : P → Bool
  | .tup [a, b, c, d] => isPlace a && (isPlace b && (ltP a b && (isWithin c 0 1000000 && isWithin d 0 1000000)))
  | _ => false
theorem place_str {x : P} (h : isPlace x = true) : ∃ s, x = .str s := by
  cases x <;> first | exact ⟨_, rfl⟩ | cases h
theorem atI_0 {a b c d : P} : L2.atI [a, b, c, d] 0 = some a := rfl
theorem atI_1 {a b c d : P} : L2.atI [a, b, c, d] 1 = some b := rfl
theorem atI_2 {a b c d : P} : L2.atI [a, b, c, d] 2 = some c := rfl
theorem atI_3 {a b c d : P} : L2.atI [a, b, c, d] 3 = some d := rfl
theorem road_ok {m : Nat} (hm : 4 ≤ m) {x : P} {st : Sto} (hx : x.fit = true) : MG.call m f_is_road [.p x] st = .ok (.p (.bl (isRoad x))) st := by
  obtain ⟨n, rfl, hn⟩ := suc_of hm
  rw [call_eq fd_is_road rfl rfl]
  have k : kindP MG.inst x = true := fit_kind hx
  cases x with
  | tup xs =>
    rw [P.fit] at hx
    by_cases h4 : xs.length = 4
    · match xs, hx, h4 with
      | [a, b, c, d], hx, _ =>
        have ha := fits_mem hx (x := a) (by simp)
        have hb := fits_mem hx (x := b) (by simp)
        have hc := fits_mem hx (x := c) (by simp)
        have hd := fits_mem hx (x := d) (by simp)
        have pa := place_ok (m := n) (st := st) (by omega) ha
        have pb := place_ok (m := n) (st := st) (by omega) hb
        have pc := cost_ok (m := n) (st := st) hn hc
        have pd := cost_ok (m := n) (st := st) hn hd
        have h4 : ((4 : Nat) : Int) = 4 := rfl
        cases qa : isPlace a with
        | false => simp only [d_is_road, b_is_road, Ss.ev, S.ev, E.ev, Es.ev, It.ev, bind_ok, bind_exc, bind_no, sr_ok, sr_exc, sr_no, Res.two, Res.one, peek_p, keep_p, keeps, tru_b, cx_call, cx_new, cx_glo, cx_sub, cx_dun, cx_inst, cx_fuel, start, List.map_cons, List.map_nil, List.length_cons, List.length_nil, List.reduceReplicate, List.cons_append, List.nil_append, List.getElem?_cons_zero, List.getElem?_cons_succ, List.set_cons_zero, List.set_cons_succ, Nat.reduceAdd, Nat.reduceSub, Nat.reduceLT, Nat.reduceEqDiff, decide_true, decide_false, notOwn, Bool.and_true, Bool.true_and, Bool.and_false, Bool.false_and, Bool.or_true, Bool.true_or, Bool.or_false, Bool.false_or, Bool.not_true, Bool.not_false, Bool.false_eq_true, if_true, if_false, decide_eq_true_eq, omap_some, omap_none, op_add, op_sub, op_addt, cp_eq, cp_ne, cp_lt, cp_le, cp_gt, cp_ge, cp_isn, cp_notn, cp_inn, cp_nin, itemsP, ofO, Tg.put, Tg.puts, putAll, mkL_t, mkL_f, lim_0, lim_1, lim_2, lim_3, lim_4, lim_5, lim_6, lim_7, lim_8, nxP_nx, okP_ok, putS_eq, biW_int, biW_str, biW_tup, biW_lst, biW_bl, biW_non, biW_scr, biW_cel, biW_two, biG, peeks, biP, biL, int_mod, int_fdiv, List.all_cons, List.all_nil, Int.cast_ofNat_Int, Int.reduceEq, Int.reduceLT, Int.reduceLE, Int.reduceAdd, Int.reduceSub, Int.reduceNeg, eqP_int, nrP_nx, nrP_rt, leave_p, leave_nx, cut_self, k, isP, lenP, h4, eqP_int, ixP, atI_0, pa, qa, isRoad, leave_p, cut_self]
        | true =>
          cases qb : isPlace b with
          | false => simp only [d_is_road, b_is_road, Ss.ev, S.ev, E.ev, Es.ev, It.ev, bind_ok, bind_exc, bind_no, sr_ok, sr_exc, sr_no, Res.two, Res.one, peek_p, keep_p, keeps, tru_b, cx_call, cx_new, cx_glo, cx_sub, cx_dun, cx_inst, cx_fuel, start, List.map_cons, List.map_nil, List.length_cons, List.length_nil, List.reduceReplicate, List.cons_append, List.nil_append, List.getElem?_cons_zero, List.getElem?_cons_succ, List.set_cons_zero, List.set_cons_succ, Nat.reduceAdd, Nat.reduceSub, Nat.reduceLT, Nat.reduceEqDiff, decide_true, decide_false, notOwn, Bool.and_true, Bool.true_and, Bool.and_false, Bool.false_and, Bool.or_true, Bool.true_or, Bool.or_false, Bool.false_or, Bool.not_true, Bool.not_false, Bool.false_eq_true, if_true, if_false, decide_eq_true_eq, omap_some, omap_none, op_add, op_sub, op_addt, cp_eq, cp_ne, cp_lt, cp_le, cp_gt, cp_ge, cp_isn, cp_notn, cp_inn, cp_nin, itemsP, ofO, Tg.put, Tg.puts, putAll, mkL_t, mkL_f, lim_0, lim_1, lim_2, lim_3, lim_4, lim_5, lim_6, lim_7, lim_8, nxP_nx, okP_ok, putS_eq, biW_int, biW_str, biW_tup, biW_lst, biW_bl, biW_non, biW_scr, biW_cel, biW_two, biG, peeks, biP, biL, int_mod, int_fdiv, List.all_cons, List.all_nil, Int.cast_ofNat_Int, Int.reduceEq, Int.reduceLT, Int.reduceLE, Int.reduceAdd, Int.reduceSub, Int.reduceNeg, eqP_int, nrP_nx, nrP_rt, leave_p, leave_nx, cut_self, k, isP, lenP, h4, eqP_int, ixP, atI_0, atI_1, pa, pb, qa, qb, isRoad, leave_p, cut_self]
          | true =>
            obtain ⟨s, rfl⟩ := place_str qa
            obtain ⟨t, rfl⟩ := place_str qb
            cases ql : ltStr s t with
            | false => simp only [d_is_road, b_is_road, Ss.ev, S.ev, E.ev, Es.ev, It.ev, bind_ok, bind_exc, bind_no, sr_ok, sr_exc, sr_no, Res.two, Res.one, peek_p, keep_p, keeps, tru_b, cx_call, cx_new, cx_glo, cx_sub, cx_dun, cx_inst, cx_fuel, start, List.map_cons, List.map_nil, List.length_cons, List.length_nil, List.reduceReplicate, List.cons_append, List.nil_append, List.getElem?_cons_zero, List.getElem?_cons_succ, List.set_cons_zero, List.set_cons_succ, Nat.reduceAdd, Nat.reduceSub, Nat.reduceLT, Nat.reduceEqDiff, decide_true, decide_false, notOwn, Bool.and_true, Bool.true_and, Bool.and_false, Bool.false_and, Bool.or_true, Bool.true_or, Bool.or_false, Bool.false_or, Bool.not_true, Bool.not_false, Bool.false_eq_true, if_true, if_false, decide_eq_true_eq, omap_some, omap_none, op_add, op_sub, op_addt, cp_eq, cp_ne, cp_lt, cp_le, cp_gt, cp_ge, cp_isn, cp_notn, cp_inn, cp_nin, itemsP, ofO, Tg.put, Tg.puts, putAll, mkL_t, mkL_f, lim_0, lim_1, lim_2, lim_3, lim_4, lim_5, lim_6, lim_7, lim_8, nxP_nx, okP_ok, putS_eq, biW_int, biW_str, biW_tup, biW_lst, biW_bl, biW_non, biW_scr, biW_cel, biW_two, biG, peeks, biP, biL, int_mod, int_fdiv, List.all_cons, List.all_nil, Int.cast_ofNat_Int, Int.reduceEq, Int.reduceLT, Int.reduceLE, Int.reduceAdd, Int.reduceSub, Int.reduceNeg, eqP_int, nrP_nx, nrP_rt, leave_p, leave_nx, cut_self, k, isP, lenP, h4, eqP_int, ixP, atI_0, atI_1, pa, pb, qa, qb, cp_lts, ql, isRoad, ltP, leave_p, cut_self]
            | true =>
              cases qc : isWithin c 0 1000000 with
              | false => simp only [d_is_road, b_is_road, Ss.ev, S.ev, E.ev, Es.ev, It.ev, bind_ok, bind_exc, bind_no, sr_ok, sr_exc, sr_no, Res.two, Res.one, peek_p, keep_p, keeps, tru_b, cx_call, cx_new, cx_glo, cx_sub, cx_dun, cx_inst, cx_fuel, start, List.map_cons, List.map_nil, List.length_cons, List.length_nil, List.reduceReplicate, List.cons_append, List.nil_append, List.getElem?_cons_zero, List.getElem?_cons_succ, List.set_cons_zero, List.set_cons_succ, Nat.reduceAdd, Nat.reduceSub, Nat.reduceLT, Nat.reduceEqDiff, decide_true, decide_false, notOwn, Bool.and_true, Bool.true_and, Bool.and_false, Bool.false_and, Bool.or_true, Bool.true_or, Bool.or_false, Bool.false_or, Bool.not_true, Bool.not_false, Bool.false_eq_true, if_true, if_false, decide_eq_true_eq, omap_some, omap_none, op_add, op_sub, op_addt, cp_eq, cp_ne, cp_lt, cp_le, cp_gt, cp_ge, cp_isn, cp_notn, cp_inn, cp_nin, itemsP, ofO, Tg.put, Tg.puts, putAll, mkL_t, mkL_f, lim_0, lim_1, lim_2, lim_3, lim_4, lim_5, lim_6, lim_7, lim_8, nxP_nx, okP_ok, putS_eq, biW_int, biW_str, biW_tup, biW_lst, biW_bl, biW_non, biW_scr, biW_cel, biW_two, biG, peeks, biP, biL, int_mod, int_fdiv, List.all_cons, List.all_nil, Int.cast_ofNat_Int, Int.reduceEq, Int.reduceLT, Int.reduceLE, Int.reduceAdd, Int.reduceSub, Int.reduceNeg, eqP_int, nrP_nx, nrP_rt, leave_p, leave_nx, cut_self, k, isP, lenP, h4, eqP_int, ixP, atI_0, atI_1, atI_2, pa, pb, pc, qa, qb, qc, cp_lts, ql, isRoad, ltP, leave_p, cut_self]
              | true => simp only [d_is_road, b_is_road, Ss.ev, S.ev, E.ev, Es.ev, It.ev, bind_ok, bind_exc, bind_no, sr_ok, sr_exc, sr_no, Res.two, Res.one, peek_p, keep_p, keeps, tru_b, cx_call, cx_new, cx_glo, cx_sub, cx_dun, cx_inst, cx_fuel, start, List.map_cons, List.map_nil, List.length_cons, List.length_nil, List.reduceReplicate, List.cons_append, List.nil_append, List.getElem?_cons_zero, List.getElem?_cons_succ, List.set_cons_zero, List.set_cons_succ, Nat.reduceAdd, Nat.reduceSub, Nat.reduceLT, Nat.reduceEqDiff, decide_true, decide_false, notOwn, Bool.and_true, Bool.true_and, Bool.and_false, Bool.false_and, Bool.or_true, Bool.true_or, Bool.or_false, Bool.false_or, Bool.not_true, Bool.not_false, Bool.false_eq_true, if_true, if_false, decide_eq_true_eq, omap_some, omap_none, op_add, op_sub, op_addt, cp_eq, cp_ne, cp_lt, cp_le, cp_gt, cp_ge, cp_isn, cp_notn, cp_inn, cp_nin, itemsP, ofO, Tg.put, Tg.puts, putAll, mkL_t, mkL_f, lim_0, lim_1, lim_2, lim_3, lim_4, lim_5, lim_6, lim_7, lim_8, nxP_nx, okP_ok, putS_eq, biW_int, biW_str, biW_tup, biW_lst, biW_bl, biW_non, biW_scr, biW_cel, biW_two, biG, peeks, biP, biL, int_mod, int_fdiv, List.all_cons, List.all_nil, Int.cast_ofNat_Int, Int.reduceEq, Int.reduceLT, Int.reduceLE, Int.reduceAdd, Int.reduceSub, Int.reduceNeg, eqP_int, nrP_nx, nrP_rt, leave_p, leave_nx, cut_self, k, isP, lenP, h4, eqP_int, ixP, atI_0, atI_1, atI_2, atI_3, pa, pb, pc, pd, qa, qb, qc, cp_lts, ql, isRoad, ltP, leave_p, cut_self]
    · have hz : ¬ ((xs.length : Int) = 4) := by omega
      have hr : isRoad (.tup xs) = false := by
        unfold isRoad
        split
        · rename_i e
          cases e
          exact absurd rfl h4
        · rfl
      simp only [d_is_road, b_is_road, Ss.ev, S.ev, E.ev, Es.ev, It.ev, bind_ok, bind_exc, bind_no, sr_ok, sr_exc, sr_no, Res.two, Res.one, peek_p, keep_p, keeps, tru_b, cx_call, cx_new, cx_glo, cx_sub, cx_dun, cx_inst, cx_fuel, start, List.map_cons, List.map_nil, List.length_cons, List.length_nil, List.reduceReplicate, List.cons_append, List.nil_append, List.getElem?_cons_zero, List.getElem?_cons_succ, List.set_cons_zero, List.set_cons_succ, Nat.reduceAdd, Nat.reduceSub, Nat.reduceLT, Nat.reduceEqDiff, decide_true, decide_false, notOwn, Bool.and_true, Bool.true_and, Bool.and_false, Bool.false_and, Bool.or_true, Bool.true_or, Bool.or_false, Bool.false_or, Bool.not_true, Bool.not_false, Bool.false_eq_true, if_true, if_false, decide_eq_true_eq, omap_some, omap_none, op_add, op_sub, op_addt, cp_eq, cp_ne, cp_lt, cp_le, cp_gt, cp_ge, cp_isn, cp_notn, cp_inn, cp_nin, itemsP, ofO, Tg.put, Tg.puts, putAll, mkL_t, mkL_f, lim_0, lim_1, lim_2, lim_3, lim_4, lim_5, lim_6, lim_7, lim_8, nxP_nx, okP_ok, putS_eq, biW_int, biW_str, biW_tup, biW_lst, biW_bl, biW_non, biW_scr, biW_cel, biW_two, biG, peeks, biP, biL, int_mod, int_fdiv, List.all_cons, List.all_nil, Int.cast_ofNat_Int, Int.reduceEq, Int.reduceLT, Int.reduceLE, Int.reduceAdd, Int.reduceSub, Int.reduceNeg, eqP_int, nrP_nx, nrP_rt, leave_p, leave_nx, cut_self, k, isP, lenP, hz, hr]
  | _ => simp only [d_is_road, b_is_road, Ss.ev, S.ev, E.ev, Es.ev, It.ev, bind_ok, bind_exc, bind_no, sr_ok, sr_exc, sr_no, Res.two, Res.one, peek_p, keep_p, keeps, tru_b, cx_call, cx_new, cx_glo, cx_sub, cx_dun, cx_inst, cx_fuel, start, List.map_cons, List.map_nil, List.length_cons, List.length_nil, List.reduceReplicate, List.cons_append, List.nil_append, List.getElem?_cons_zero, List.getElem?_cons_succ, List.set_cons_zero, List.set_cons_succ, Nat.reduceAdd, Nat.reduceSub, Nat.reduceLT, Nat.reduceEqDiff, decide_true, decide_false, notOwn, Bool.and_true, Bool.true_and, Bool.and_false, Bool.false_and, Bool.or_true, Bool.true_or, Bool.or_false, Bool.false_or, Bool.not_true, Bool.not_false, Bool.false_eq_true, if_true, if_false, decide_eq_true_eq, omap_some, omap_none, op_add, op_sub, op_addt, cp_eq, cp_ne, cp_lt, cp_le, cp_gt, cp_ge, cp_isn, cp_notn, cp_inn, cp_nin, itemsP, ofO, Tg.put, Tg.puts, putAll, mkL_t, mkL_f, lim_0, lim_1, lim_2, lim_3, lim_4, lim_5, lim_6, lim_7, lim_8, nxP_nx, okP_ok, putS_eq, biW_int, biW_str, biW_tup, biW_lst, biW_bl, biW_non, biW_scr, biW_cel, biW_two, biG, peeks, biP, biL, int_mod, int_fdiv, List.all_cons, List.all_nil, Int.cast_ofNat_Int, Int.reduceEq, Int.reduceLT, Int.reduceLE, Int.reduceAdd, Int.reduceSub, Int.reduceNeg, eqP_int, nrP_nx, nrP_rt, leave_p, leave_nx, cut_self, k, isP, isRoad, leave_p, cut_self]
structure Rd where
  a : Nat
  b : Nat
  base : Int
  rise : Int
  deriving DecidableEq, Inhabited
def rdP (r : Rd) : P := .tup [plc r.a, plc r.b, .int r.base, .int r.rise]
structure RdOk (r : Rd) : Prop where
  la : 97 ≤ r.a
  lt : r.a < r.b
  lb : r.b ≤ 122
  b0 : 0 ≤ r.base
  b1 : r.base ≤ 1000000
  r0 : 0 ≤ r.rise
  r1 : r.rise ≤ 1000000
theorem fit_rd {r : Rd} : (rdP r).fit = true := rfl
theorem isRoad_rd {r : Rd} (h : RdOk r) : isRoad (rdP r) = true := by
  rw [rdP, isRoad, isPlace_plc, isPlace_plc]
  have e1 : isLet r.a = true := by
    have := h.la; have := h.lt; have := h.lb
    simp only [isLet, Bool.and_eq_true, decide_eq_true_eq]
    omega
  have e2 : isLet r.b = true := by
    have := h.la; have := h.lt; have := h.lb
    simp only [isLet, Bool.and_eq_true, decide_eq_true_eq]
    omega
  have e3 : ltP (plc r.a) (plc r.b) = true := by
    show ltStr ⟨#[r.a]⟩ ⟨#[r.b]⟩ = true
    rw [lt_one]
    exact decide_eq_true h.lt
  simp only [e1, e2, e3, isWithin, h.b0, h.b1, h.r0, h.r1, decide_true, Bool.and_self]
end Z.U

namespace Z.U
open PySem

/-- the other end of a road -/
def farE (r : Rd) (p : Nat) : Option Nat := if r.a = p then some r.b else if r.b = p then some r.a else none
def opP' : Option Nat → P
  | some c => plc c
  | none => .non
theorem far_ok {m : Nat} (hm : 1 ≤ m) {r : Rd} {p : Nat} {st : Sto} : MG.call m f_far_end [.p (rdP r), .p (plc p)] st = .ok (.p (opP' (farE r p))) st := by
  obtain ⟨n, rfl, hn⟩ := suc_of hm
  rw [call_eq fd_far_end rfl rfl]
  have i0 : ixP (rdP r) (.int 0) = some (plc r.a) := rfl
  have i1 : ixP (rdP r) (.int 1) = some (plc r.b) := rfl
  by_cases h1 : r.a = p
  · simp only [d_far_end, b_far_end, Ss.ev, S.ev, E.ev, Es.ev, It.ev, bind_ok, bind_exc, bind_no, sr_ok, sr_exc, sr_no, Res.two, Res.one, peek_p, keep_p, keeps, tru_b, cx_call, cx_new, cx_glo, cx_sub, cx_dun, cx_inst, cx_fuel, start, List.map_cons, List.map_nil, List.length_cons, List.length_nil, List.reduceReplicate, List.cons_append, List.nil_append, List.getElem?_cons_zero, List.getElem?_cons_succ, List.set_cons_zero, List.set_cons_succ, Nat.reduceAdd, Nat.reduceSub, Nat.reduceLT, Nat.reduceEqDiff, decide_true, decide_false, notOwn, Bool.and_true, Bool.true_and, Bool.and_false, Bool.false_and, Bool.or_true, Bool.true_or, Bool.or_false, Bool.false_or, Bool.not_true, Bool.not_false, Bool.false_eq_true, if_true, if_false, decide_eq_true_eq, omap_some, omap_none, op_add, op_sub, op_addt, cp_eq, cp_ne, cp_lt, cp_le, cp_gt, cp_ge, cp_isn, cp_notn, cp_inn, cp_nin, itemsP, ofO, Tg.put, Tg.puts, putAll, mkL_t, mkL_f, lim_0, lim_1, lim_2, lim_3, lim_4, lim_5, lim_6, lim_7, lim_8, nxP_nx, okP_ok, putS_eq, biW_int, biW_str, biW_tup, biW_lst, biW_bl, biW_non, biW_scr, biW_cel, biW_two, biG, peeks, biP, biL, int_mod, int_fdiv, List.all_cons, List.all_nil, Int.cast_ofNat_Int, Int.reduceEq, Int.reduceLT, Int.reduceLE, Int.reduceAdd, Int.reduceSub, Int.reduceNeg, eqP_int, nrP_nx, nrP_rt, leave_p, leave_nx, cut_self, i0, i1, eqP_plc, h1, farE, opP']
  · by_cases h2 : r.b = p
    · simp only [d_far_end, b_far_end, Ss.ev, S.ev, E.ev, Es.ev, It.ev, bind_ok, bind_exc, bind_no, sr_ok, sr_exc, sr_no, Res.two, Res.one, peek_p, keep_p, keeps, tru_b, cx_call, cx_new, cx_glo, cx_sub, cx_dun, cx_inst, cx_fuel, start, List.map_cons, List.map_nil, List.length_cons, List.length_nil, List.reduceReplicate, List.cons_append, List.nil_append, List.getElem?_cons_zero, List.getElem?_cons_succ, List.set_cons_zero, List.set_cons_succ, Nat.reduceAdd, Nat.reduceSub, Nat.reduceLT, Nat.reduceEqDiff, decide_true, decide_false, notOwn, Bool.and_true, Bool.true_and, Bool.and_false, Bool.false_and, Bool.or_true, Bool.true_or, Bool.or_false, Bool.false_or, Bool.not_true, Bool.not_false, Bool.false_eq_true, if_true, if_false, decide_eq_true_eq, omap_some, omap_none, op_add, op_sub, op_addt, cp_eq, cp_ne, cp_lt, cp_le, cp_gt, cp_ge, cp_isn, cp_notn, cp_inn, cp_nin, itemsP, ofO, Tg.put, Tg.puts, putAll, mkL_t, mkL_f, lim_0, lim_1, lim_2, lim_3, lim_4, lim_5, lim_6, lim_7, lim_8, nxP_nx, okP_ok, putS_eq, biW_int, biW_str, biW_tup, biW_lst, biW_bl, biW_non, biW_scr, biW_cel, biW_two, biG, peeks, biP, biL, int_mod, int_fdiv, List.all_cons, List.all_nil, Int.cast_ofNat_Int, Int.reduceEq, Int.reduceLT, Int.reduceLE, Int.reduceAdd, Int.reduceSub, Int.reduceNeg, eqP_int, nrP_nx, nrP_rt, leave_p, leave_nx, cut_self, i0, i1, eqP_plc, h1, h2, farE, opP']
    · simp only [d_far_end, b_far_end, Ss.ev, S.ev, E.ev, Es.ev, It.ev, bind_ok, bind_exc, bind_no, sr_ok, sr_exc, sr_no, Res.two, Res.one, peek_p, keep_p, keeps, tru_b, cx_call, cx_new, cx_glo, cx_sub, cx_dun, cx_inst, cx_fuel, start, List.map_cons, List.map_nil, List.length_cons, List.length_nil, List.reduceReplicate, List.cons_append, List.nil_append, List.getElem?_cons_zero, List.getElem?_cons_succ, List.set_cons_zero, List.set_cons_succ, Nat.reduceAdd, Nat.reduceSub, Nat.reduceLT, Nat.reduceEqDiff, decide_true, decide_false, notOwn, Bool.and_true, Bool.true_and, Bool.and_false, Bool.false_and, Bool.or_true, Bool.true_or, Bool.or_false, Bool.false_or, Bool.not_true, Bool.not_false, Bool.false_eq_true, if_true, if_false, decide_eq_true_eq, omap_some, omap_none, op_add, op_sub, op_addt, cp_eq, cp_ne, cp_lt, cp_le, cp_gt, cp_ge, cp_isn, cp_notn, cp_inn, cp_nin, itemsP, ofO, Tg.put, Tg.puts, putAll, mkL_t, mkL_f, lim_0, lim_1, lim_2, lim_3, lim_4, lim_5, lim_6, lim_7, lim_8, nxP_nx, okP_ok, putS_eq, biW_int, biW_str, biW_tup, biW_lst, biW_bl, biW_non, biW_scr, biW_cel, biW_two, biG, peeks, biP, biL, int_mod, int_fdiv, List.all_cons, List.all_nil, Int.cast_ofNat_Int, Int.reduceEq, Int.reduceLT, Int.reduceLE, Int.reduceAdd, Int.reduceSub, Int.reduceNeg, eqP_int, nrP_nx, nrP_rt, leave_p, leave_nx, cut_self, i0, i1, eqP_plc, h1, h2, farE, opP']
def ixs (k : Nat) : P := .int (k : Nat)
def wyP (w : List Nat) : P := .tup (w.map ixs)
def plS (pl : List Nat) : Str := ⟨pl.toArray⟩
abbrev Nd := List Nat × List Nat
def ndP (q : Nd) : P := .tup [wyP q.1, .str (plS q.2)]
def rdsP (rs : List Rd) : P := .tup (rs.map rdP)
theorem plS_app {a b : List Nat} : plS a ++ plS b = plS (a ++ b) := by
  show (⟨a.toArray ++ b.toArray⟩ : Str) = _
  simp [plS]
theorem plS_one {c : Nat} : plc c = .str (plS [c]) := rfl
theorem plS_len {a : List Nat} : (plS a).length = a.length := by
  show a.toArray.size = _
  simp
theorem cl_wy {w : List Nat} {n : Nat} : (wyP w).cl (n + 1) = true := by
  rw [wyP, P.cl]
  induction w with
  | nil => rfl
  | cons x w ih =>
    rw [List.map_cons, P.cls, ih]
    cases n <;> rfl
theorem cl_nd {q : Nd} : (ndP q).cl 2 = true := by
  rw [ndP, P.cl, P.cls, cl_wy]
  rfl
theorem cls_map {α : Type} {e : α → P} {n : Nat} (h : ∀ a, (e a).cl n = true) : ∀ l : List α, P.cls n (l.map e) = true
  | [] => by cases n <;> rfl
  | a :: l => by rw [List.map_cons, P.cls, h a, cls_map h l]; rfl
theorem eqP_optg {x : Option Nat} {g : Nat} : eqP (opP' x) (plc g) = some (decide (x = some g)) := by
  cases x with
  | none =>
    rw [opP', eqP_ne (n := 0) rfl rfl (fun e => by cases e)]
    simp
  | some c =>
    rw [opP', eqP_plc]
    simp
theorem isNon_opt {x : Option Nat} : isNon (opP' x) = x.isNone := by cases x <;> rfl
theorem last_ix {pl : List Nat} {p : Nat} (h : pl.getLast? = some p) (hl : lim pl.length = true) : ixP (.str (plS pl)) (.int (-1)) = some (plc p) := by
  have e : (plS pl).cps.toList = pl := by simp [plS]
  have hn : pl ≠ [] := fun e => by rw [e] at h; cases h
  have hp : 0 < pl.length := List.length_pos_iff.mpr hn
  rw [ixP, plS_len, hl, if_pos rfl, e]
  have : L2.atI pl (-1) = some p := by
    unfold L2.atI L2.ixN
    rw [if_neg (by omega), if_pos (by omega)]
    show pl[((-1 : Int) + (pl.length : Nat)).toNat]? = _
    have e2 : ((-1 : Int) + (pl.length : Nat)).toNat = pl.length - 1 := by omega
    rw [e2, ← List.getLast?_eq_getElem?, h]
  rw [this]
  rfl
theorem inStr_pl {c : Nat} {pl : List Nat} : inStr ⟨#[c]⟩ (plS pl) = decide (c ∈ pl) := by
  rw [inStr_one, Bool.eq_iff_iff, decide_eq_true_eq, decide_eq_true_eq]
  simp [plS]
section
variable (g : Nat) (rs : List Rd)
inductive Kid
  | hit (w : List Nat)
  | push (q : Nd)
  | dead
def kid (q : Nd) (i : Nat) : Kid := match rs[i]? with
  | none => .dead
  | some r => match q.2.getLast? with
    | none => .dead
    | some p => match farE r p with
      | none => .dead
      | some c => if c = g then .hit (q.1 ++ [i]) else if c ∈ q.2 then .dead else .push (q.1 ++ [i], q.2 ++ [c])
def Kid.hits : Kid → Option (List Nat)
  | .hit w => some w
  | _ => none
def Kid.pushes : Kid → Option Nd
  | .push q => some q
  | _ => none
def hitsL (q : Nd) (is : List Nat) : List (List Nat) := is.filterMap fun i => (kid g rs q i).hits
def pushL (q : Nd) (is : List Nat) : List Nd := is.filterMap fun i => (kid g rs q i).pushes
end
def stW (found : List (List Nat)) (stack : List Nd) (ob : List (Nat × List P)) : Sto := ⟨[⟨found.map wyP, false⟩, ⟨stack.map ndP, false⟩], ob⟩
theorem wy_app {w : List Nat} {i : Nat} : P.tup (w.map ixs ++ [.int (i : Nat)]) = wyP (w ++ [i]) := by
  rw [wyP, List.map_append]
  rfl
theorem ways_for {n : Nat} (hn : 1 ≤ n) {o g : Nat} {rs : List Rd} {q : Nd} {ob : List (Nat × List P)} (hq : q.2 ≠ []) (hl : q.1.length + q.2.length ≤ 1000) (hr : rs.length ≤ 1000) {found : List (List Nat)} {stack : List Nd} (hf : found.length + stack.length ≤ 1000000)
    {δ5 δ8 : Option W} : ∃ δ5' δ8', forR (.n 5) (fun δ st => (Ss.cons (.set (.n 8) (.call f_far_end (.cons (.ix (.v 2) (.v 5)) (.cons (.ix (.v 7) (.neg (.int 1))) .nil)))) (.cons (.ife (.cmp .eq (.v 8) (.v 1)) (.cons (.ex (.lm .append (.v 3) (.cons (.op .add (.v 6) (.tup (.cons (.v 5) .nil))) .nil))) .nil) (.cons (.ife (.and (.cmp .notn (.v 8) .non) (.cmp .nin (.v 8) (.v 7))) (.cons (.ex (.lm .append (.v 4) (.cons (.tup (.cons (.op .add (.v 6) (.tup (.cons (.v 5) .nil))) (.cons (.op .add (.v 7) (.v 8)) .nil))) .nil))) .nil) .nil) .nil)) .nil)).ev (Cn n) δ st)
      ((List.range rs.length).map ixs) [some (.p (plc o)), some (.p (plc g)), some (.p (rdsP rs)), some (.cel 0), some (.cel 1), δ5, some (.p (wyP q.1)), some (.p (.str (plS q.2))), δ8] (stW found stack ob) =
    .nx [some (.p (plc o)), some (.p (plc g)), some (.p (rdsP rs)), some (.cel 0), some (.cel 1), δ5', some (.p (wyP q.1)), some (.p (.str (plS q.2))), δ8'] (stW (found ++ hitsL g rs q (List.range rs.length)) (stack ++ pushL g rs q (List.range rs.length)) ob) := by
  obtain ⟨p, hp⟩ : ∃ p, q.2.getLast? = some p := by
    cases e : q.2.getLast? with
    | none => exact absurd (List.getLast?_eq_none_iff.mp e) hq
    | some p => exact ⟨p, rfl⟩
  have hix := last_ix hp (lim_of (by omega))
  have := forR_pre (e := ixs) (tg := .n 5) (body := fun δ st => (Ss.cons (.set (.n 8) (.call f_far_end (.cons (.ix (.v 2) (.v 5)) (.cons (.ix (.v 7) (.neg (.int 1))) .nil)))) (.cons (.ife (.cmp .eq (.v 8) (.v 1)) (.cons (.ex (.lm .append (.v 3) (.cons (.op .add (.v 6) (.tup (.cons (.v 5) .nil))) .nil))) .nil) (.cons (.ife (.and (.cmp .notn (.v 8) .non) (.cmp .nin (.v 8) (.v 7))) (.cons (.ex (.lm .append (.v 4) (.cons (.tup (.cons (.op .add (.v 6) (.tup (.cons (.v 5) .nil))) (.cons (.op .add (.v 7) (.v 8)) .nil))) .nil))) .nil) .nil) .nil)) .nil)).ev (Cn n) δ st)
    (List.range rs.length) (fun done δ st => done.length ≤ rs.length ∧ ∃ δ5' δ8', δ = [some (.p (plc o)), some (.p (plc g)), some (.p (rdsP rs)), some (.cel 0), some (.cel 1), δ5', some (.p (wyP q.1)), some (.p (.str (plS q.2))), δ8'] ∧ st = stW (found ++ hitsL g rs q done) (stack ++ pushL g rs q done) ob)
    (δ := [some (.p (plc o)), some (.p (plc g)), some (.p (rdsP rs)), some (.cel 0), some (.cel 1), δ5, some (.p (wyP q.1)), some (.p (.str (plS q.2))), δ8]) (st := stW found stack ob) ⟨Nat.zero_le _, δ5, δ8, rfl, by simp [hitsL, pushL]⟩ ?_
  · obtain ⟨δ', st', e, _, a, b, rfl, rfl⟩ := this
    exact ⟨a, b, e⟩
  · rintro done i rest _ _ hd ⟨hdl, a, b, rfl, rfl⟩
    have hi : i < rs.length := by
      have : i ∈ List.range rs.length := by rw [hd]; simp
      exact List.mem_range.mp this
    have hdl2 : done.length + 1 ≤ rs.length := by
      have := congrArg List.length hd
      simp at this
      omega
    obtain ⟨r, hri⟩ : ∃ r, rs[i]? = some r := ⟨rs[i], List.getElem?_eq_getElem hi⟩
    have ir : ixP (rdsP rs) (ixs i) = some (rdP r) := by
      show L2.atI (rs.map rdP) (i : Nat) = _
      apply atI_nat
      rw [List.getElem?_map, hri]
      rfl
    have fe := far_ok hn (r := r) (p := p) (st := stW (found ++ hitsL g rs q done) (stack ++ pushL g rs q done) ob)
    have hh : hitsL g rs q (done ++ [i]) = hitsL g rs q done ++ (kid g rs q i).hits.toList := by
      simp only [hitsL, List.filterMap_append, List.filterMap_cons, List.filterMap_nil]
      cases (kid g rs q i).hits <;> rfl
    have hpu : pushL g rs q (done ++ [i]) = pushL g rs q done ++ (kid g rs q i).pushes.toList := by
      simp only [pushL, List.filterMap_append, List.filterMap_cons, List.filterMap_nil]
      cases (kid g rs q i).pushes <;> rfl
    have l1 : (hitsL g rs q done).length ≤ done.length := List.length_filterMap_le _ _
    have l2 : (pushL g rs q done).length ≤ done.length := List.length_filterMap_le _ _
    have hk : kid g rs q i = match farE r p with
      | none => .dead
      | some c => if c = g then .hit (q.1 ++ [i]) else if c ∈ q.2 then .dead else .push (q.1 ++ [i], q.2 ++ [c]) := by
      unfold kid
      rw [hri]
      dsimp only
      rw [hp]
    have w1 : opP .add (wyP q.1) (.tup [ixs i]) = some (wyP (q.1 ++ [i])) := by
      rw [wyP, op_addt (lim_of (by simp; omega))]
      rw [wyP, List.map_append]
      rfl
    rw [hh, hpu, hk]
    simp only [Ss.ev, S.ev, E.ev, Es.ev, It.ev, bind_ok, bind_exc, bind_no, sr_ok, sr_exc, sr_no, Res.two, Res.one, peek_p, keep_p, keeps, tru_b, cx_call, cx_new, cx_glo, cx_sub, cx_dun, cx_inst, cx_fuel, start, List.map_cons, List.map_nil, List.length_cons, List.length_nil, List.reduceReplicate, List.cons_append, List.nil_append, List.getElem?_cons_zero, List.getElem?_cons_succ, List.set_cons_zero, List.set_cons_succ, Nat.reduceAdd, Nat.reduceSub, Nat.reduceLT, Nat.reduceEqDiff, decide_true, decide_false, notOwn, Bool.and_true, Bool.true_and, Bool.and_false, Bool.false_and, Bool.or_true, Bool.true_or, Bool.or_false, Bool.false_or, Bool.not_true, Bool.not_false, Bool.false_eq_true, if_true, if_false, decide_eq_true_eq, omap_some, omap_none, op_add, op_sub, op_addt, cp_eq, cp_ne, cp_lt, cp_le, cp_gt, cp_ge, cp_isn, cp_notn, cp_inn, cp_nin, itemsP, ofO, Tg.put, Tg.puts, putAll, mkL_t, mkL_f, lim_0, lim_1, lim_2, lim_3, lim_4, lim_5, lim_6, lim_7, lim_8, nxP_nx, okP_ok, putS_eq, biW_int, biW_str, biW_tup, biW_lst, biW_bl, biW_non, biW_scr, biW_cel, biW_two, biG, peeks, biP, biL, int_mod, int_fdiv, List.all_cons, List.all_nil, Int.cast_ofNat_Int, Int.reduceEq, Int.reduceLT, Int.reduceLE, Int.reduceAdd, Int.reduceSub, Int.reduceNeg, eqP_int, nrP_nx, nrP_rt, leave_p, leave_nx, cut_self, ir, hix, fe, eqP_optg]
    cases hfe : farE r p with
    | none =>
      simp only [Ss.ev, S.ev, E.ev, Es.ev, It.ev, bind_ok, bind_exc, bind_no, sr_ok, sr_exc, sr_no, Res.two, Res.one, peek_p, keep_p, keeps, tru_b, cx_call, cx_new, cx_glo, cx_sub, cx_dun, cx_inst, cx_fuel, start, List.map_cons, List.map_nil, List.length_cons, List.length_nil, List.reduceReplicate, List.cons_append, List.nil_append, List.getElem?_cons_zero, List.getElem?_cons_succ, List.set_cons_zero, List.set_cons_succ, Nat.reduceAdd, Nat.reduceSub, Nat.reduceLT, Nat.reduceEqDiff, decide_true, decide_false, notOwn, Bool.and_true, Bool.true_and, Bool.and_false, Bool.false_and, Bool.or_true, Bool.true_or, Bool.or_false, Bool.false_or, Bool.not_true, Bool.not_false, Bool.false_eq_true, if_true, if_false, decide_eq_true_eq, omap_some, omap_none, op_add, op_sub, op_addt, cp_eq, cp_ne, cp_lt, cp_le, cp_gt, cp_ge, cp_isn, cp_notn, cp_inn, cp_nin, itemsP, ofO, Tg.put, Tg.puts, putAll, mkL_t, mkL_f, lim_0, lim_1, lim_2, lim_3, lim_4, lim_5, lim_6, lim_7, lim_8, nxP_nx, okP_ok, putS_eq, biW_int, biW_str, biW_tup, biW_lst, biW_bl, biW_non, biW_scr, biW_cel, biW_two, biG, peeks, biP, biL, int_mod, int_fdiv, List.all_cons, List.all_nil, Int.cast_ofNat_Int, Int.reduceEq, Int.reduceLT, Int.reduceLE, Int.reduceAdd, Int.reduceSub, Int.reduceNeg, eqP_int, nrP_nx, nrP_rt, leave_p, leave_nx, cut_self, opP', isNon, Kid.hits, Kid.pushes, Option.toList, List.append_nil]
      exact ⟨by simp; omega, _, _, rfl, rfl⟩
    | some c =>
      by_cases hcg : c = g
      · have hwr : wrt 0 (lmF .append [wyP (q.1 ++ [i])]) (stW (found ++ hitsL g rs q done) (stack ++ pushL g rs q done) ob) = .ok (.p .non) (stW (found ++ hitsL g rs q done ++ [q.1 ++ [i]]) (stack ++ pushL g rs q done) ob) := by
          unfold wrt stW lmF
          simp only [List.getElem?_cons_zero, Bool.false_eq_true, if_false]
          rw [if_pos (lim_of (by simp; omega))]
          simp
        have hlt : 0 < (stW (found ++ hitsL g rs q done) (stack ++ pushL g rs q done) ob).ls.length := by simp [stW]
        simp only [Ss.ev, S.ev, E.ev, Es.ev, It.ev, bind_ok, bind_exc, bind_no, sr_ok, sr_exc, sr_no, Res.two, Res.one, peek_p, keep_p, keeps, tru_b, cx_call, cx_new, cx_glo, cx_sub, cx_dun, cx_inst, cx_fuel, start, List.map_cons, List.map_nil, List.length_cons, List.length_nil, List.reduceReplicate, List.cons_append, List.nil_append, List.getElem?_cons_zero, List.getElem?_cons_succ, List.set_cons_zero, List.set_cons_succ, Nat.reduceAdd, Nat.reduceSub, Nat.reduceLT, Nat.reduceEqDiff, decide_true, decide_false, notOwn, Bool.and_true, Bool.true_and, Bool.and_false, Bool.false_and, Bool.or_true, Bool.true_or, Bool.or_false, Bool.false_or, Bool.not_true, Bool.not_false, Bool.false_eq_true, if_true, if_false, decide_eq_true_eq, omap_some, omap_none, op_add, op_sub, op_addt, cp_eq, cp_ne, cp_lt, cp_le, cp_gt, cp_ge, cp_isn, cp_notn, cp_inn, cp_nin, itemsP, ofO, Tg.put, Tg.puts, putAll, mkL_t, mkL_f, lim_0, lim_1, lim_2, lim_3, lim_4, lim_5, lim_6, lim_7, lim_8, nxP_nx, okP_ok, putS_eq, biW_int, biW_str, biW_tup, biW_lst, biW_bl, biW_non, biW_scr, biW_cel, biW_two, biG, peeks, biP, biL, int_mod, int_fdiv, List.all_cons, List.all_nil, Int.cast_ofNat_Int, Int.reduceEq, Int.reduceLT, Int.reduceLE, Int.reduceAdd, Int.reduceSub, Int.reduceNeg, eqP_int, nrP_nx, nrP_rt, leave_p, leave_nx, cut_self, opP', hcg, w1, hlt, hwr, Kid.hits, Kid.pushes, Option.toList, List.append_nil, List.append_assoc]
        exact ⟨by simp; omega, _, _, rfl, trivial⟩
      · have hcg' : ¬ (some c = some g) := fun e => hcg (Option.some.inj e)
        by_cases hcp : c ∈ q.2
        · simp only [Ss.ev, S.ev, E.ev, Es.ev, It.ev, bind_ok, bind_exc, bind_no, sr_ok, sr_exc, sr_no, Res.two, Res.one, peek_p, keep_p, keeps, tru_b, cx_call, cx_new, cx_glo, cx_sub, cx_dun, cx_inst, cx_fuel, start, List.map_cons, List.map_nil, List.length_cons, List.length_nil, List.reduceReplicate, List.cons_append, List.nil_append, List.getElem?_cons_zero, List.getElem?_cons_succ, List.set_cons_zero, List.set_cons_succ, Nat.reduceAdd, Nat.reduceSub, Nat.reduceLT, Nat.reduceEqDiff, decide_true, decide_false, notOwn, Bool.and_true, Bool.true_and, Bool.and_false, Bool.false_and, Bool.or_true, Bool.true_or, Bool.or_false, Bool.false_or, Bool.not_true, Bool.not_false, Bool.false_eq_true, if_true, if_false, decide_eq_true_eq, omap_some, omap_none, op_add, op_sub, op_addt, cp_eq, cp_ne, cp_lt, cp_le, cp_gt, cp_ge, cp_isn, cp_notn, cp_inn, cp_nin, itemsP, ofO, Tg.put, Tg.puts, putAll, mkL_t, mkL_f, lim_0, lim_1, lim_2, lim_3, lim_4, lim_5, lim_6, lim_7, lim_8, nxP_nx, okP_ok, putS_eq, biW_int, biW_str, biW_tup, biW_lst, biW_bl, biW_non, biW_scr, biW_cel, biW_two, biG, peeks, biP, biL, int_mod, int_fdiv, List.all_cons, List.all_nil, Int.cast_ofNat_Int, Int.reduceEq, Int.reduceLT, Int.reduceLE, Int.reduceAdd, Int.reduceSub, Int.reduceNeg, eqP_int, nrP_nx, nrP_rt, leave_p, leave_nx, cut_self, opP', hcg, hcg', hcp, plc, isNon, inStr_pl, Kid.hits, Kid.pushes, Option.toList, List.append_nil]
          exact ⟨by simp; omega, _, _, rfl, trivial⟩
        · have w2 : opP .add (.str (plS q.2)) (.str ⟨#[c]⟩) = some (.str (plS (q.2 ++ [c]))) := by
            rw [op_adds (lim_of (by rw [plS_len]; show _ + 1 ≤ _; omega))]
            show some (P.str (plS q.2 ++ plS [c])) = _
            rw [plS_app]
          have hwr : wrt 1 (lmF .append [.tup [wyP (q.1 ++ [i]), .str (plS (q.2 ++ [c]))]]) (stW (found ++ hitsL g rs q done) (stack ++ pushL g rs q done) ob) = .ok (.p .non) (stW (found ++ hitsL g rs q done) (stack ++ pushL g rs q done ++ [(q.1 ++ [i], q.2 ++ [c])]) ob) := by
            unfold wrt stW lmF
            simp only [List.getElem?_cons_zero, List.getElem?_cons_succ, Bool.false_eq_true, if_false]
            rw [if_pos (lim_of (by simp; omega))]
            simp [ndP]
          have hlt : 1 < (stW (found ++ hitsL g rs q done) (stack ++ pushL g rs q done) ob).ls.length := by simp [stW]
          simp only [Ss.ev, S.ev, E.ev, Es.ev, It.ev, bind_ok, bind_exc, bind_no, sr_ok, sr_exc, sr_no, Res.two, Res.one, peek_p, keep_p, keeps, tru_b, cx_call, cx_new, cx_glo, cx_sub, cx_dun, cx_inst, cx_fuel, start, List.map_cons, List.map_nil, List.length_cons, List.length_nil, List.reduceReplicate, List.cons_append, List.nil_append, List.getElem?_cons_zero, List.getElem?_cons_succ, List.set_cons_zero, List.set_cons_succ, Nat.reduceAdd, Nat.reduceSub, Nat.reduceLT, Nat.reduceEqDiff, decide_true, decide_false, notOwn, Bool.and_true, Bool.true_and, Bool.and_false, Bool.false_and, Bool.or_true, Bool.true_or, Bool.or_false, Bool.false_or, Bool.not_true, Bool.not_false, Bool.false_eq_true, if_true, if_false, decide_eq_true_eq, omap_some, omap_none, op_add, op_sub, op_addt, cp_eq, cp_ne, cp_lt, cp_le, cp_gt, cp_ge, cp_isn, cp_notn, cp_inn, cp_nin, itemsP, ofO, Tg.put, Tg.puts, putAll, mkL_t, mkL_f, lim_0, lim_1, lim_2, lim_3, lim_4, lim_5, lim_6, lim_7, lim_8, nxP_nx, okP_ok, putS_eq, biW_int, biW_str, biW_tup, biW_lst, biW_bl, biW_non, biW_scr, biW_cel, biW_two, biG, peeks, biP, biL, int_mod, int_fdiv, List.all_cons, List.all_nil, Int.cast_ofNat_Int, Int.reduceEq, Int.reduceLT, Int.reduceLE, Int.reduceAdd, Int.reduceSub, Int.reduceNeg, eqP_int, nrP_nx, nrP_rt, leave_p, leave_nx, cut_self, opP', hcg, hcg', hcp, plc, isNon, inStr_pl, w1, w2, hlt, hwr, Kid.hits, Kid.pushes, Option.toList, List.append_nil, List.append_assoc]
          exact ⟨by simp; omega, _, _, rfl, trivial⟩
end Z.U

namespace Z.U
open PySem

section
variable (g : Nat) (rs : List Rd)
/-- all ways that go on from a node, with r roads left -/
def leaves : Nat → Nd → List (List Nat)
  | 0, _ => []
  | r + 1, q => hitsL g rs q (List.range rs.length) ++ (pushL g rs q (List.range rs.length)).flatMap (leaves r)
def sumN : List Nat → Nat
  | [] => 0
  | x :: xs => x + sumN xs
def cnt : Nat → Nd → Nat
  | 0, _ => 1
  | r + 1, q => 1 + (hitsL g rs q (List.range rs.length)).length + sumN ((pushL g rs q (List.range rs.length)).map (cnt r))
def tops : Nat → Nat
  | 0 => 1
  | r + 1 => 1 + (r + 1) * tops r
/-- a node as it should be -/
structure Node (q : Nd) : Prop where
  nd : q.1.Nodup
  lt : ∀ i ∈ q.1, i < rs.length
  ne : q.2 ≠ []
  ng : g ∉ q.2
  ends : ∀ i ∈ q.1, ∀ r, rs[i]? = some r → r.a ∈ q.2 ∧ r.b ∈ q.2
  len : q.2.length = q.1.length + 1
end
theorem sumN_app {xs ys : List Nat} : sumN (xs ++ ys) = sumN xs + sumN ys := by
  induction xs with
  | nil => simp [sumN]
  | cons x xs ih => rw [List.cons_append, sumN, sumN, ih]; omega
theorem sumN_le {α : Type} {f : α → Nat} {b : Nat} : ∀ {l : List α}, (∀ x ∈ l, f x ≤ b) → sumN (l.map f) ≤ l.length * b
  | [], _ => by simp [sumN]
  | x :: l, h => by
    have h1 := h x (by simp)
    have h2 := sumN_le (l := l) fun y hy => h y (List.mem_cons_of_mem _ hy)
    rw [List.map_cons, sumN, List.length_cons, Nat.succ_mul]
    omega
theorem tops_pos : ∀ r, 1 ≤ tops r
  | 0 => Nat.le_refl 1
  | r + 1 => by rw [tops]; omega
theorem nodup_len : ∀ (n : Nat) (l : List Nat), l.Nodup → (∀ x ∈ l, x < n) → l.length ≤ n
  | 0, [], _, _ => Nat.le_refl 0
  | 0, x :: l, _, h => absurd (h x (by simp)) (Nat.not_lt_zero _)
  | n + 1, l, hd, h => by
    have := nodup_len n (l.erase n) (hd.erase n) fun x hx => by
      have := (List.Nodup.mem_erase_iff hd).mp hx
      have := h x this.2
      omega
    by_cases hn : n ∈ l
    · rw [List.length_erase_of_mem hn] at this
      omega
    · rw [List.erase_of_not_mem hn] at this
      omega
theorem farE_end {r : Rd} {p c : Nat} (h : farE r p = some c) : (r.a = p ∧ r.b = c) ∨ (r.b = p ∧ r.a = c) := by
  unfold farE at h
  split at h
  · rename_i e
    cases h
    exact .inl ⟨e, rfl⟩
  · split at h
    · rename_i e
      cases h
      exact .inr ⟨e, rfl⟩
    · cases h
section
variable {g : Nat} {rs : List Rd}
theorem kid_hit {q : Nd} {i : Nat} {w : List Nat} (h : kid g rs q i = .hit w) : ∃ r p, rs[i]? = some r ∧ q.2.getLast? = some p ∧ farE r p = some g ∧ w = q.1 ++ [i] := by
  unfold kid at h
  split at h
  · cases h
  · rename_i r e1
    split at h
    · cases h
    · rename_i p e2
      split at h
      · cases h
      · rename_i c e3
        split at h
        · rename_i e4
          cases h
          subst e4
          exact ⟨r, p, e1, e2, e3, rfl⟩
        · split at h <;> cases h
theorem kid_push {q q' : Nd} {i : Nat} (h : kid g rs q i = .push q') : ∃ r p c, rs[i]? = some r ∧ q.2.getLast? = some p ∧ farE r p = some c ∧ c ≠ g ∧ c ∉ q.2 ∧ q' = (q.1 ++ [i], q.2 ++ [c]) := by
  unfold kid at h
  split at h
  · cases h
  · rename_i r e1
    split at h
    · cases h
    · rename_i p e2
      split at h
      · cases h
      · rename_i c e3
        split at h
        · cases h
        · rename_i e4
          split at h
          · cases h
          · rename_i e5
            cases h
            exact ⟨r, p, c, e1, e2, e3, e4, e5, rfl⟩
theorem hits_mem {q : Nd} {is : List Nat} {w : List Nat} : w ∈ hitsL g rs q is ↔ ∃ i ∈ is, kid g rs q i = .hit w := by
  unfold hitsL
  rw [List.mem_filterMap]
  constructor
  · rintro ⟨i, hi, e⟩
    refine ⟨i, hi, ?_⟩
    cases hk : kid g rs q i <;> rw [hk] at e <;> cases e
    rfl
  · rintro ⟨i, hi, e⟩
    exact ⟨i, hi, by rw [e]; rfl⟩
theorem push_mem {q : Nd} {is : List Nat} {w : Nd} : w ∈ pushL g rs q is ↔ ∃ i ∈ is, kid g rs q i = .push w := by
  unfold pushL
  rw [List.mem_filterMap]
  constructor
  · rintro ⟨i, hi, e⟩
    refine ⟨i, hi, ?_⟩
    cases hk : kid g rs q i <;> rw [hk] at e <;> cases e
    rfl
  · rintro ⟨i, hi, e⟩
    exact ⟨i, hi, by rw [e]; rfl⟩
theorem fresh_of {q : Nd} {i c p : Nat} {r : Rd} (h : Node g rs q) (h1 : rs[i]? = some r) (h3 : farE r p = some c) (hc : c ∉ q.2) : i ∉ q.1 := fun hi => by
  obtain ⟨a, b⟩ := h.ends i hi r h1
  rcases farE_end h3 with ⟨_, e⟩ | ⟨_, e⟩
  · exact hc (e ▸ b)
  · exact hc (e ▸ a)
theorem Node.kid {q q' : Nd} {i : Nat} (h : Node g rs q) (hk : kid g rs q i = .push q') : Node g rs q' := by
  obtain ⟨r, p, c, h1, h2, h3, h4, h5, rfl⟩ := kid_push hk
  have hi := fresh_of h h1 h3 h5
  have hil : i < rs.length := (List.getElem?_eq_some_iff.mp h1).1
  refine ⟨?_, ?_, by simp, ?_, ?_, by simp [h.len]⟩
  · rw [List.nodup_append]
    exact ⟨h.nd, by simp, fun a ha b hb e => by simp at hb; subst hb; subst e; exact hi ha⟩
  · intro j hj
    rcases List.mem_append.mp hj with hj | hj
    · exact h.lt j hj
    · simp at hj
      subst hj
      exact hil
  · intro hg
    rcases List.mem_append.mp hg with hg | hg
    · exact h.ng hg
    · simp at hg
      exact h4 hg.symm
  · intro j hj s hs
    rcases List.mem_append.mp hj with hj | hj
    · obtain ⟨a, b⟩ := h.ends j hj s hs
      exact ⟨List.mem_append_left _ a, List.mem_append_left _ b⟩
    · simp at hj
      subst hj
      rw [h1] at hs
      cases hs
      have hp : p ∈ q.2 := List.mem_of_getLast? h2
      rcases farE_end h3 with ⟨e1, e2⟩ | ⟨e1, e2⟩
      · exact ⟨by simp [e1, hp], by simp [e2]⟩
      · exact ⟨by simp [e2], by simp [e1, hp]⟩
theorem Node.len_le {q : Nd} (h : Node g rs q) : q.1.length ≤ rs.length := nodup_len _ _ h.nd h.lt
/-- places where a step leads on -/
theorem steps_le {q : Nd} (h : Node g rs q) : (hitsL g rs q (List.range rs.length)).length + (pushL g rs q (List.range rs.length)).length ≤ rs.length - q.1.length := by
  have e1 : ∀ is : List Nat, (hitsL g rs q is).length + (pushL g rs q is).length ≤ (is.filter fun i => !decide (i ∈ q.1)).length := by
    intro is
    induction is with
    | nil => simp [hitsL, pushL]
    | cons i is ih =>
      rw [List.filter_cons]
      cases hk : U.kid g rs q i with
      | dead =>
        have a : hitsL g rs q (i :: is) = hitsL g rs q is := by simp [hitsL, hk, Kid.hits]
        have b : pushL g rs q (i :: is) = pushL g rs q is := by simp [pushL, hk, Kid.pushes]
        rw [a, b]
        split <;> simp <;> omega
      | hit w =>
        obtain ⟨r, p, h1, h2, h3, _⟩ := kid_hit hk
        have hi := fresh_of h h1 h3 h.ng
        have a : hitsL g rs q (i :: is) = w :: hitsL g rs q is := by simp [hitsL, hk, Kid.hits]
        have b : pushL g rs q (i :: is) = pushL g rs q is := by simp [pushL, hk, Kid.pushes]
        rw [a, b, if_pos (by simpa using hi)]
        simp
        omega
      | push w =>
        obtain ⟨r, p, c, h1, h2, h3, h4, h5, _⟩ := kid_push hk
        have hi := fresh_of h h1 h3 h5
        have a : hitsL g rs q (i :: is) = hitsL g rs q is := by simp [hitsL, hk, Kid.hits]
        have b : pushL g rs q (i :: is) = w :: pushL g rs q is := by simp [pushL, hk, Kid.pushes]
        rw [a, b, if_pos (by simpa using hi)]
        simp
        omega
  have e2 := e1 (List.range rs.length)
  have e3 : (q.1 ++ (List.range rs.length).filter fun i => !decide (i ∈ q.1)).length ≤ rs.length := by
    apply nodup_len
    · rw [List.nodup_append]
      refine ⟨h.nd, List.nodup_range.filter _, fun a ha b hb e => ?_⟩
      subst e
      have := (List.mem_filter.mp hb).2
      simp at this
      exact this ha
    · intro x hx
      rcases List.mem_append.mp hx with hx | hx
      · exact h.lt x hx
      · exact List.mem_range.mp (List.mem_filter.mp hx).1
  rw [List.length_append] at e3
  omega
theorem cnt_le : ∀ (r : Nat) {q : Nd}, Node g rs q → rs.length - q.1.length = r → cnt g rs r q ≤ tops r
  | 0, q, _, _ => Nat.le_refl 1
  | r + 1, q, h, hr => by
    rw [cnt, tops]
    have s := steps_le h
    have k : sumN ((pushL g rs q (List.range rs.length)).map (cnt g rs r)) ≤ (pushL g rs q (List.range rs.length)).length * tops r := by
      apply sumN_le
      intro w hw
      obtain ⟨i, _, hk⟩ := push_mem.mp hw
      apply cnt_le r (h.kid hk)
      obtain ⟨_, _, _, _, _, _, _, _, rfl⟩ := kid_push hk
      simp
      omega
    have t := tops_pos r
    have m : ((hitsL g rs q (List.range rs.length)).length + (pushL g rs q (List.range rs.length)).length) * tops r ≤ (r + 1) * tops r := Nat.mul_le_mul_right _ (by omega)
    rw [Nat.add_mul] at m
    have m2 : (hitsL g rs q (List.range rs.length)).length * 1 ≤ (hitsL g rs q (List.range rs.length)).length * tops r := Nat.mul_le_mul_left _ t
    omega
theorem leaf_zero {q : Nd} (h : Node g rs q) (hr : rs.length - q.1.length = 0) : hitsL g rs q (List.range rs.length) = [] ∧ pushL g rs q (List.range rs.length) = [] := by
  have s := steps_le h
  exact ⟨List.length_eq_zero_iff.mp (by omega), List.length_eq_zero_iff.mp (by omega)⟩
end
section
variable (g : Nat) (rs : List Rd)
/-- by the roads that are left -/
def leavesN (q : Nd) : List (List Nat) := leaves g rs (rs.length - q.1.length) q
def cntN (q : Nd) : Nat := cnt g rs (rs.length - q.1.length) q
end
section
variable {g : Nat} {rs : List Rd}
theorem map_congr' {α β : Type} {f h : α → β} {l : List α} (e : ∀ x ∈ l, f x = h x) : l.map f = l.map h := List.map_congr_left e
theorem flatMap_congr' {α β : Type} {f h : α → List β} : ∀ {l : List α}, (∀ x ∈ l, f x = h x) → l.flatMap f = l.flatMap h
  | [], _ => rfl
  | x :: l, e => by rw [List.flatMap_cons, List.flatMap_cons, e x (by simp), flatMap_congr' fun y hy => e y (List.mem_cons_of_mem _ hy)]
theorem leavesN_eq {q : Nd} (h : Node g rs q) : leavesN g rs q = hitsL g rs q (List.range rs.length) ++ (pushL g rs q (List.range rs.length)).flatMap (leavesN g rs) := by
  cases hr : rs.length - q.1.length with
  | zero =>
    obtain ⟨a, b⟩ := leaf_zero h hr
    rw [leavesN, hr, a, b]
    rfl
  | succ r =>
    rw [leavesN, hr, leaves]
    congr 1
    apply flatMap_congr'
    intro w hw
    obtain ⟨i, _, hk⟩ := push_mem.mp hw
    obtain ⟨_, _, _, _, _, _, _, _, rfl⟩ := kid_push hk
    rw [leavesN]
    congr 1
    simp
    omega
theorem cntN_eq {q : Nd} (h : Node g rs q) : cntN g rs q = 1 + (hitsL g rs q (List.range rs.length)).length + sumN ((pushL g rs q (List.range rs.length)).map (cntN g rs)) := by
  cases hr : rs.length - q.1.length with
  | zero =>
    obtain ⟨a, b⟩ := leaf_zero h hr
    rw [cntN, hr, a, b]
    rfl
  | succ r =>
    rw [cntN, hr, cnt]
    congr 2
    apply map_congr'
    intro w hw
    obtain ⟨i, _, hk⟩ := push_mem.mp hw
    obtain ⟨_, _, _, _, _, _, _, _, rfl⟩ := kid_push hk
    rw [cntN]
    congr 1
    simp
    omega
end
end Z.U

namespace Z.U
open PySem

/-- ways as they are ordered -/
def wle : List Nat → List Nat → Bool
  | [], _ => true
  | _ :: _, [] => false
  | x :: xs, y :: ys => if x < y then true else if x = y then wle xs ys else false
theorem wle_refl : ∀ a, wle a a = true
  | [] => rfl
  | x :: xs => by rw [wle, if_neg (Nat.lt_irrefl x), if_pos rfl, wle_refl xs]
theorem wle_total : ∀ a b, wle a b = true ∨ wle b a = true
  | [], _ => .inl rfl
  | _ :: _, [] => .inr rfl
  | x :: xs, y :: ys => by
    rw [wle, wle]
    rcases Nat.lt_trichotomy x y with h | h | h
    · exact .inl (if_pos h)
    · subst h
      simp only [Nat.lt_irrefl, if_false, if_true]
      exact wle_total xs ys
    · exact .inr (if_pos h)
theorem wle_anti : ∀ a b, wle a b = true → wle b a = true → a = b
  | [], [], _, _ => rfl
  | [], _ :: _, _, h => by cases h
  | _ :: _, [], h, _ => by cases h
  | x :: xs, y :: ys, h1, h2 => by
    rw [wle] at h1 h2
    rcases Nat.lt_trichotomy x y with h | h | h
    · rw [if_neg (by omega), if_neg (by omega)] at h2
      cases h2
    · subst h
      simp only [Nat.lt_irrefl, if_false, if_true] at h1 h2
      rw [wle_anti xs ys h1 h2]
    · rw [if_neg (by omega), if_neg (by omega)] at h1
      cases h1
theorem wle_trans : ∀ a b c, wle a b = true → wle b c = true → wle a c = true
  | [], _, _, _, _ => by rw [wle]
  | _ :: _, [], _, h, _ => by cases h
  | _ :: _, _ :: _, [], _, h => by cases h
  | x :: xs, y :: ys, z :: zs, h1, h2 => by
    rw [wle] at h1 h2 ⊢
    rcases Nat.lt_trichotomy x y with h | h | h
    · rcases Nat.lt_trichotomy y z with k | k | k
      · rw [if_pos (by omega)]
      · rw [if_pos (by omega)]
      · rw [if_neg (by omega), if_neg (by omega)] at h2
        cases h2
    · subst h
      rcases Nat.lt_trichotomy x z with k | k | k
      · rw [if_pos k]
      · subst k
        simp only [Nat.lt_irrefl, if_false, if_true] at h1 h2 ⊢
        exact wle_trans xs ys zs h1 h2
      · rw [if_neg (by omega), if_neg (by omega)] at h2
        cases h2
    · rw [if_neg (by omega), if_neg (by omega)] at h1
      cases h1
section
variable {α : Type} (le : α → α → Bool)
def insG (x : α) : List α → List α
  | [] => [x]
  | y :: ys => if le x y then x :: y :: ys else y :: insG x ys
def sortG : List α → List α
  | [] => []
  | x :: xs => insG le x (sortG xs)
variable {le}
theorem insG_perm {x : α} : ∀ {l : List α}, (insG le x l).Perm (x :: l)
  | [] => .refl _
  | y :: ys => by
    rw [insG]
    split
    · exact .refl _
    · exact ((insG_perm (l := ys)).cons y).trans (.swap x y ys)
theorem sortG_perm : ∀ {l : List α}, (sortG le l).Perm l
  | [] => .refl _
  | x :: xs => insG_perm.trans (sortG_perm.cons x)
theorem sortG_mem {l : List α} {x : α} : x ∈ sortG le l ↔ x ∈ l := sortG_perm.mem_iff
theorem insG_sorted (tot : ∀ a b, le a b = true ∨ le b a = true) (tr : ∀ a b c, le a b = true → le b c = true → le a c = true) {x : α} : ∀ {l : List α}, l.Pairwise (fun a b => le a b = true) → (insG le x l).Pairwise (fun a b => le a b = true)
  | [], _ => by simp [insG]
  | y :: ys, h => by
    rw [List.pairwise_cons] at h
    rw [insG]
    split
    · rename_i hxy
      rw [List.pairwise_cons]
      refine ⟨fun z hz => ?_, List.pairwise_cons.mpr h⟩
      rcases List.mem_cons.mp hz with q | q
      · subst q
        exact hxy
      · exact tr _ _ _ hxy (h.1 z q)
    · rename_i hxy
      rw [List.pairwise_cons]
      refine ⟨fun z hz => ?_, insG_sorted tot tr h.2⟩
      rcases List.mem_cons.mp (insG_perm.mem_iff.mp hz) with q | q
      · subst q
        exact (tot z y).resolve_left hxy
      · exact h.1 z q
theorem sortG_sorted (tot : ∀ a b, le a b = true ∨ le b a = true) (tr : ∀ a b c, le a b = true → le b c = true → le a c = true) : ∀ {l : List α}, (sortG le l).Pairwise (fun a b => le a b = true)
  | [] => .nil
  | x :: xs => insG_sorted tot tr (sortG_sorted tot tr)
/-- sorting does not look at the order -/
theorem sortG_eq (tot : ∀ a b, le a b = true ∨ le b a = true) (tr : ∀ a b c, le a b = true → le b c = true → le a c = true) (an : ∀ a b, le a b = true → le b a = true → a = b) {l m : List α} (h : l.Perm m) : sortG le l = sortG le m :=
  List.Perm.eq_of_pairwise (fun a b _ _ => an a b) (sortG_sorted tot tr) (sortG_sorted tot tr) (sortG_perm.trans (h.trans sortG_perm.symm))
end
theorem isort_eq (le : P → P → Bool) : ∀ l, isort le l = sortG le l
  | [] => rfl
  | x :: xs => by
    have : ∀ l, insL le x l = insG le x l := by
      intro l
      induction l with
      | nil => rfl
      | cons y ys ih => rw [insL, insG, ih]
    rw [isort, sortG, isort_eq le xs, this]
theorem sortG_map {α : Type} {e : α → P} {le : P → P → Bool} {le2 : α → α → Bool} (h : ∀ a b, le (e a) (e b) = le2 a b) : ∀ l : List α, sortG le (l.map e) = (sortG le2 l).map e
  | [] => rfl
  | x :: xs => by
    have : ∀ l : List α, insG le (e x) (l.map e) = (insG le2 x l).map e := by
      intro l
      induction l with
      | nil => rfl
      | cons y ys ih =>
        rw [List.map_cons, insG, insG, h, ih]
        split <;> rfl
    rw [List.map_cons, sortG, sortG_map h xs, this]
    rfl
theorem ilt {a b : Int} : PyProof.Rows.itemOrd.blt (.inl a) (.inl b) = decide (a < b) := rfl
theorem wtok_lt : ∀ (a b : List Nat), PyProof.Rows.lexLt PyProof.Rows.itemOrd (PySem.W.keyToksAll (a.map fun i => PyData.int (i : Nat))) (PySem.W.keyToksAll (b.map fun i => PyData.int (i : Nat))) = !wle b a
  | [], [] => rfl
  | [], y :: ys => rfl
  | x :: xs, [] => rfl
  | x :: xs, y :: ys => by
    have ih := wtok_lt xs ys
    rw [List.map_cons, List.map_cons, PySem.W.keyToksAll, PySem.W.keyToksAll, PySem.W.keyToks, PySem.W.keyToks, List.singleton_append, List.singleton_append, PyProof.Rows.lex_cons, PyProof.Rows.lex_cons, ih, wle, ilt, ilt, ilt]
    have e1 : decide ((1 : Int) < 1) = false := rfl
    rw [e1]
    rcases Nat.lt_trichotomy x y with h | h | h
    · have h1 : (x : Int) < y := by omega
      have h2 : ¬ (y < x) := by omega
      have h3 : ¬ (y = x) := by omega
      simp [h1, h2, h3]
    · subst h
      simp
    · have h1 : ¬ (x : Int) < y := by omega
      have h1' : (y : Int) < x := by omega
      simp [h1, h1', h]
theorem wy_toD {a : List Nat} : (wyP a).toD = some (.tuple (a.map fun i => PyData.int (i : Nat))) := by
  have : ∀ l : List Nat, P.toDs (l.map ixs) = some (l.map fun i => PyData.int (i : Nat)) := by
    intro l
    induction l with
    | nil => rfl
    | cons x l ih => rw [List.map_cons, P.toDs, ih, ixs, P.toD]; rfl
  rw [wyP, P.toD, this]
theorem leP_wy {a b : List Nat} : leP (wyP a) (wyP b) = wle a b := by
  have e : ∀ c, encP (wyP c) = .tuple (c.map fun i => PyData.int (i : Nat)) := fun c => by
    rw [encP, wy_toD]
    rfl
  unfold leP PySem.W.dataLe PySem.W.sortLe
  simp only [e, PySem.W.keyToks]
  show (!PyProof.Rows.lexLt PyProof.Rows.itemOrd _ _) = _
  rw [wtok_lt]
  simp
def wsort (l : List (List Nat)) : List (List Nat) := sortG wle l
theorem sort_wy {l : List (List Nat)} (h : ∀ w ∈ l, w ≠ []) (hl : l.length ≤ 16777216) : sortP (l.map wyP) = some ((wsort l).map wyP) := by
  have t : (l.map wyP).all isIntTup = true := by
    rw [List.all_eq_true]
    intro x hx
    obtain ⟨w, hw, rfl⟩ := List.mem_map.mp hx
    cases w with
    | nil => exact absurd rfl (h _ hw)
    | cons i w =>
      show ((ixs i :: w.map ixs).all isInt) = true
      rw [List.all_eq_true]
      intro y hy
      rcases List.mem_cons.mp hy with q | q
      · subst q
        rfl
      · obtain ⟨_, _, rfl⟩ := List.mem_map.mp q
        rfl
  have : sortable (l.map wyP) = true := by
    unfold sortable
    rw [t, List.length_map, lim_of hl]
    simp
  rw [sortP, this, if_pos rfl, isort_eq, sortG_map fun a b => leP_wy]
  rfl
end Z.U

namespace Z.U
open PySem

theorem toNat_pow : (1000000 : Nat) ≤ 2 ^ 9000 := by decide +kernel
theorem cl_ndn {q : Nd} {n : Nat} : (ndP q).cl (n + 2) = true := by
  rw [ndP, P.cl, P.cls, cl_wy]
  rfl
/-- a test of a stack -/
theorem ne_nil {stack : List Nd} : eqP (.lst (stack.map ndP)) (.lst []) = some (decide (stack = [])) := by
  cases stack with
  | nil => rw [List.map_nil, eqP_same (n := 1) rfl]; rfl
  | cons q l =>
    have h1 : (P.lst ((q :: l).map ndP)).cl 4 = true := by
      rw [P.cl]
      exact cls_map (fun a => cl_ndn) _
    have h2 : (P.lst []).cl 4 = true := rfl
    rw [eqP_ne h1 h2 (fun e => by cases e)]
    simp
theorem tops8 : tops 8 = 109601 := rfl
theorem tops_mono {a : Nat} : ∀ {b : Nat}, a ≤ b → tops a ≤ tops b
  | 0, h => by
    have : a = 0 := by omega
    subst this
    exact Nat.le_refl _
  | b + 1, h => by
    rcases Nat.lt_or_ge b a with q | q
    · have : a = b + 1 := by omega
      subst this
      exact Nat.le_refl _
    · have ih := tops_mono q
      rw [tops]
      have : 1 * tops b ≤ (b + 1) * tops b := Nat.mul_le_mul_right _ (by omega)
      omega
def waysWB : Ss := (.cons (.set (.t [(.n 6), (.n 7)]) (.lm .pop (.v 4) .nil)) (.cons (.for_ (.n 5) (.rng1 (.bi .len false (.cons (.v 2) .nil))) (.cons (.set (.n 8) (.call f_far_end (.cons (.ix (.v 2) (.v 5)) (.cons (.ix (.v 7) (.neg (.int 1))) .nil)))) (.cons (.ife (.cmp .eq (.v 8) (.v 1)) (.cons (.ex (.lm .append (.v 3) (.cons (.op .add (.v 6) (.tup (.cons (.v 5) .nil))) .nil))) .nil) (.cons (.ife (.and (.cmp .notn (.v 8) .non) (.cmp .nin (.v 8) (.v 7))) (.cons (.ex (.lm .append (.v 4) (.cons (.tup (.cons (.op .add (.v 6) (.tup (.cons (.v 5) .nil))) (.cons (.op .add (.v 7) (.v 8)) .nil))) .nil))) .nil) .nil) .nil)) .nil))) .nil))
theorem ways_while {n : Nat} (hn : 1 ≤ n) {o g : Nat} {rs : List Rd} {ob : List (Nat × List P)} (hr : rs.length ≤ 8) : ∀ (k fuel : Nat) (found : List (List Nat)) (stack : List Nd) (δ5 δ6 δ7 δ8 : Option W), sumN (stack.map (cntN g rs)) ≤ k → k < fuel → found.length + sumN (stack.map (cntN g rs)) ≤ 200000 → (∀ q ∈ stack, Node g rs q) →
    ∃ (f2 : List (List Nat)) (δ5' δ6' δ7' δ8' : Option W), f2.Perm (found ++ stack.flatMap (leavesN g rs)) ∧ f2.length ≤ 200000 ∧
    whlR (fun δ st => (E.cmp .ne (.v 4) (.lst false .nil)).ev (Cn n) δ st) (fun δ st => waysWB.ev (Cn n) δ st) fuel [some (.p (plc o)), some (.p (plc g)), some (.p (rdsP rs)), some (.cel 0), some (.cel 1), δ5, δ6, δ7, δ8] (stW found stack ob) =
      .nx [some (.p (plc o)), some (.p (plc g)), some (.p (rdsP rs)), some (.cel 0), some (.cel 1), δ5', δ6', δ7', δ8'] (stW f2 [] ob) := by
  intro k
  induction k with
  | zero =>
    intro fuel found stack δ5 δ6 δ7 δ8 hk hf hl hN
    cases stack with
    | nil =>
      refine ⟨found, δ5, δ6, δ7, δ8, by simp, by omega, ?_⟩
      obtain ⟨f, rfl⟩ : ∃ f, fuel = f + 1 := ⟨fuel - 1, by omega⟩
      have pk : peek (stW found [] ob) (.cel 1) = some (.lst ([] : List P)) := rfl
      have e0 := ne_nil (stack := [])
      simp only [List.map_nil, decide_true] at e0
      exact whlR_end (by simp only [Ss.ev, S.ev, E.ev, Es.ev, It.ev, bind_ok, bind_exc, bind_no, sr_ok, sr_exc, sr_no, Res.two, Res.one, peek_p, keep_p, keeps, tru_b, cx_call, cx_new, cx_glo, cx_sub, cx_dun, cx_inst, cx_fuel, start, List.map_cons, List.map_nil, List.length_cons, List.length_nil, List.reduceReplicate, List.cons_append, List.nil_append, List.getElem?_cons_zero, List.getElem?_cons_succ, List.set_cons_zero, List.set_cons_succ, Nat.reduceAdd, Nat.reduceSub, Nat.reduceLT, Nat.reduceEqDiff, decide_true, decide_false, notOwn, Bool.and_true, Bool.true_and, Bool.and_false, Bool.false_and, Bool.or_true, Bool.true_or, Bool.or_false, Bool.false_or, Bool.not_true, Bool.not_false, Bool.false_eq_true, if_true, if_false, decide_eq_true_eq, omap_some, omap_none, op_add, op_sub, op_addt, cp_eq, cp_ne, cp_lt, cp_le, cp_gt, cp_ge, cp_isn, cp_notn, cp_inn, cp_nin, itemsP, ofO, Tg.put, Tg.puts, putAll, mkL_t, mkL_f, lim_0, lim_1, lim_2, lim_3, lim_4, lim_5, lim_6, lim_7, lim_8, nxP_nx, okP_ok, putS_eq, biW_int, biW_str, biW_tup, biW_lst, biW_bl, biW_non, biW_scr, biW_cel, biW_two, biG, peeks, biP, biL, int_mod, int_fdiv, List.all_cons, List.all_nil, Int.cast_ofNat_Int, Int.reduceEq, Int.reduceLT, Int.reduceLE, Int.reduceAdd, Int.reduceSub, Int.reduceNeg, eqP_int, nrP_nx, nrP_rt, leave_p, leave_nx, cut_self, pk, e0])
    | cons q l =>
      rw [List.map_cons, sumN, cntN_eq (hN q (by simp))] at hk
      omega
  | succ k ih =>
    intro fuel found stack δ5 δ6 δ7 δ8 hk hf hl hN
    obtain ⟨f, rfl⟩ : ∃ f, fuel = f + 1 := ⟨fuel - 1, by omega⟩
    rcases List.eq_nil_or_concat stack with rfl | ⟨R0, q, rfl⟩
    · refine ⟨found, δ5, δ6, δ7, δ8, by simp, by omega, ?_⟩
      have pk : peek (stW found [] ob) (.cel 1) = some (.lst ([] : List P)) := rfl
      have e0 := ne_nil (stack := [])
      simp only [List.map_nil, decide_true] at e0
      exact whlR_end (by simp only [Ss.ev, S.ev, E.ev, Es.ev, It.ev, bind_ok, bind_exc, bind_no, sr_ok, sr_exc, sr_no, Res.two, Res.one, peek_p, keep_p, keeps, tru_b, cx_call, cx_new, cx_glo, cx_sub, cx_dun, cx_inst, cx_fuel, start, List.map_cons, List.map_nil, List.length_cons, List.length_nil, List.reduceReplicate, List.cons_append, List.nil_append, List.getElem?_cons_zero, List.getElem?_cons_succ, List.set_cons_zero, List.set_cons_succ, Nat.reduceAdd, Nat.reduceSub, Nat.reduceLT, Nat.reduceEqDiff, decide_true, decide_false, notOwn, Bool.and_true, Bool.true_and, Bool.and_false, Bool.false_and, Bool.or_true, Bool.true_or, Bool.or_false, Bool.false_or, Bool.not_true, Bool.not_false, Bool.false_eq_true, if_true, if_false, decide_eq_true_eq, omap_some, omap_none, op_add, op_sub, op_addt, cp_eq, cp_ne, cp_lt, cp_le, cp_gt, cp_ge, cp_isn, cp_notn, cp_inn, cp_nin, itemsP, ofO, Tg.put, Tg.puts, putAll, mkL_t, mkL_f, lim_0, lim_1, lim_2, lim_3, lim_4, lim_5, lim_6, lim_7, lim_8, nxP_nx, okP_ok, putS_eq, biW_int, biW_str, biW_tup, biW_lst, biW_bl, biW_non, biW_scr, biW_cel, biW_two, biG, peeks, biP, biL, int_mod, int_fdiv, List.all_cons, List.all_nil, Int.cast_ofNat_Int, Int.reduceEq, Int.reduceLT, Int.reduceLE, Int.reduceAdd, Int.reduceSub, Int.reduceNeg, eqP_int, nrP_nx, nrP_rt, leave_p, leave_nx, cut_self, pk, e0])
    · rw [List.concat_eq_append] at *
      have hq := hN q (by simp)
      have c1 := cntN_eq hq
      rw [List.map_append, sumN_app] at hk hl
      simp only [List.map_cons, List.map_nil, sumN] at hk hl
      have lq := hq.len_le
      have hlen : R0.length ≤ sumN (R0.map (cntN g rs)) := by
        have : ∀ l : List Nd, (∀ q ∈ l, Node g rs q) → l.length ≤ sumN (l.map (cntN g rs)) := by
          intro l
          induction l with
          | nil => simp [sumN]
          | cons x l ih2 =>
            intro hx
            have := ih2 fun y hy => hx y (List.mem_cons_of_mem _ hy)
            rw [List.map_cons, sumN, cntN_eq (hx x (by simp)), List.length_cons]
            omega
        exact this R0 fun x hx => hN x (by simp [hx])
      have pk : peek (stW found (R0 ++ [q]) ob) (.cel 1) = some (.lst ((R0 ++ [q]).map ndP)) := rfl
      have e0 := ne_nil (stack := R0 ++ [q])
      have hne : ¬ (R0 ++ [q] = []) := by simp
      rw [decide_eq_false hne] at e0
      have hlt : 1 < (stW found (R0 ++ [q]) ob).ls.length := by simp [stW]
      have hpop : wrt 1 (lmF .pop []) (stW found (R0 ++ [q]) ob) = .ok (.p (ndP q)) (stW found R0 ob) := by
        unfold wrt stW lmF
        simp
      obtain ⟨a, b, loop⟩ := ways_for hn (o := o) (g := g) (rs := rs) (q := q) (ob := ob) hq.ne (by have := hq.len; omega) (by omega) (found := found) (stack := R0) (by omega) (δ5 := δ5) (δ8 := δ8)
      obtain ⟨f2, a5, a6, a7, a8, hp, hfl, e⟩ := ih f (found ++ hitsL g rs q (List.range rs.length)) (R0 ++ pushL g rs q (List.range rs.length)) a (some (.p (wyP q.1))) (some (.p (.str (plS q.2)))) b (by
        rw [List.map_append, sumN_app]
        omega) (by omega) (by
        rw [List.length_append, List.map_append, sumN_app]
        omega) (by
        intro x hx
        rcases List.mem_append.mp hx with hx | hx
        · exact hN x (by simp [hx])
        · obtain ⟨i, _, hki⟩ := push_mem.mp hx
          exact hq.kid hki)
      refine ⟨f2, a5, a6, a7, a8, hp.trans ?_, hfl, ?_⟩
      · rw [List.flatMap_append, List.flatMap_append, List.flatMap_cons, List.flatMap_nil, List.append_nil, leavesN_eq hq, List.append_assoc]
        apply List.Perm.append_left
        rw [← List.append_assoc, ← List.append_assoc]
        exact List.Perm.append_right _ List.perm_append_comm
      · have it1 : (It.rng1 (.bi .len false (.cons (.v 2) .nil))).ev (Cn n) [some (.p (plc o)), some (.p (plc g)), some (.p (rdsP rs)), some (.cel 0), some (.cel 1), δ5, some (.p (wyP q.1)), some (.p (.str (plS q.2))), δ8] (stW found R0 ob) = .ok ((List.range rs.length).map ixs) (stW found R0 ob) := by
          have rg := rng_nat rs.length (by omega)
          simp only [Ss.ev, S.ev, E.ev, Es.ev, It.ev, bind_ok, bind_exc, bind_no, sr_ok, sr_exc, sr_no, Res.two, Res.one, peek_p, keep_p, keeps, tru_b, cx_call, cx_new, cx_glo, cx_sub, cx_dun, cx_inst, cx_fuel, start, List.map_cons, List.map_nil, List.length_cons, List.length_nil, List.reduceReplicate, List.cons_append, List.nil_append, List.getElem?_cons_zero, List.getElem?_cons_succ, List.set_cons_zero, List.set_cons_succ, Nat.reduceAdd, Nat.reduceSub, Nat.reduceLT, Nat.reduceEqDiff, decide_true, decide_false, notOwn, Bool.and_true, Bool.true_and, Bool.and_false, Bool.false_and, Bool.or_true, Bool.true_or, Bool.or_false, Bool.false_or, Bool.not_true, Bool.not_false, Bool.false_eq_true, if_true, if_false, decide_eq_true_eq, omap_some, omap_none, op_add, op_sub, op_addt, cp_eq, cp_ne, cp_lt, cp_le, cp_gt, cp_ge, cp_isn, cp_notn, cp_inn, cp_nin, itemsP, ofO, Tg.put, Tg.puts, putAll, mkL_t, mkL_f, lim_0, lim_1, lim_2, lim_3, lim_4, lim_5, lim_6, lim_7, lim_8, nxP_nx, okP_ok, putS_eq, biW_int, biW_str, biW_tup, biW_lst, biW_bl, biW_non, biW_scr, biW_cel, biW_two, biG, peeks, biP, biL, int_mod, int_fdiv, List.all_cons, List.all_nil, Int.cast_ofNat_Int, Int.reduceEq, Int.reduceLT, Int.reduceLE, Int.reduceAdd, Int.reduceSub, Int.reduceNeg, eqP_int, nrP_nx, nrP_rt, leave_p, leave_nx, cut_self, rdsP, lenP, List.length_map, rg]
          rfl
        have keepq : keep (stW found R0 ob) (.p (ndP q)) = .ok (ndP q) (stW found R0 ob) := rfl
        rw [whlR_go (st1 := stW found (R0 ++ [q]) ob) (δ2 := [some (.p (plc o)), some (.p (plc g)), some (.p (rdsP rs)), some (.cel 0), some (.cel 1), a, some (.p (wyP q.1)), some (.p (.str (plS q.2))), b]) (st2 := stW (found ++ hitsL g rs q (List.range rs.length)) (R0 ++ pushL g rs q (List.range rs.length)) ob) (by simp only [Ss.ev, S.ev, E.ev, Es.ev, It.ev, bind_ok, bind_exc, bind_no, sr_ok, sr_exc, sr_no, Res.two, Res.one, peek_p, keep_p, keeps, tru_b, cx_call, cx_new, cx_glo, cx_sub, cx_dun, cx_inst, cx_fuel, start, List.map_cons, List.map_nil, List.length_cons, List.length_nil, List.reduceReplicate, List.cons_append, List.nil_append, List.getElem?_cons_zero, List.getElem?_cons_succ, List.set_cons_zero, List.set_cons_succ, Nat.reduceAdd, Nat.reduceSub, Nat.reduceLT, Nat.reduceEqDiff, decide_true, decide_false, notOwn, Bool.and_true, Bool.true_and, Bool.and_false, Bool.false_and, Bool.or_true, Bool.true_or, Bool.or_false, Bool.false_or, Bool.not_true, Bool.not_false, Bool.false_eq_true, if_true, if_false, decide_eq_true_eq, omap_some, omap_none, op_add, op_sub, op_addt, cp_eq, cp_ne, cp_lt, cp_le, cp_gt, cp_ge, cp_isn, cp_notn, cp_inn, cp_nin, itemsP, ofO, Tg.put, Tg.puts, putAll, mkL_t, mkL_f, lim_0, lim_1, lim_2, lim_3, lim_4, lim_5, lim_6, lim_7, lim_8, nxP_nx, okP_ok, putS_eq, biW_int, biW_str, biW_tup, biW_lst, biW_bl, biW_non, biW_scr, biW_cel, biW_two, biG, peeks, biP, biL, int_mod, int_fdiv, List.all_cons, List.all_nil, Int.cast_ofNat_Int, Int.reduceEq, Int.reduceLT, Int.reduceLE, Int.reduceAdd, Int.reduceSub, Int.reduceNeg, eqP_int, nrP_nx, nrP_rt, leave_p, leave_nx, cut_self, pk, e0]) ?_]
        · exact e
        · rw [waysWB, Ss.ev]
          have s1 : (S.set (.t [(.n 6), (.n 7)]) (.lm .pop (.v 4) .nil)).ev (Cn n) [some (.p (plc o)), some (.p (plc g)), some (.p (rdsP rs)), some (.cel 0), some (.cel 1), δ5, δ6, δ7, δ8] (stW found (R0 ++ [q]) ob) = .nx [some (.p (plc o)), some (.p (plc g)), some (.p (rdsP rs)), some (.cel 0), some (.cel 1), δ5, some (.p (wyP q.1)), some (.p (.str (plS q.2))), δ8] (stW found R0 ob) := by
            have e1 : (E.lm .pop (.v 4) .nil).ev (Cn n) [some (.p (plc o)), some (.p (plc g)), some (.p (rdsP rs)), some (.cel 0), some (.cel 1), δ5, δ6, δ7, δ8] (stW found (R0 ++ [q]) ob) = .ok (.p (ndP q)) (stW found R0 ob) := by
              simp only [Ss.ev, S.ev, E.ev, Es.ev, It.ev, bind_ok, bind_exc, bind_no, sr_ok, sr_exc, sr_no, Res.two, Res.one, peek_p, keep_p, keeps, tru_b, cx_call, cx_new, cx_glo, cx_sub, cx_dun, cx_inst, cx_fuel, start, List.map_cons, List.map_nil, List.length_cons, List.length_nil, List.reduceReplicate, List.cons_append, List.nil_append, List.getElem?_cons_zero, List.getElem?_cons_succ, List.set_cons_zero, List.set_cons_succ, Nat.reduceAdd, Nat.reduceSub, Nat.reduceLT, Nat.reduceEqDiff, decide_true, decide_false, notOwn, Bool.and_true, Bool.true_and, Bool.and_false, Bool.false_and, Bool.or_true, Bool.true_or, Bool.or_false, Bool.false_or, Bool.not_true, Bool.not_false, Bool.false_eq_true, if_true, if_false, decide_eq_true_eq, omap_some, omap_none, op_add, op_sub, op_addt, cp_eq, cp_ne, cp_lt, cp_le, cp_gt, cp_ge, cp_isn, cp_notn, cp_inn, cp_nin, itemsP, ofO, Tg.put, Tg.puts, putAll, mkL_t, mkL_f, lim_0, lim_1, lim_2, lim_3, lim_4, lim_5, lim_6, lim_7, lim_8, nxP_nx, okP_ok, putS_eq, biW_int, biW_str, biW_tup, biW_lst, biW_bl, biW_non, biW_scr, biW_cel, biW_two, biG, peeks, biP, biL, int_mod, int_fdiv, List.all_cons, List.all_nil, Int.cast_ofNat_Int, Int.reduceEq, Int.reduceLT, Int.reduceLE, Int.reduceAdd, Int.reduceSub, Int.reduceNeg, eqP_int, nrP_nx, nrP_rt, leave_p, leave_nx, cut_self, hlt, hpop]
            rw [S.ev, e1]
            rfl
          rw [s1]
          dsimp only
          rw [Ss.ev, S.ev, it1]
          simp only [sr_ok]
          rw [loop]
          simp only [Ss.ev]
/-- all ways of a web, ascending -/
def waysOf (o g : Nat) (rs : List Rd) : List (List Nat) := wsort (leavesN g rs ([], [o]))
theorem node0 {o g : Nat} {rs : List Rd} (h : o ≠ g) : Node g rs ([], [o]) := by
  refine ⟨by simp, by simp, by simp, by simpa using fun e => h e.symm, by simp, rfl⟩
theorem leaf_ne {g : Nat} {rs : List Rd} : ∀ (r : Nat) (q : Nd) (w : List Nat), w ∈ leaves g rs r q → w ≠ []
  | 0, q, w, h => by simp [leaves] at h
  | r + 1, q, w, h => by
    rw [leaves, List.mem_append] at h
    rcases h with h | h
    · obtain ⟨i, _, hk⟩ := hits_mem.mp h
      obtain ⟨_, _, _, _, _, rfl⟩ := kid_hit hk
      simp
    · obtain ⟨q2, _, h2⟩ := List.mem_flatMap.mp h
      exact leaf_ne r q2 w h2
theorem ways_of_ok {m : Nat} (hm : 2 ≤ m) {o g : Nat} {rs : List Rd} (hog : o ≠ g) (hr : rs.length ≤ 8) {st : Sto} : MG.call m f_ways_of [.p (plc o), .p (plc g), .p (rdsP rs)] st = .ok (.p (.tup ((waysOf o g rs).map wyP))) st := by
  obtain ⟨ls, ob⟩ := st
  refine pure_call (xs := [plc o, plc g, rdsP rs]) ?_ ls
  obtain ⟨n, rfl, hn⟩ := suc_of hm
  show MG.call (n + 1) f_ways_of [.p (plc o), .p (plc g), .p (rdsP rs)] ⟨[], ob⟩ = _
  rw [call_eq fd_ways_of rfl rfl]
  have nd := node0 (rs := rs) hog
  have hc : cntN g rs ([], [o]) ≤ 109601 := by
    have := cnt_le (rs.length - 0) nd rfl
    have m2 := tops_mono (a := rs.length - 0) (b := 8) (by omega)
    rw [tops8] at m2
    exact Nat.le_trans this m2
  have fu := toNat_pow
  obtain ⟨f2, a5, a6, a7, a8, hp, hl, e⟩ := ways_while hn (o := o) (g := g) (rs := rs) (ob := ob) hr 109601 MG.fuel [] [([], [o])] none none none none (by
    simp only [List.map_cons, List.map_nil, sumN]
    omega) (by rw [fu_MG]; omega) (by
    simp only [List.map_cons, List.map_nil, sumN, List.length_nil]
    omega) (by
    intro q hq
    simp at hq
    subst hq
    exact nd)
  have c0 : newC [] (⟨[], ob⟩ : Sto) = .ok (.cel 0) ⟨[⟨[], false⟩], ob⟩ := rfl
  have c1 : newC [P.tup [P.tup [], plc o]] (⟨[⟨[], false⟩], ob⟩ : Sto) = .ok (.cel 1) (stW [] [([], [o])] ob) := rfl
  have s1 : (S.whl (.cmp .ne (.v 4) (.lst false .nil)) waysWB).ev (Cn n) [some (.p (plc o)), some (.p (plc g)), some (.p (rdsP rs)), some (.cel 0), some (.cel 1), none, none, none, none] (stW [] [([], [o])] ob) = .nx [some (.p (plc o)), some (.p (plc g)), some (.p (rdsP rs)), some (.cel 0), some (.cel 1), a5, a6, a7, a8] (stW f2 [] ob) := by
    rw [S.ev]
    exact e
  have hw : f2.Perm (leavesN g rs ([], [o])) := by simpa using hp
  have so : sortP (f2.map wyP) = some ((waysOf o g rs).map wyP) := by
    rw [sort_wy (fun w hw2 => leaf_ne _ _ _ (hw.mem_iff.mp hw2)) (by omega), wsort, sortG_eq wle_total wle_trans wle_anti hw]
    rfl
  have pk : peek (stW f2 [] ob) (.cel 0) = some (.lst (f2.map wyP)) := rfl
  rw [show d_ways_of.body = (.cons (.par [3, 4] (.cons (.lst true .nil) (.cons (.lst true (.cons (.tup (.cons (.tup .nil) (.cons (.v 0) .nil))) .nil)) .nil))) (.cons (.whl (.cmp .ne (.v 4) (.lst false .nil)) waysWB) (.cons (.ret (.bi .tuple false (.cons (.bi .sorted false (.cons (.v 3) .nil)) .nil))) .nil))) from rfl]
  rw [Ss.ev]
  have s0 : (S.par [3, 4] (.cons (.lst true .nil) (.cons (.lst true (.cons (.tup (.cons (.tup .nil) (.cons (.v 0) .nil))) .nil)) .nil))).ev (Cn n) (start d_ways_of.ns [.p (plc o), .p (plc g), .p (rdsP rs)]) ⟨[], ob⟩ = .nx [some (.p (plc o)), some (.p (plc g)), some (.p (rdsP rs)), some (.cel 0), some (.cel 1), none, none, none, none] (stW [] [([], [o])] ob) := by
    simp only [d_ways_of, Ss.ev, S.ev, E.ev, Es.ev, It.ev, bind_ok, bind_exc, bind_no, sr_ok, sr_exc, sr_no, Res.two, Res.one, peek_p, keep_p, keeps, tru_b, cx_call, cx_new, cx_glo, cx_sub, cx_dun, cx_inst, cx_fuel, start, List.map_cons, List.map_nil, List.length_cons, List.length_nil, List.reduceReplicate, List.cons_append, List.nil_append, List.getElem?_cons_zero, List.getElem?_cons_succ, List.set_cons_zero, List.set_cons_succ, Nat.reduceAdd, Nat.reduceSub, Nat.reduceLT, Nat.reduceEqDiff, decide_true, decide_false, notOwn, Bool.and_true, Bool.true_and, Bool.and_false, Bool.false_and, Bool.or_true, Bool.true_or, Bool.or_false, Bool.false_or, Bool.not_true, Bool.not_false, Bool.false_eq_true, if_true, if_false, decide_eq_true_eq, omap_some, omap_none, op_add, op_sub, op_addt, cp_eq, cp_ne, cp_lt, cp_le, cp_gt, cp_ge, cp_isn, cp_notn, cp_inn, cp_nin, itemsP, ofO, Tg.put, Tg.puts, putAll, mkL_t, mkL_f, lim_0, lim_1, lim_2, lim_3, lim_4, lim_5, lim_6, lim_7, lim_8, nxP_nx, okP_ok, putS_eq, biW_int, biW_str, biW_tup, biW_lst, biW_bl, biW_non, biW_scr, biW_cel, biW_two, biG, peeks, biP, biL, int_mod, int_fdiv, List.all_cons, List.all_nil, Int.cast_ofNat_Int, Int.reduceEq, Int.reduceLT, Int.reduceLE, Int.reduceAdd, Int.reduceSub, Int.reduceNeg, eqP_int, nrP_nx, nrP_rt, leave_p, leave_nx, cut_self, c0, c1]
  rw [s0]
  dsimp only
  rw [Ss.ev, s1]
  simp only [Ss.ev, S.ev, E.ev, Es.ev, It.ev, bind_ok, bind_exc, bind_no, sr_ok, sr_exc, sr_no, Res.two, Res.one, peek_p, keep_p, keeps, tru_b, cx_call, cx_new, cx_glo, cx_sub, cx_dun, cx_inst, cx_fuel, start, List.map_cons, List.map_nil, List.length_cons, List.length_nil, List.reduceReplicate, List.cons_append, List.nil_append, List.getElem?_cons_zero, List.getElem?_cons_succ, List.set_cons_zero, List.set_cons_succ, Nat.reduceAdd, Nat.reduceSub, Nat.reduceLT, Nat.reduceEqDiff, decide_true, decide_false, notOwn, Bool.and_true, Bool.true_and, Bool.and_false, Bool.false_and, Bool.or_true, Bool.true_or, Bool.or_false, Bool.false_or, Bool.not_true, Bool.not_false, Bool.false_eq_true, if_true, if_false, decide_eq_true_eq, omap_some, omap_none, op_add, op_sub, op_addt, cp_eq, cp_ne, cp_lt, cp_le, cp_gt, cp_ge, cp_isn, cp_notn, cp_inn, cp_nin, itemsP, ofO, Tg.put, Tg.puts, putAll, mkL_t, mkL_f, lim_0, lim_1, lim_2, lim_3, lim_4, lim_5, lim_6, lim_7, lim_8, nxP_nx, okP_ok, putS_eq, biW_int, biW_str, biW_tup, biW_lst, biW_bl, biW_non, biW_scr, biW_cel, biW_two, biG, peeks, biP, biL, int_mod, int_fdiv, List.all_cons, List.all_nil, Int.cast_ofNat_Int, Int.reduceEq, Int.reduceLT, Int.reduceLE, Int.reduceAdd, Int.reduceSub, Int.reduceNeg, eqP_int, nrP_nx, nrP_rt, leave_p, leave_nx, cut_self, pk, so]
  rfl
end Z.U

namespace Z.U
open PySem

theorem rds_ix {rs : List Rd} {i : Nat} {r : Rd} (h : rs[i]? = some r) : ixP (rdsP rs) (ixs i) = some (rdP r) := by
  show L2.atI (rs.map rdP) (i : Nat) = _
  apply atI_nat
  rw [List.getElem?_map, h]
  rfl
theorem eq_emp {xs : List P} {n : Nat} (h : P.cls n xs = true) (hn : n ≤ 50 := by omega) : eqP (.tup xs) (.tup []) = some (decide (xs = [])) := by
  cases xs with
  | nil => rw [eqP_same (n := n + 1) (by rw [P.cl, P.cls])]; rfl
  | cons x l => rw [eqP_ne (n := n + 1) (by rw [P.cl]; exact h) (by rw [P.cl, P.cls]) (fun e => by cases e)]; simp
theorem cl_rd {r : Rd} {n : Nat} : (rdP r).cl (n + 1) = true := by
  rw [rdP, P.cl]
  cases n <;> rfl
theorem cls_rds {rs : List Rd} {n : Nat} : P.cls (n + 1) (rs.map rdP) = true := cls_map (fun a => cl_rd) _
theorem range_split {n i : Nat} {done rest : List Nat} (h : List.range n = done ++ i :: rest) : i < n ∧ done.length = i := by
  have h1 : i ∈ List.range n := by rw [h]; simp
  have h2 := congrArg (fun l => l[done.length]?) h
  have hl := congrArg List.length h
  simp at hl
  simp [List.getElem?_range (show done.length < n by omega)] at h2
  exact ⟨List.mem_range.mp h1, h2⟩
theorem check_roads_ok {m : Nat} (hm : 5 ≤ m) {rs : List Rd} (h0 : rs ≠ []) (h8 : rs.length ≤ 8) (hr : ∀ r ∈ rs, RdOk r) {st : Sto} : MG.call m f_check_roads [.p (rdsP rs)] st = .ok (.p .non) st := by
  obtain ⟨n, rfl, hn⟩ := suc_of hm
  rw [call_eq fd_check_roads rfl rfl]
  have k : kindP MG.inst (rdsP rs) = true := rfl
  have e0 : eqP (rdsP rs) (.tup []) = some false := by
    rw [rdsP, eq_emp (n := 1) cls_rds]
    simp [h0]
  rw [show d_check_roads.body = b_check_roads from rfl, b_check_roads, Ss.ev]
  have hi : isP MG.sub .tuple (rdsP rs) = true := rfl
  rw [show start d_check_roads.ns [W.p (rdsP rs)] = [some (.p (rdsP rs)), none] from rfl]
  rw [show S.ev (Cn n) (.ife (.or (.not (.isi .tuple (.v 0))) (.cmp .eq (.v 0) (.tup .nil))) (.cons .bad .nil) .nil) [some (.p (rdsP rs)), none] st = .nx [some (.p (rdsP rs)), none] st by
    simp only [Ss.ev, S.ev, E.ev, Es.ev, It.ev, bind_ok, bind_exc, bind_no, sr_ok, sr_exc, sr_no, Res.two, Res.one, peek_p, keep_p, keeps, tru_b, cx_call, cx_new, cx_glo, cx_sub, cx_dun, cx_inst, cx_fuel, start, List.map_cons, List.map_nil, List.length_cons, List.length_nil, List.reduceReplicate, List.cons_append, List.nil_append, List.getElem?_cons_zero, List.getElem?_cons_succ, List.set_cons_zero, List.set_cons_succ, Nat.reduceAdd, Nat.reduceSub, Nat.reduceLT, Nat.reduceEqDiff, decide_true, decide_false, notOwn, Bool.and_true, Bool.true_and, Bool.and_false, Bool.false_and, Bool.or_true, Bool.true_or, Bool.or_false, Bool.false_or, Bool.not_true, Bool.not_false, Bool.false_eq_true, if_true, if_false, decide_eq_true_eq, omap_some, omap_none, op_add, op_sub, op_addt, cp_eq, cp_ne, cp_lt, cp_le, cp_gt, cp_ge, cp_isn, cp_notn, cp_inn, cp_nin, itemsP, ofO, Tg.put, Tg.puts, putAll, mkL_t, mkL_f, lim_0, lim_1, lim_2, lim_3, lim_4, lim_5, lim_6, lim_7, lim_8, nxP_nx, okP_ok, putS_eq, biW_int, biW_str, biW_tup, biW_lst, biW_bl, biW_non, biW_scr, biW_cel, biW_two, biG, peeks, biP, biL, int_mod, int_fdiv, List.all_cons, List.all_nil, Int.cast_ofNat_Int, Int.reduceEq, Int.reduceLT, Int.reduceLE, Int.reduceAdd, Int.reduceSub, Int.reduceNeg, eqP_int, nrP_nx, nrP_rt, leave_p, leave_nx, cut_self, k, hi, e0]]
  dsimp only
  have it1 : (It.rng1 (.bi .len false (.cons (.v 0) .nil))).ev (Cn n) [some (.p (rdsP rs)), none] st = .ok ((List.range rs.length).map ixs) st := by
    have rg := rng_nat rs.length (by omega)
    simp only [Ss.ev, S.ev, E.ev, Es.ev, It.ev, bind_ok, bind_exc, bind_no, sr_ok, sr_exc, sr_no, Res.two, Res.one, peek_p, keep_p, keeps, tru_b, cx_call, cx_new, cx_glo, cx_sub, cx_dun, cx_inst, cx_fuel, start, List.map_cons, List.map_nil, List.length_cons, List.length_nil, List.reduceReplicate, List.cons_append, List.nil_append, List.getElem?_cons_zero, List.getElem?_cons_succ, List.set_cons_zero, List.set_cons_succ, Nat.reduceAdd, Nat.reduceSub, Nat.reduceLT, Nat.reduceEqDiff, decide_true, decide_false, notOwn, Bool.and_true, Bool.true_and, Bool.and_false, Bool.false_and, Bool.or_true, Bool.true_or, Bool.or_false, Bool.false_or, Bool.not_true, Bool.not_false, Bool.false_eq_true, if_true, if_false, decide_eq_true_eq, omap_some, omap_none, op_add, op_sub, op_addt, cp_eq, cp_ne, cp_lt, cp_le, cp_gt, cp_ge, cp_isn, cp_notn, cp_inn, cp_nin, itemsP, ofO, Tg.put, Tg.puts, putAll, mkL_t, mkL_f, lim_0, lim_1, lim_2, lim_3, lim_4, lim_5, lim_6, lim_7, lim_8, nxP_nx, okP_ok, putS_eq, biW_int, biW_str, biW_tup, biW_lst, biW_bl, biW_non, biW_scr, biW_cel, biW_two, biG, peeks, biP, biL, int_mod, int_fdiv, List.all_cons, List.all_nil, Int.cast_ofNat_Int, Int.reduceEq, Int.reduceLT, Int.reduceLE, Int.reduceAdd, Int.reduceSub, Int.reduceNeg, eqP_int, nrP_nx, nrP_rt, leave_p, leave_nx, cut_self, rdsP, lenP, List.length_map, rg]
    rfl
  rw [Ss.ev, S.ev, it1]
  simp only [sr_ok]
  obtain ⟨δ', st', e, ⟨a, rfl, rfl⟩⟩ := forR_pre (e := ixs) (tg := .n 1) (body := fun δ st => (Ss.cons (.ife (.or (.cmp .eq (.v 1) (.gv c_MOST_ROADS)) (.not (.call f_is_road (.cons (.ix (.v 0) (.v 1)) .nil)))) (.cons .bad .nil) .nil) .nil).ev (Cn n) δ st) (List.range rs.length)
    (fun done δ st' => ∃ a, δ = [some (.p (rdsP rs)), a] ∧ st = st') (δ := [some (.p (rdsP rs)), none]) (st := st) ⟨none, rfl, rfl⟩ (by
    rintro done i rest _ _ hd ⟨a, rfl, rfl⟩
    obtain ⟨hi, hdl⟩ := range_split hd
    obtain ⟨r, hri⟩ : ∃ r, rs[i]? = some r := ⟨rs[i], List.getElem?_eq_getElem hi⟩
    have ok := isRoad_rd (hr r (List.mem_of_getElem? hri))
    have e1 := road_ok (m := n) hn (x := rdP r) (st := st) fit_rd
    rw [ok] at e1
    have hz : eqP (ixs i) (.int 8) = some false := by
      rw [ixs, eqP_int]
      simp
      omega
    simp only [Ss.ev, S.ev, E.ev, Es.ev, It.ev, bind_ok, bind_exc, bind_no, sr_ok, sr_exc, sr_no, Res.two, Res.one, peek_p, keep_p, keeps, tru_b, cx_call, cx_new, cx_glo, cx_sub, cx_dun, cx_inst, cx_fuel, start, List.map_cons, List.map_nil, List.length_cons, List.length_nil, List.reduceReplicate, List.cons_append, List.nil_append, List.getElem?_cons_zero, List.getElem?_cons_succ, List.set_cons_zero, List.set_cons_succ, Nat.reduceAdd, Nat.reduceSub, Nat.reduceLT, Nat.reduceEqDiff, decide_true, decide_false, notOwn, Bool.and_true, Bool.true_and, Bool.and_false, Bool.false_and, Bool.or_true, Bool.true_or, Bool.or_false, Bool.false_or, Bool.not_true, Bool.not_false, Bool.false_eq_true, if_true, if_false, decide_eq_true_eq, omap_some, omap_none, op_add, op_sub, op_addt, cp_eq, cp_ne, cp_lt, cp_le, cp_gt, cp_ge, cp_isn, cp_notn, cp_inn, cp_nin, itemsP, ofO, Tg.put, Tg.puts, putAll, mkL_t, mkL_f, lim_0, lim_1, lim_2, lim_3, lim_4, lim_5, lim_6, lim_7, lim_8, nxP_nx, okP_ok, putS_eq, biW_int, biW_str, biW_tup, biW_lst, biW_bl, biW_non, biW_scr, biW_cel, biW_two, biG, peeks, biP, biL, int_mod, int_fdiv, List.all_cons, List.all_nil, Int.cast_ofNat_Int, Int.reduceEq, Int.reduceLT, Int.reduceLE, Int.reduceAdd, Int.reduceSub, Int.reduceNeg, eqP_int, nrP_nx, nrP_rt, leave_p, leave_nx, cut_self, gl_MOST_ROADS, hz, rds_ix hri, e1]
    exact ⟨_, rfl, trivial⟩)
  rw [e]
  simp only [Ss.ev, S.ev, E.ev, Es.ev, It.ev, bind_ok, bind_exc, bind_no, sr_ok, sr_exc, sr_no, Res.two, Res.one, peek_p, keep_p, keeps, tru_b, cx_call, cx_new, cx_glo, cx_sub, cx_dun, cx_inst, cx_fuel, start, List.map_cons, List.map_nil, List.length_cons, List.length_nil, List.reduceReplicate, List.cons_append, List.nil_append, List.getElem?_cons_zero, List.getElem?_cons_succ, List.set_cons_zero, List.set_cons_succ, Nat.reduceAdd, Nat.reduceSub, Nat.reduceLT, Nat.reduceEqDiff, decide_true, decide_false, notOwn, Bool.and_true, Bool.true_and, Bool.and_false, Bool.false_and, Bool.or_true, Bool.true_or, Bool.or_false, Bool.false_or, Bool.not_true, Bool.not_false, Bool.false_eq_true, if_true, if_false, decide_eq_true_eq, omap_some, omap_none, op_add, op_sub, op_addt, cp_eq, cp_ne, cp_lt, cp_le, cp_gt, cp_ge, cp_isn, cp_notn, cp_inn, cp_nin, itemsP, ofO, Tg.put, Tg.puts, putAll, mkL_t, mkL_f, lim_0, lim_1, lim_2, lim_3, lim_4, lim_5, lim_6, lim_7, lim_8, nxP_nx, okP_ok, putS_eq, biW_int, biW_str, biW_tup, biW_lst, biW_bl, biW_non, biW_scr, biW_cel, biW_two, biG, peeks, biP, biL, int_mod, int_fdiv, List.all_cons, List.all_nil, Int.cast_ofNat_Int, Int.reduceEq, Int.reduceLT, Int.reduceLE, Int.reduceAdd, Int.reduceSub, Int.reduceNeg, eqP_int, nrP_nx, nrP_rt, leave_p, leave_nx, cut_self]
theorem len_ok {m : Nat} (hm : 1 ≤ m) {w e x : P} {rs : List Rd} {st : Sto} : MG.call m f_Web____len__ [.p (.ins k_Web [w, e, rdsP rs])] st = .ok (.p (.int (rs.length : Nat))) st := by
  obtain ⟨n, rfl, hn⟩ := suc_of hm
  rw [call_eq fd_Web____len__ rfl rfl]
  have i2 : ([w, e, rdsP rs] : List P)[2]? = some (rdsP rs) := rfl
  simp only [d_Web____len__, b_Web____len__, Ss.ev, S.ev, E.ev, Es.ev, It.ev, bind_ok, bind_exc, bind_no, sr_ok, sr_exc, sr_no, Res.two, Res.one, peek_p, keep_p, keeps, tru_b, cx_call, cx_new, cx_glo, cx_sub, cx_dun, cx_inst, cx_fuel, start, List.map_cons, List.map_nil, List.length_cons, List.length_nil, List.reduceReplicate, List.cons_append, List.nil_append, List.getElem?_cons_zero, List.getElem?_cons_succ, List.set_cons_zero, List.set_cons_succ, Nat.reduceAdd, Nat.reduceSub, Nat.reduceLT, Nat.reduceEqDiff, decide_true, decide_false, notOwn, Bool.and_true, Bool.true_and, Bool.and_false, Bool.false_and, Bool.or_true, Bool.true_or, Bool.or_false, Bool.false_or, Bool.not_true, Bool.not_false, Bool.false_eq_true, if_true, if_false, decide_eq_true_eq, omap_some, omap_none, op_add, op_sub, op_addt, cp_eq, cp_ne, cp_lt, cp_le, cp_gt, cp_ge, cp_isn, cp_notn, cp_inn, cp_nin, itemsP, ofO, Tg.put, Tg.puts, putAll, mkL_t, mkL_f, lim_0, lim_1, lim_2, lim_3, lim_4, lim_5, lim_6, lim_7, lim_8, nxP_nx, okP_ok, putS_eq, biW_int, biW_str, biW_tup, biW_lst, biW_bl, biW_non, biW_scr, biW_cel, biW_two, biG, peeks, biP, biL, int_mod, int_fdiv, List.all_cons, List.all_nil, Int.cast_ofNat_Int, Int.reduceEq, Int.reduceLT, Int.reduceLE, Int.reduceAdd, Int.reduceSub, Int.reduceNeg, eqP_int, nrP_nx, nrP_rt, leave_p, leave_nx, cut_self, beq_self_eq_true, i2, rdsP, lenP, List.length_map]
/-- a web as it is kept -/
def webF (o g : Nat) (rs : List Rd) : List P := [.tup ((waysOf o g rs).map wyP), .tup [plc o, plc g], rdsP rs]
def webP (o g : Nat) (rs : List Rd) : P := .ins k_Web (webF o g rs)
structure WebOk (o g : Nat) (rs : List Rd) : Prop where
  lo : isLet o = true
  lg : isLet g = true
  ne : o ≠ g
  r0 : rs ≠ []
  r8 : rs.length ≤ 8
  rd : ∀ r ∈ rs, RdOk r
  on : ∀ i, i < rs.length → ∃ w ∈ waysOf o g rs, i ∈ w
theorem in_way {i : Nat} {w : List Nat} : eqAny (ixs i) (w.map ixs) = some (decide (i ∈ w)) := by
  apply eqAny_of (n := 0) rfl (cls_map (fun a => rfl) _)
  rw [decide_eq_true_eq, List.mem_map]
  constructor
  · exact fun h => ⟨i, h, rfl⟩
  · rintro ⟨j, hj, e⟩
    have : j = i := by
      have := P.int.inj e
      omega
    exact this ▸ hj
theorem cp_inwy {x : P} {w : List Nat} : cpP .inn x (wyP w) = eqAny x (w.map ixs) := by cases x <;> rfl
theorem boolsP_map {α : Type} {f : α → Bool} : ∀ l : List α, boolsP (l.map fun a => P.bl (f a)) = some (l.map f)
  | [] => rfl
  | a :: l => by rw [List.map_cons, boolsP, boolsP_map l]; rfl
theorem leaves_len {g : Nat} {rs : List Rd} : ∀ (r : Nat) (q : Nd), (leaves g rs r q).length ≤ cnt g rs r q
  | 0, q => by simp [leaves]
  | r + 1, q => by
    rw [leaves, cnt, List.length_append]
    have : ∀ l : List Nd, (l.flatMap (leaves g rs r)).length ≤ sumN (l.map (cnt g rs r)) := by
      intro l
      induction l with
      | nil => simp [sumN]
      | cons x l ih =>
        rw [List.flatMap_cons, List.length_append, List.map_cons, sumN]
        have := leaves_len (g := g) (rs := rs) r x
        omega
    have := this (pushL g rs q (List.range rs.length))
    omega
theorem ways_len {o g : Nat} {rs : List Rd} (hog : o ≠ g) (hr : rs.length ≤ 8) : (waysOf o g rs).length ≤ 109601 := by
  have nd := node0 (rs := rs) hog
  have h1 := cnt_le (rs.length - 0) nd rfl
  have m2 := tops_mono (a := rs.length - 0) (b := 8) (by omega)
  rw [tops8] at m2
  have := leaves_len (g := g) (rs := rs) (rs.length - 0) ([], [o])
  rw [waysOf, wsort, sortG_perm.length_eq]
  exact Nat.le_trans this (Nat.le_trans h1 m2)
/-- any([index in way for way in ..]) -/
theorem any_in {C : Ctx} {δ : Env} {st : Sto} {ws : List (List Nat)} {i a b : Nat} {src : E} (hl : ws.length ≤ 16777216) (h1 : src.ev C δ st = .ok (.p (.tup (ws.map wyP))) st) (hb : b < δ.length) (hab : a ≠ b) (h2 : (wipe δ [b])[a]? = some (some (.p (ixs i)))) :
    (E.bi .any false (.cons (.lc false [b] (.n b) (.val src) (.bl true) (.cmp .inn (.v a) (.v b))) .nil)).ev C δ st = .ok (.p (.bl (ws.any fun w => decide (i ∈ w)))) st := by
  have m : (E.lc false [b] (.n b) (.val src) (.bl true) (.cmp .inn (.v a) (.v b))).ev C δ st = mkL false (ws.map fun w => P.bl (decide (i ∈ w))) st := by
    refine lc_all (em := wyP) (by simp only [It.ev, h1, bind_ok, keep_p, itemsP, ofO]) _ (fun w hw => ?_) hl
    have hlw : b < (wipe δ [b]).length := by simp [wipe, hb]
    have g1 : ((wipe δ [b]).set b (some (W.p (wyP w))))[a]? = some (some (.p (ixs i))) := by
      rw [List.getElem?_set_ne (Ne.symm hab), h2]
    have g2 : ((wipe δ [b]).set b (some (W.p (wyP w))))[b]? = some (some (.p (wyP w))) := List.getElem?_set_self hlw
    rw [lcS_put (show (Tg.n b).put (.p (wyP w)) (wipe δ [b]) = some ((wipe δ [b]).set b (some (.p (wyP w)))) by
      rw [Tg.put]
      simp [hlw, notOwn])]
    simp only [E.ev, bind_ok, tru_b, if_true, g1, g2, Res.two, peek_p, cp_inwy, in_way, omap_some, keep_p]
  rw [E.ev, Es.ev, m]
  simp only [mkL_f, bind_ok, Es.ev, biW_lst, biG, peeks, peek_p, biP, boolsP_map, omap_some, List.any_map]
  rfl
theorem web_new {m : Nat} (hm : 6 ≤ m) {o g : Nat} {rs : List Rd} (h : WebOk o g rs) {st : Sto} : MG.new m k_Web f_Web____init__ [.p (plc o), .p (plc g), .p (rdsP rs)] st = .ok (webF o g rs) st := by
  obtain ⟨n, rfl, hn⟩ := suc_of hm
  rw [new_eq fd_Web____init__ rfl rfl]
  have p1 := place_ok (m := n) (by omega) (x := plc o) (st := st) fit_plc
  have p2 := place_ok (m := n) (by omega) (x := plc g) (st := st) fit_plc
  rw [isPlace_plc, h.lo] at p1
  rw [isPlace_plc, h.lg] at p2
  have q1 : eqP (plc g) (plc o) = some false := by
    rw [eqP_plc]
    simp
    exact fun e => h.ne e.symm
  have c1 := check_roads_ok (m := n) hn h.r0 h.r8 h.rd (st := st)
  have w1 := ways_of_ok (m := n) (by omega) h.ne h.r8 (st := st)
  rw [show d_Web____init__.body = b_Web____init__ from rfl, b_Web____init__]
  rw [show start d_Web____init__.ns [W.own k_Web [], .p (plc o), .p (plc g), .p (rdsP rs)] = [some (W.own k_Web []), some (.p (plc o)), some (.p (plc g)), some (.p (rdsP rs)), none, none] from rfl]
  rw [Ss.ev, show S.ev (Cn n) (.ife (.not (.call f_is_place (.cons (.v 1) .nil))) (.cons .bad .nil) .nil) [some (W.own k_Web []), some (.p (plc o)), some (.p (plc g)), some (.p (rdsP rs)), none, none] st = .nx [some (W.own k_Web []), some (.p (plc o)), some (.p (plc g)), some (.p (rdsP rs)), none, none] st by
    simp only [Ss.ev, S.ev, E.ev, Es.ev, It.ev, bind_ok, bind_exc, bind_no, sr_ok, sr_exc, sr_no, Res.two, Res.one, peek_p, keep_p, keeps, tru_b, cx_call, cx_new, cx_glo, cx_sub, cx_dun, cx_inst, cx_fuel, start, List.map_cons, List.map_nil, List.length_cons, List.length_nil, List.reduceReplicate, List.cons_append, List.nil_append, List.getElem?_cons_zero, List.getElem?_cons_succ, List.set_cons_zero, List.set_cons_succ, Nat.reduceAdd, Nat.reduceSub, Nat.reduceLT, Nat.reduceEqDiff, decide_true, decide_false, notOwn, Bool.and_true, Bool.true_and, Bool.and_false, Bool.false_and, Bool.or_true, Bool.true_or, Bool.or_false, Bool.false_or, Bool.not_true, Bool.not_false, Bool.false_eq_true, if_true, if_false, decide_eq_true_eq, omap_some, omap_none, op_add, op_sub, op_addt, cp_eq, cp_ne, cp_lt, cp_le, cp_gt, cp_ge, cp_isn, cp_notn, cp_inn, cp_nin, itemsP, ofO, Tg.put, Tg.puts, putAll, mkL_t, mkL_f, lim_0, lim_1, lim_2, lim_3, lim_4, lim_5, lim_6, lim_7, lim_8, nxP_nx, okP_ok, putS_eq, biW_int, biW_str, biW_tup, biW_lst, biW_bl, biW_non, biW_scr, biW_cel, biW_two, biG, peeks, biP, biL, int_mod, int_fdiv, List.all_cons, List.all_nil, Int.cast_ofNat_Int, Int.reduceEq, Int.reduceLT, Int.reduceLE, Int.reduceAdd, Int.reduceSub, Int.reduceNeg, eqP_int, nrP_nx, nrP_rt, leave_p, leave_nx, cut_self, p1]]
  dsimp only
  rw [Ss.ev, show S.ev (Cn n) (.ife (.or (.not (.call f_is_place (.cons (.v 2) .nil))) (.cmp .eq (.v 2) (.v 1))) (.cons .bad .nil) .nil) [some (W.own k_Web []), some (.p (plc o)), some (.p (plc g)), some (.p (rdsP rs)), none, none] st = .nx [some (W.own k_Web []), some (.p (plc o)), some (.p (plc g)), some (.p (rdsP rs)), none, none] st by
    simp only [Ss.ev, S.ev, E.ev, Es.ev, It.ev, bind_ok, bind_exc, bind_no, sr_ok, sr_exc, sr_no, Res.two, Res.one, peek_p, keep_p, keeps, tru_b, cx_call, cx_new, cx_glo, cx_sub, cx_dun, cx_inst, cx_fuel, start, List.map_cons, List.map_nil, List.length_cons, List.length_nil, List.reduceReplicate, List.cons_append, List.nil_append, List.getElem?_cons_zero, List.getElem?_cons_succ, List.set_cons_zero, List.set_cons_succ, Nat.reduceAdd, Nat.reduceSub, Nat.reduceLT, Nat.reduceEqDiff, decide_true, decide_false, notOwn, Bool.and_true, Bool.true_and, Bool.and_false, Bool.false_and, Bool.or_true, Bool.true_or, Bool.or_false, Bool.false_or, Bool.not_true, Bool.not_false, Bool.false_eq_true, if_true, if_false, decide_eq_true_eq, omap_some, omap_none, op_add, op_sub, op_addt, cp_eq, cp_ne, cp_lt, cp_le, cp_gt, cp_ge, cp_isn, cp_notn, cp_inn, cp_nin, itemsP, ofO, Tg.put, Tg.puts, putAll, mkL_t, mkL_f, lim_0, lim_1, lim_2, lim_3, lim_4, lim_5, lim_6, lim_7, lim_8, nxP_nx, okP_ok, putS_eq, biW_int, biW_str, biW_tup, biW_lst, biW_bl, biW_non, biW_scr, biW_cel, biW_two, biG, peeks, biP, biL, int_mod, int_fdiv, List.all_cons, List.all_nil, Int.cast_ofNat_Int, Int.reduceEq, Int.reduceLT, Int.reduceLE, Int.reduceAdd, Int.reduceSub, Int.reduceNeg, eqP_int, nrP_nx, nrP_rt, leave_p, leave_nx, cut_self, p2, q1]]
  dsimp only
  rw [Ss.ev, show S.ev (Cn n) (.ex (.call f_check_roads (.cons (.v 3) .nil))) [some (W.own k_Web []), some (.p (plc o)), some (.p (plc g)), some (.p (rdsP rs)), none, none] st = .nx [some (W.own k_Web []), some (.p (plc o)), some (.p (plc g)), some (.p (rdsP rs)), none, none] st by
    simp only [Ss.ev, S.ev, E.ev, Es.ev, It.ev, bind_ok, bind_exc, bind_no, sr_ok, sr_exc, sr_no, Res.two, Res.one, peek_p, keep_p, keeps, tru_b, cx_call, cx_new, cx_glo, cx_sub, cx_dun, cx_inst, cx_fuel, start, List.map_cons, List.map_nil, List.length_cons, List.length_nil, List.reduceReplicate, List.cons_append, List.nil_append, List.getElem?_cons_zero, List.getElem?_cons_succ, List.set_cons_zero, List.set_cons_succ, Nat.reduceAdd, Nat.reduceSub, Nat.reduceLT, Nat.reduceEqDiff, decide_true, decide_false, notOwn, Bool.and_true, Bool.true_and, Bool.and_false, Bool.false_and, Bool.or_true, Bool.true_or, Bool.or_false, Bool.false_or, Bool.not_true, Bool.not_false, Bool.false_eq_true, if_true, if_false, decide_eq_true_eq, omap_some, omap_none, op_add, op_sub, op_addt, cp_eq, cp_ne, cp_lt, cp_le, cp_gt, cp_ge, cp_isn, cp_notn, cp_inn, cp_nin, itemsP, ofO, Tg.put, Tg.puts, putAll, mkL_t, mkL_f, lim_0, lim_1, lim_2, lim_3, lim_4, lim_5, lim_6, lim_7, lim_8, nxP_nx, okP_ok, putS_eq, biW_int, biW_str, biW_tup, biW_lst, biW_bl, biW_non, biW_scr, biW_cel, biW_two, biG, peeks, biP, biL, int_mod, int_fdiv, List.all_cons, List.all_nil, Int.cast_ofNat_Int, Int.reduceEq, Int.reduceLT, Int.reduceLE, Int.reduceAdd, Int.reduceSub, Int.reduceNeg, eqP_int, nrP_nx, nrP_rt, leave_p, leave_nx, cut_self, c1]]
  dsimp only
  rw [Ss.ev, show S.ev (Cn n) (.sown k_Web 0 (.call f_ways_of (.cons (.v 1) (.cons (.v 2) (.cons (.v 3) .nil))))) [some (W.own k_Web []), some (.p (plc o)), some (.p (plc g)), some (.p (rdsP rs)), none, none] st = .nx [some (W.own k_Web [.tup ((waysOf o g rs).map wyP)]), some (.p (plc o)), some (.p (plc g)), some (.p (rdsP rs)), none, none] st by
    simp only [Ss.ev, S.ev, E.ev, Es.ev, It.ev, bind_ok, bind_exc, bind_no, sr_ok, sr_exc, sr_no, Res.two, Res.one, peek_p, keep_p, keeps, tru_b, cx_call, cx_new, cx_glo, cx_sub, cx_dun, cx_inst, cx_fuel, start, List.map_cons, List.map_nil, List.length_cons, List.length_nil, List.reduceReplicate, List.cons_append, List.nil_append, List.getElem?_cons_zero, List.getElem?_cons_succ, List.set_cons_zero, List.set_cons_succ, Nat.reduceAdd, Nat.reduceSub, Nat.reduceLT, Nat.reduceEqDiff, decide_true, decide_false, notOwn, Bool.and_true, Bool.true_and, Bool.and_false, Bool.false_and, Bool.or_true, Bool.true_or, Bool.or_false, Bool.false_or, Bool.not_true, Bool.not_false, Bool.false_eq_true, if_true, if_false, decide_eq_true_eq, omap_some, omap_none, op_add, op_sub, op_addt, cp_eq, cp_ne, cp_lt, cp_le, cp_gt, cp_ge, cp_isn, cp_notn, cp_inn, cp_nin, itemsP, ofO, Tg.put, Tg.puts, putAll, mkL_t, mkL_f, lim_0, lim_1, lim_2, lim_3, lim_4, lim_5, lim_6, lim_7, lim_8, nxP_nx, okP_ok, putS_eq, biW_int, biW_str, biW_tup, biW_lst, biW_bl, biW_non, biW_scr, biW_cel, biW_two, biG, peeks, biP, biL, int_mod, int_fdiv, List.all_cons, List.all_nil, Int.cast_ofNat_Int, Int.reduceEq, Int.reduceLT, Int.reduceLE, Int.reduceAdd, Int.reduceSub, Int.reduceNeg, eqP_int, nrP_nx, nrP_rt, leave_p, leave_nx, cut_self, w1, beq_self_eq_true, List.nil_append]]
  dsimp only
  have it1 : (It.rng1 (.bi .len false (.cons (.v 3) .nil))).ev (Cn n) [some (W.own k_Web [.tup ((waysOf o g rs).map wyP)]), some (.p (plc o)), some (.p (plc g)), some (.p (rdsP rs)), none, none] st = .ok ((List.range rs.length).map ixs) st := by
    have rg := rng_nat rs.length (by have := h.r8; omega)
    simp only [Ss.ev, S.ev, E.ev, Es.ev, It.ev, bind_ok, bind_exc, bind_no, sr_ok, sr_exc, sr_no, Res.two, Res.one, peek_p, keep_p, keeps, tru_b, cx_call, cx_new, cx_glo, cx_sub, cx_dun, cx_inst, cx_fuel, start, List.map_cons, List.map_nil, List.length_cons, List.length_nil, List.reduceReplicate, List.cons_append, List.nil_append, List.getElem?_cons_zero, List.getElem?_cons_succ, List.set_cons_zero, List.set_cons_succ, Nat.reduceAdd, Nat.reduceSub, Nat.reduceLT, Nat.reduceEqDiff, decide_true, decide_false, notOwn, Bool.and_true, Bool.true_and, Bool.and_false, Bool.false_and, Bool.or_true, Bool.true_or, Bool.or_false, Bool.false_or, Bool.not_true, Bool.not_false, Bool.false_eq_true, if_true, if_false, decide_eq_true_eq, omap_some, omap_none, op_add, op_sub, op_addt, cp_eq, cp_ne, cp_lt, cp_le, cp_gt, cp_ge, cp_isn, cp_notn, cp_inn, cp_nin, itemsP, ofO, Tg.put, Tg.puts, putAll, mkL_t, mkL_f, lim_0, lim_1, lim_2, lim_3, lim_4, lim_5, lim_6, lim_7, lim_8, nxP_nx, okP_ok, putS_eq, biW_int, biW_str, biW_tup, biW_lst, biW_bl, biW_non, biW_scr, biW_cel, biW_two, biG, peeks, biP, biL, int_mod, int_fdiv, List.all_cons, List.all_nil, Int.cast_ofNat_Int, Int.reduceEq, Int.reduceLT, Int.reduceLE, Int.reduceAdd, Int.reduceSub, Int.reduceNeg, eqP_int, nrP_nx, nrP_rt, leave_p, leave_nx, cut_self, rdsP, lenP, List.length_map, rg]
    rfl
  rw [Ss.ev, S.ev, it1]
  simp only [sr_ok]
  obtain ⟨δ', st', e, ⟨a, rfl, rfl⟩⟩ := forR_pre (e := ixs) (tg := .n 4) (body := fun δ st => (Ss.cons (.ife (.not (.bi .any false (.cons (.lc false [5] (.n 5) (.val (.fld k_Web 0 (.v 0))) (.bl true) (.cmp .inn (.v 4) (.v 5))) .nil))) (.cons .bad .nil) .nil) .nil).ev (Cn n) δ st) (List.range rs.length)
    (fun done δ st' => ∃ a, δ = [some (W.own k_Web [.tup ((waysOf o g rs).map wyP)]), some (.p (plc o)), some (.p (plc g)), some (.p (rdsP rs)), a, none] ∧ st = st') (δ := [some (W.own k_Web [.tup ((waysOf o g rs).map wyP)]), some (.p (plc o)), some (.p (plc g)), some (.p (rdsP rs)), none, none]) (st := st) ⟨none, rfl, rfl⟩ (by
    rintro done i rest _ _ hd ⟨a, rfl, rfl⟩
    obtain ⟨hi, hdl⟩ := range_split hd
    obtain ⟨w, hw, hiw⟩ := h.on i hi
    have e1 := any_in (C := Cn n) (δ := [some (W.own k_Web [.tup ((waysOf o g rs).map wyP)]), some (.p (plc o)), some (.p (plc g)), some (.p (rdsP rs)), some (.p (ixs i)), none]) (st := st) (ws := waysOf o g rs) (i := i) (a := 4) (b := 5) (src := .fld k_Web 0 (.v 0)) (by
      have := ways_len (rs := rs) h.ne h.r8
      omega) (by simp only [Ss.ev, S.ev, E.ev, Es.ev, It.ev, bind_ok, bind_exc, bind_no, sr_ok, sr_exc, sr_no, Res.two, Res.one, peek_p, keep_p, keeps, tru_b, cx_call, cx_new, cx_glo, cx_sub, cx_dun, cx_inst, cx_fuel, start, List.map_cons, List.map_nil, List.length_cons, List.length_nil, List.reduceReplicate, List.cons_append, List.nil_append, List.getElem?_cons_zero, List.getElem?_cons_succ, List.set_cons_zero, List.set_cons_succ, Nat.reduceAdd, Nat.reduceSub, Nat.reduceLT, Nat.reduceEqDiff, decide_true, decide_false, notOwn, Bool.and_true, Bool.true_and, Bool.and_false, Bool.false_and, Bool.or_true, Bool.true_or, Bool.or_false, Bool.false_or, Bool.not_true, Bool.not_false, Bool.false_eq_true, if_true, if_false, decide_eq_true_eq, omap_some, omap_none, op_add, op_sub, op_addt, cp_eq, cp_ne, cp_lt, cp_le, cp_gt, cp_ge, cp_isn, cp_notn, cp_inn, cp_nin, itemsP, ofO, Tg.put, Tg.puts, putAll, mkL_t, mkL_f, lim_0, lim_1, lim_2, lim_3, lim_4, lim_5, lim_6, lim_7, lim_8, nxP_nx, okP_ok, putS_eq, biW_int, biW_str, biW_tup, biW_lst, biW_bl, biW_non, biW_scr, biW_cel, biW_two, biG, peeks, biP, biL, int_mod, int_fdiv, List.all_cons, List.all_nil, Int.cast_ofNat_Int, Int.reduceEq, Int.reduceLT, Int.reduceLE, Int.reduceAdd, Int.reduceSub, Int.reduceNeg, eqP_int, nrP_nx, nrP_rt, leave_p, leave_nx, cut_self, beq_self_eq_true]) (by simp) (by decide) rfl
    have ha : ((waysOf o g rs).any fun w => decide (i ∈ w)) = true := List.any_eq_true.mpr ⟨w, hw, by simp [hiw]⟩
    rw [ha] at e1
    have e2 : S.ev (Cn n) (.ife (.not (.bi .any false (.cons (.lc false [5] (.n 5) (.val (.fld k_Web 0 (.v 0))) (.bl true) (.cmp .inn (.v 4) (.v 5))) .nil))) (.cons .bad .nil) .nil) [some (W.own k_Web [.tup ((waysOf o g rs).map wyP)]), some (.p (plc o)), some (.p (plc g)), some (.p (rdsP rs)), some (.p (ixs i)), none] st = .nx [some (W.own k_Web [.tup ((waysOf o g rs).map wyP)]), some (.p (plc o)), some (.p (plc g)), some (.p (rdsP rs)), some (.p (ixs i)), none] st := by
      rw [S.ev, E.ev, e1]
      simp only [Ss.ev, S.ev, E.ev, Es.ev, It.ev, bind_ok, bind_exc, bind_no, sr_ok, sr_exc, sr_no, Res.two, Res.one, peek_p, keep_p, keeps, tru_b, cx_call, cx_new, cx_glo, cx_sub, cx_dun, cx_inst, cx_fuel, start, List.map_cons, List.map_nil, List.length_cons, List.length_nil, List.reduceReplicate, List.cons_append, List.nil_append, List.getElem?_cons_zero, List.getElem?_cons_succ, List.set_cons_zero, List.set_cons_succ, Nat.reduceAdd, Nat.reduceSub, Nat.reduceLT, Nat.reduceEqDiff, decide_true, decide_false, notOwn, Bool.and_true, Bool.true_and, Bool.and_false, Bool.false_and, Bool.or_true, Bool.true_or, Bool.or_false, Bool.false_or, Bool.not_true, Bool.not_false, Bool.false_eq_true, if_true, if_false, decide_eq_true_eq, omap_some, omap_none, op_add, op_sub, op_addt, cp_eq, cp_ne, cp_lt, cp_le, cp_gt, cp_ge, cp_isn, cp_notn, cp_inn, cp_nin, itemsP, ofO, Tg.put, Tg.puts, putAll, mkL_t, mkL_f, lim_0, lim_1, lim_2, lim_3, lim_4, lim_5, lim_6, lim_7, lim_8, nxP_nx, okP_ok, putS_eq, biW_int, biW_str, biW_tup, biW_lst, biW_bl, biW_non, biW_scr, biW_cel, biW_two, biG, peeks, biP, biL, int_mod, int_fdiv, List.all_cons, List.all_nil, Int.cast_ofNat_Int, Int.reduceEq, Int.reduceLT, Int.reduceLE, Int.reduceAdd, Int.reduceSub, Int.reduceNeg, eqP_int, nrP_nx, nrP_rt, leave_p, leave_nx, cut_self]
    show (Ss.ev (Cn n) (.cons _ .nil) [some (W.own k_Web [.tup ((waysOf o g rs).map wyP)]), some (.p (plc o)), some (.p (plc g)), some (.p (rdsP rs)), some (.p (ixs i)), none] st).nxP _
    rw [Ss.ev, e2]
    exact ⟨_, rfl, rfl⟩)
  rw [e]
  dsimp only
  rw [Ss.ev, show S.ev (Cn n) (.sown k_Web 1 (.tup (.cons (.v 1) (.cons (.v 2) .nil)))) [some (W.own k_Web [.tup ((waysOf o g rs).map wyP)]), some (.p (plc o)), some (.p (plc g)), some (.p (rdsP rs)), a, none] st = .nx [some (W.own k_Web [.tup ((waysOf o g rs).map wyP), .tup [plc o, plc g]]), some (.p (plc o)), some (.p (plc g)), some (.p (rdsP rs)), a, none] st by
    simp only [Ss.ev, S.ev, E.ev, Es.ev, It.ev, bind_ok, bind_exc, bind_no, sr_ok, sr_exc, sr_no, Res.two, Res.one, peek_p, keep_p, keeps, tru_b, cx_call, cx_new, cx_glo, cx_sub, cx_dun, cx_inst, cx_fuel, start, List.map_cons, List.map_nil, List.length_cons, List.length_nil, List.reduceReplicate, List.cons_append, List.nil_append, List.getElem?_cons_zero, List.getElem?_cons_succ, List.set_cons_zero, List.set_cons_succ, Nat.reduceAdd, Nat.reduceSub, Nat.reduceLT, Nat.reduceEqDiff, decide_true, decide_false, notOwn, Bool.and_true, Bool.true_and, Bool.and_false, Bool.false_and, Bool.or_true, Bool.true_or, Bool.or_false, Bool.false_or, Bool.not_true, Bool.not_false, Bool.false_eq_true, if_true, if_false, decide_eq_true_eq, omap_some, omap_none, op_add, op_sub, op_addt, cp_eq, cp_ne, cp_lt, cp_le, cp_gt, cp_ge, cp_isn, cp_notn, cp_inn, cp_nin, itemsP, ofO, Tg.put, Tg.puts, putAll, mkL_t, mkL_f, lim_0, lim_1, lim_2, lim_3, lim_4, lim_5, lim_6, lim_7, lim_8, nxP_nx, okP_ok, putS_eq, biW_int, biW_str, biW_tup, biW_lst, biW_bl, biW_non, biW_scr, biW_cel, biW_two, biG, peeks, biP, biL, int_mod, int_fdiv, List.all_cons, List.all_nil, Int.cast_ofNat_Int, Int.reduceEq, Int.reduceLT, Int.reduceLE, Int.reduceAdd, Int.reduceSub, Int.reduceNeg, eqP_int, nrP_nx, nrP_rt, leave_p, leave_nx, cut_self, beq_self_eq_true]]
  dsimp only
  rw [Ss.ev, show S.ev (Cn n) (.sown k_Web 2 (.v 3)) [some (W.own k_Web [.tup ((waysOf o g rs).map wyP), .tup [plc o, plc g]]), some (.p (plc o)), some (.p (plc g)), some (.p (rdsP rs)), a, none] st = .nx [some (W.own k_Web [.tup ((waysOf o g rs).map wyP), .tup [plc o, plc g], rdsP rs]), some (.p (plc o)), some (.p (plc g)), some (.p (rdsP rs)), a, none] st by
    simp only [Ss.ev, S.ev, E.ev, Es.ev, It.ev, bind_ok, bind_exc, bind_no, sr_ok, sr_exc, sr_no, Res.two, Res.one, peek_p, keep_p, keeps, tru_b, cx_call, cx_new, cx_glo, cx_sub, cx_dun, cx_inst, cx_fuel, start, List.map_cons, List.map_nil, List.length_cons, List.length_nil, List.reduceReplicate, List.cons_append, List.nil_append, List.getElem?_cons_zero, List.getElem?_cons_succ, List.set_cons_zero, List.set_cons_succ, Nat.reduceAdd, Nat.reduceSub, Nat.reduceLT, Nat.reduceEqDiff, decide_true, decide_false, notOwn, Bool.and_true, Bool.true_and, Bool.and_false, Bool.false_and, Bool.or_true, Bool.true_or, Bool.or_false, Bool.false_or, Bool.not_true, Bool.not_false, Bool.false_eq_true, if_true, if_false, decide_eq_true_eq, omap_some, omap_none, op_add, op_sub, op_addt, cp_eq, cp_ne, cp_lt, cp_le, cp_gt, cp_ge, cp_isn, cp_notn, cp_inn, cp_nin, itemsP, ofO, Tg.put, Tg.puts, putAll, mkL_t, mkL_f, lim_0, lim_1, lim_2, lim_3, lim_4, lim_5, lim_6, lim_7, lim_8, nxP_nx, okP_ok, putS_eq, biW_int, biW_str, biW_tup, biW_lst, biW_bl, biW_non, biW_scr, biW_cel, biW_two, biG, peeks, biP, biL, int_mod, int_fdiv, List.all_cons, List.all_nil, Int.cast_ofNat_Int, Int.reduceEq, Int.reduceLT, Int.reduceLE, Int.reduceAdd, Int.reduceSub, Int.reduceNeg, eqP_int, nrP_nx, nrP_rt, leave_p, leave_nx, cut_self, beq_self_eq_true]]
  simp only [Ss.ev, leaveN, List.getElem?_cons_zero, beq_self_eq_true, if_true, cut_self, webF]
end Z.U

namespace Z.U
open PySem

theorem fmod_abs {a b : Int} (h : b ≠ 0) : (a.fmod b).natAbs < b.natAbs := by
  rcases Int.lt_or_lt_of_ne h with q | q
  · have e : a.fmod b = -((-a).fmod (-b)) := by
      have := Int.neg_fmod_neg a b
      omega
    have h1 := Int.fmod_nonneg_of_pos (-a) (show 0 < -b by omega)
    have h2 := Int.fmod_lt_of_pos (-a) (show 0 < -b by omega)
    omega
  · have h1 := Int.fmod_nonneg_of_pos a q
    have h2 := Int.fmod_lt_of_pos a q
    omega
theorem gcd_step (a b : Int) : Int.gcd b (a.fmod b) = Int.gcd a b := by
  rw [Int.fmod_def, Int.gcd_sub_mul_left_right, Int.gcd_comm]
theorem com_loop {C : Ctx} {st : Sto} : ∀ (fuel : Nat) (a b : Int), b.natAbs < fuel → ∃ a' : Int, a'.natAbs = Int.gcd a b ∧
    whlR (fun δ st => (E.cmp .ne (.v 1) (.int 0)).ev C δ st) (fun δ st => (Ss.cons (.par [0, 1] (.cons (.v 1) (.cons (.op .mod (.v 0) (.v 1)) .nil))) .nil).ev C δ st) fuel [some (.p (.int a)), some (.p (.int b))] st = .nx [some (.p (.int a')), some (.p (.int 0))] st
  | 0, a, b, h => absurd h (Nat.not_lt_zero _)
  | fuel + 1, a, b, h => by
    by_cases h0 : b = 0
    · subst h0
      refine ⟨a, by simp [Int.gcd_zero_right], whlR_end ?_⟩
      simp only [Ss.ev, S.ev, E.ev, Es.ev, It.ev, bind_ok, bind_exc, bind_no, sr_ok, sr_exc, sr_no, Res.two, Res.one, peek_p, keep_p, keeps, tru_b, cx_call, cx_new, cx_glo, cx_sub, cx_dun, cx_inst, cx_fuel, start, List.map_cons, List.map_nil, List.length_cons, List.length_nil, List.reduceReplicate, List.cons_append, List.nil_append, List.getElem?_cons_zero, List.getElem?_cons_succ, List.set_cons_zero, List.set_cons_succ, Nat.reduceAdd, Nat.reduceSub, Nat.reduceLT, Nat.reduceEqDiff, decide_true, decide_false, notOwn, Bool.and_true, Bool.true_and, Bool.and_false, Bool.false_and, Bool.or_true, Bool.true_or, Bool.or_false, Bool.false_or, Bool.not_true, Bool.not_false, Bool.false_eq_true, if_true, if_false, decide_eq_true_eq, omap_some, omap_none, op_add, op_sub, op_addt, cp_eq, cp_ne, cp_lt, cp_le, cp_gt, cp_ge, cp_isn, cp_notn, cp_inn, cp_nin, itemsP, ofO, Tg.put, Tg.puts, putAll, mkL_t, mkL_f, lim_0, lim_1, lim_2, lim_3, lim_4, lim_5, lim_6, lim_7, lim_8, nxP_nx, okP_ok, putS_eq, biW_int, biW_str, biW_tup, biW_lst, biW_bl, biW_non, biW_scr, biW_cel, biW_two, biG, peeks, biP, biL, int_mod, int_fdiv, List.all_cons, List.all_nil, Int.cast_ofNat_Int, Int.reduceEq, Int.reduceLT, Int.reduceLE, Int.reduceAdd, Int.reduceSub, Int.reduceNeg, eqP_int, nrP_nx, nrP_rt, leave_p, leave_nx, cut_self]
    · have hd : decide (b = 0) = false := decide_eq_false h0
      have m1 := fmod_abs (a := a) h0
      obtain ⟨a', e1, e2⟩ := com_loop (C := C) (st := st) fuel b (a.fmod b) (by omega)
      refine ⟨a', by rw [e1, gcd_step], ?_⟩
      rw [← e2]
      refine whlR_go (st1 := st) (by simp only [Ss.ev, S.ev, E.ev, Es.ev, It.ev, bind_ok, bind_exc, bind_no, sr_ok, sr_exc, sr_no, Res.two, Res.one, peek_p, keep_p, keeps, tru_b, cx_call, cx_new, cx_glo, cx_sub, cx_dun, cx_inst, cx_fuel, start, List.map_cons, List.map_nil, List.length_cons, List.length_nil, List.reduceReplicate, List.cons_append, List.nil_append, List.getElem?_cons_zero, List.getElem?_cons_succ, List.set_cons_zero, List.set_cons_succ, Nat.reduceAdd, Nat.reduceSub, Nat.reduceLT, Nat.reduceEqDiff, decide_true, decide_false, notOwn, Bool.and_true, Bool.true_and, Bool.and_false, Bool.false_and, Bool.or_true, Bool.true_or, Bool.or_false, Bool.false_or, Bool.not_true, Bool.not_false, Bool.false_eq_true, if_true, if_false, decide_eq_true_eq, omap_some, omap_none, op_add, op_sub, op_addt, cp_eq, cp_ne, cp_lt, cp_le, cp_gt, cp_ge, cp_isn, cp_notn, cp_inn, cp_nin, itemsP, ofO, Tg.put, Tg.puts, putAll, mkL_t, mkL_f, lim_0, lim_1, lim_2, lim_3, lim_4, lim_5, lim_6, lim_7, lim_8, nxP_nx, okP_ok, putS_eq, biW_int, biW_str, biW_tup, biW_lst, biW_bl, biW_non, biW_scr, biW_cel, biW_two, biG, peeks, biP, biL, int_mod, int_fdiv, List.all_cons, List.all_nil, Int.cast_ofNat_Int, Int.reduceEq, Int.reduceLT, Int.reduceLE, Int.reduceAdd, Int.reduceSub, Int.reduceNeg, eqP_int, nrP_nx, nrP_rt, leave_p, leave_nx, cut_self, hd]) ?_
      simp only [Ss.ev, S.ev, E.ev, Es.ev, It.ev, bind_ok, bind_exc, bind_no, sr_ok, sr_exc, sr_no, Res.two, Res.one, peek_p, keep_p, keeps, tru_b, cx_call, cx_new, cx_glo, cx_sub, cx_dun, cx_inst, cx_fuel, start, List.map_cons, List.map_nil, List.length_cons, List.length_nil, List.reduceReplicate, List.cons_append, List.nil_append, List.getElem?_cons_zero, List.getElem?_cons_succ, List.set_cons_zero, List.set_cons_succ, Nat.reduceAdd, Nat.reduceSub, Nat.reduceLT, Nat.reduceEqDiff, decide_true, decide_false, notOwn, Bool.and_true, Bool.true_and, Bool.and_false, Bool.false_and, Bool.or_true, Bool.true_or, Bool.or_false, Bool.false_or, Bool.not_true, Bool.not_false, Bool.false_eq_true, if_true, if_false, decide_eq_true_eq, omap_some, omap_none, op_add, op_sub, op_addt, cp_eq, cp_ne, cp_lt, cp_le, cp_gt, cp_ge, cp_isn, cp_notn, cp_inn, cp_nin, itemsP, ofO, Tg.put, Tg.puts, putAll, mkL_t, mkL_f, lim_0, lim_1, lim_2, lim_3, lim_4, lim_5, lim_6, lim_7, lim_8, nxP_nx, okP_ok, putS_eq, biW_int, biW_str, biW_tup, biW_lst, biW_bl, biW_non, biW_scr, biW_cel, biW_two, biG, peeks, biP, biL, int_mod, int_fdiv, List.all_cons, List.all_nil, Int.cast_ofNat_Int, Int.reduceEq, Int.reduceLT, Int.reduceLE, Int.reduceAdd, Int.reduceSub, Int.reduceNeg, eqP_int, nrP_nx, nrP_rt, leave_p, leave_nx, cut_self, int_mod h0]
theorem fu_big : 2 ^ 8901 ≤ MG.fuel := by rw [fu_MG]; decide +kernel
theorem abs_nat (a' : Int) : (if a' < 0 then -a' else a') = (a'.natAbs : Int) := by
  split <;> omega
theorem com_ok {m : Nat} (hm : 1 ≤ m) {a b : Int} {st : Sto} (hb : wid b = true) : MG.call m f_common [.p (.int a), .p (.int b)] st = .ok (.p (.int (Int.gcd a b))) st := by
  obtain ⟨n, rfl, hn⟩ := suc_of hm
  have hw := of_wid hb
  have fb := fu_big
  have p2 : (2 : Nat) ^ 8900 < 2 ^ 8901 := by decide +kernel
  obtain ⟨a', e1, e2⟩ := com_loop (C := Cn n) (st := st) MG.fuel a b (Nat.lt_of_lt_of_le (Nat.lt_trans hw p2) fb)
  rw [call_eq fd_common rfl rfl]
  rw [show d_common.body = b_common from rfl, b_common, Ss.ev, S.ev]
  rw [show start d_common.ns [W.p (.int a), .p (.int b)] = [some (.p (.int a)), some (.p (.int b))] from rfl]
  rw [show (Cn n).fuel = MG.fuel from rfl, e2]
  simp only [Ss.ev, S.ev, E.ev, Es.ev, It.ev, bind_ok, bind_exc, bind_no, sr_ok, sr_exc, sr_no, Res.two, Res.one, peek_p, keep_p, keeps, tru_b, cx_call, cx_new, cx_glo, cx_sub, cx_dun, cx_inst, cx_fuel, start, List.map_cons, List.map_nil, List.length_cons, List.length_nil, List.reduceReplicate, List.cons_append, List.nil_append, List.getElem?_cons_zero, List.getElem?_cons_succ, List.set_cons_zero, List.set_cons_succ, Nat.reduceAdd, Nat.reduceSub, Nat.reduceLT, Nat.reduceEqDiff, decide_true, decide_false, notOwn, Bool.and_true, Bool.true_and, Bool.and_false, Bool.false_and, Bool.or_true, Bool.true_or, Bool.or_false, Bool.false_or, Bool.not_true, Bool.not_false, Bool.false_eq_true, if_true, if_false, decide_eq_true_eq, omap_some, omap_none, op_add, op_sub, op_addt, cp_eq, cp_ne, cp_lt, cp_le, cp_gt, cp_ge, cp_isn, cp_notn, cp_inn, cp_nin, itemsP, ofO, Tg.put, Tg.puts, putAll, mkL_t, mkL_f, lim_0, lim_1, lim_2, lim_3, lim_4, lim_5, lim_6, lim_7, lim_8, nxP_nx, okP_ok, putS_eq, biW_int, biW_str, biW_tup, biW_lst, biW_bl, biW_non, biW_scr, biW_cel, biW_two, biG, peeks, biP, biL, int_mod, int_fdiv, List.all_cons, List.all_nil, Int.cast_ofNat_Int, Int.reduceEq, Int.reduceLT, Int.reduceLE, Int.reduceAdd, Int.reduceSub, Int.reduceNeg, eqP_int, nrP_nx, nrP_rt, leave_p, leave_nx, cut_self, abs_nat, e1]
/-- a rational number as a pair -/
def fr (x : Rat) : P := .tup [.int x.num, .int (x.den : Nat)]
theorem fr_ix0 {x : Rat} : ixP (fr x) (.int 0) = some (.int x.num) := rfl
theorem fr_ix1 {x : Rat} : ixP (fr x) (.int 1) = some (.int (x.den : Nat)) := rfl
theorem fit_fr {x : Rat} : (fr x).fit = true := rfl
theorem cl_fr {x : Rat} {n : Nat} : (fr x).cl (n + 1) = true := by
  rw [fr, P.cl]
  cases n <;> rfl
theorem fr_inj {x y : Rat} (h : fr x = fr y) : x = y := by
  injection h with h
  injection h with h1 h2
  injection h2 with h2 _
  injection h1 with h1
  injection h2 with h2
  exact Rat.ext h1 (by omega)
theorem eqP_fr {x y : Rat} : eqP (fr x) (fr y) = some (decide (x = y)) := by
  by_cases h : x = y
  · subst h
    rw [eqP_same (n := 1) cl_fr]
    simp
  · rw [eqP_ne (n := 1) cl_fr cl_fr (fun e => h (fr_inj e))]
    simp [h]
/-- at most so many bits above and below -/
structure Sz (x : Rat) (n : Nat) : Prop where
  num : x.num.natAbs < 2 ^ n
  den : x.den < 2 ^ n
theorem Sz.mono {x : Rat} {n m : Nat} (h : Sz x n) (hm : n ≤ m) : Sz x m :=
  ⟨Nat.lt_of_lt_of_le h.num (Nat.pow_le_pow_right (by decide) hm), Nat.lt_of_lt_of_le h.den (Nat.pow_le_pow_right (by decide) hm)⟩
theorem wid_bits {i : Int} {n : Nat} (h : i.natAbs < 2 ^ n) (hn : n ≤ 8900) : wid i = true := wid_of (Nat.lt_of_lt_of_le h (Nat.pow_le_pow_right (by decide) hn))
theorem Sz.wn {x : Rat} {n : Nat} (h : Sz x n) (hn : n ≤ 8900) : wid x.num = true := wid_bits h.num hn
theorem Sz.wd {x : Rat} {n : Nat} (h : Sz x n) (hn : n ≤ 8900) : wid (x.den : Int) = true := wid_bits (by simpa using h.den) hn
theorem mk_num_le {a : Int} {b : Nat} : (mkRat a b).num.natAbs ≤ a.natAbs := by
  rw [Rat.num_mkRat]
  split
  · simp
  · exact Int.natAbs_ediv_le_natAbs _ _
theorem mk_den_le {a : Int} {b : Nat} (hb : 0 < b) : (mkRat a b).den ≤ b := by
  rw [Rat.den_mkRat, if_neg (by omega)]
  exact Nat.div_le_self _ _
theorem sz_mk {a : Int} {b n : Nat} (hb : 0 < b) (h1 : a.natAbs < 2 ^ n) (h2 : b < 2 ^ n) : Sz (mkRat a b) n :=
  ⟨Nat.lt_of_le_of_lt mk_num_le h1, Nat.lt_of_le_of_lt (mk_den_le hb) h2⟩
theorem mul_bits {a b n m : Nat} (h1 : a < 2 ^ n) (h2 : b < 2 ^ m) : a * b < 2 ^ (n + m) := by
  rw [Nat.pow_add]
  rcases Nat.eq_zero_or_pos b with h | h
  · subst h
    rw [Nat.mul_zero]
    exact Nat.mul_pos (Nat.pow_pos (by decide)) (Nat.pow_pos (by decide))
  · exact Nat.lt_of_lt_of_le (Nat.mul_lt_mul_of_pos_right h1 h) (Nat.mul_le_mul_left _ (Nat.le_of_lt h2))
theorem Sz.add {x y : Rat} {n m : Nat} (h1 : Sz x n) (h2 : Sz y m) : Sz (x + y) (n + m + 1) := by
  rw [Rat.add_def']
  have d := mul_bits h1.den h2.den
  have a := mul_bits h1.num h2.den
  have b := mul_bits h2.num h1.den
  have e : (2 : Nat) ^ (n + m + 1) = 2 ^ (n + m) + 2 ^ (n + m) := by rw [Nat.pow_succ]; omega
  refine sz_mk (Nat.mul_pos x.den_pos y.den_pos) ?_ (by omega)
  have l := Int.natAbs_add_le (x.num * y.den) (y.num * x.den)
  rw [Int.natAbs_mul, Int.natAbs_mul, Int.natAbs_natCast, Int.natAbs_natCast] at l
  rw [Nat.add_comm m n] at b
  omega
theorem Sz.neg {x : Rat} {n : Nat} (h : Sz x n) : Sz (-x) n := ⟨by rw [Rat.neg_num, Int.natAbs_neg]; exact h.num, by rw [Rat.neg_den]; exact h.den⟩
theorem Sz.sub {x y : Rat} {n m : Nat} (h1 : Sz x n) (h2 : Sz y m) : Sz (x - y) (n + m + 1) := by
  rw [Rat.sub_eq_add_neg]
  exact h1.add h2.neg
theorem Sz.mul {x y : Rat} {n m : Nat} (h1 : Sz x n) (h2 : Sz y m) : Sz (x * y) (n + m) := by
  rw [Rat.mul_def']
  refine sz_mk (Nat.mul_pos x.den_pos y.den_pos) ?_ (mul_bits h1.den h2.den)
  rw [Int.natAbs_mul]
  exact mul_bits h1.num h2.num
theorem sz_int {i : Int} {n : Nat} (h : i.natAbs < 2 ^ n) (hn : 1 ≤ n) : Sz (i : Rat) n := ⟨h, by
  show 1 < 2 ^ n
  exact Nat.one_lt_two_pow (by omega)⟩
theorem div_gcd {a : Int} {b : Nat} (hb : 0 < b) : a.fdiv (Int.gcd a b : Nat) = (mkRat a b).num ∧ (b : Int).fdiv (Int.gcd a b : Nat) = ((mkRat a b).den : Nat) := by
  have e : Int.gcd a (b : Int) = b.gcd a.natAbs := by
    rw [Int.gcd_comm, Int.gcd]
    simp
  constructor
  · rw [Rat.num_mkRat, if_neg (by omega), Int.fdiv_eq_ediv_of_nonneg _ (by omega), e]
  · rw [Rat.den_mkRat, if_neg (by omega), Int.fdiv_eq_ediv_of_nonneg _ (by omega), e]
    rfl
theorem low_ok {m : Nat} (hm : 2 ≤ m) {a : Int} {b : Nat} {st : Sto} (hb : 0 < b) (hw : wid (b : Int) = true) : MG.call m f_lowest [.p (.int a), .p (.int (b : Nat))] st = .ok (.p (fr (mkRat a b))) st := by
  obtain ⟨n, rfl, hn⟩ := suc_of hm
  rw [call_eq fd_lowest rfl rfl]
  have ec := com_ok hn (a := a) (st := st) hw
  have gp : (0 : Int) < (Int.gcd a (b : Int) : Nat) := by
    have : 0 < Int.gcd a (b : Int) := Int.gcd_pos_of_ne_zero_right a (by omega)
    omega
  have gl : (Int.gcd a (b : Int) : Int) ≤ b := Int.gcd_le_right a (by omega)
  have gw : wid (Int.gcd a (b : Int) : Int) = true := wid_le (by omega) hw
  have hd : decide ((b : Int) < 0) = false := decide_eq_false (by omega)
  obtain ⟨d1, d2⟩ := div_gcd (a := a) hb
  simp only [d_lowest, b_lowest, Ss.ev, S.ev, E.ev, Es.ev, It.ev, bind_ok, bind_exc, bind_no, sr_ok, sr_exc, sr_no, Res.two, Res.one, peek_p, keep_p, keeps, tru_b, cx_call, cx_new, cx_glo, cx_sub, cx_dun, cx_inst, cx_fuel, start, List.map_cons, List.map_nil, List.length_cons, List.length_nil, List.reduceReplicate, List.cons_append, List.nil_append, List.getElem?_cons_zero, List.getElem?_cons_succ, List.set_cons_zero, List.set_cons_succ, Nat.reduceAdd, Nat.reduceSub, Nat.reduceLT, Nat.reduceEqDiff, decide_true, decide_false, notOwn, Bool.and_true, Bool.true_and, Bool.and_false, Bool.false_and, Bool.or_true, Bool.true_or, Bool.or_false, Bool.false_or, Bool.not_true, Bool.not_false, Bool.false_eq_true, if_true, if_false, decide_eq_true_eq, omap_some, omap_none, op_add, op_sub, op_addt, cp_eq, cp_ne, cp_lt, cp_le, cp_gt, cp_ge, cp_isn, cp_notn, cp_inn, cp_nin, itemsP, ofO, Tg.put, Tg.puts, putAll, mkL_t, mkL_f, lim_0, lim_1, lim_2, lim_3, lim_4, lim_5, lim_6, lim_7, lim_8, nxP_nx, okP_ok, putS_eq, biW_int, biW_str, biW_tup, biW_lst, biW_bl, biW_non, biW_scr, biW_cel, biW_two, biG, peeks, biP, biL, int_mod, int_fdiv, List.all_cons, List.all_nil, Int.cast_ofNat_Int, Int.reduceEq, Int.reduceLT, Int.reduceLE, Int.reduceAdd, Int.reduceSub, Int.reduceNeg, eqP_int, nrP_nx, nrP_rt, leave_p, leave_nx, cut_self, ec, hd, int_fdiv gp gw, d1, d2]
  rfl
theorem plus_ok {m : Nat} (hm : 3 ≤ m) {x y : Rat} {k l : Nat} {st : Sto} (h1 : Sz x k) (h2 : Sz y l) (hk : k + l ≤ 8900) : MG.call m f_plus [.p (fr x), .p (fr y)] st = .ok (.p (fr (x + y))) st := by
  obtain ⟨n, rfl, hn⟩ := suc_of hm
  rw [call_eq fd_plus rfl rfl]
  have d := mul_bits h1.den h2.den
  have el := low_ok hn (a := x.num * y.den + y.num * x.den) (b := x.den * y.den) (st := st) (Nat.mul_pos x.den_pos y.den_pos) (wid_bits (by rw [Int.natAbs_natCast]; exact d) hk)
  rw [← Rat.add_def'] at el
  rw [Int.natCast_mul] at el
  simp only [d_plus, b_plus, Ss.ev, S.ev, E.ev, Es.ev, It.ev, bind_ok, bind_exc, bind_no, sr_ok, sr_exc, sr_no, Res.two, Res.one, peek_p, keep_p, keeps, tru_b, cx_call, cx_new, cx_glo, cx_sub, cx_dun, cx_inst, cx_fuel, start, List.map_cons, List.map_nil, List.length_cons, List.length_nil, List.reduceReplicate, List.cons_append, List.nil_append, List.getElem?_cons_zero, List.getElem?_cons_succ, List.set_cons_zero, List.set_cons_succ, Nat.reduceAdd, Nat.reduceSub, Nat.reduceLT, Nat.reduceEqDiff, decide_true, decide_false, notOwn, Bool.and_true, Bool.true_and, Bool.and_false, Bool.false_and, Bool.or_true, Bool.true_or, Bool.or_false, Bool.false_or, Bool.not_true, Bool.not_false, Bool.false_eq_true, if_true, if_false, decide_eq_true_eq, omap_some, omap_none, op_add, op_sub, op_addt, cp_eq, cp_ne, cp_lt, cp_le, cp_gt, cp_ge, cp_isn, cp_notn, cp_inn, cp_nin, itemsP, ofO, Tg.put, Tg.puts, putAll, mkL_t, mkL_f, lim_0, lim_1, lim_2, lim_3, lim_4, lim_5, lim_6, lim_7, lim_8, nxP_nx, okP_ok, putS_eq, biW_int, biW_str, biW_tup, biW_lst, biW_bl, biW_non, biW_scr, biW_cel, biW_two, biG, peeks, biP, biL, int_mod, int_fdiv, List.all_cons, List.all_nil, Int.cast_ofNat_Int, Int.reduceEq, Int.reduceLT, Int.reduceLE, Int.reduceAdd, Int.reduceSub, Int.reduceNeg, eqP_int, nrP_nx, nrP_rt, leave_p, leave_nx, cut_self, fr_ix0, fr_ix1, int_mulw (h1.wn (by omega)) (h2.wd (by omega)), int_mulw (h2.wn (by omega)) (h1.wd (by omega)), int_mulw (h1.wd (by omega)) (h2.wd (by omega)), el]
theorem less_ok {m : Nat} (hm : 3 ≤ m) {x y : Rat} {k l : Nat} {st : Sto} (h1 : Sz x k) (h2 : Sz y l) (hk : k + l ≤ 8900) : MG.call m f_less [.p (fr x), .p (fr y)] st = .ok (.p (fr (x - y))) st := by
  obtain ⟨n, rfl, hn⟩ := suc_of hm
  rw [call_eq fd_less rfl rfl]
  have d := mul_bits h1.den h2.den
  have el := low_ok hn (a := x.num * y.den - y.num * x.den) (b := x.den * y.den) (st := st) (Nat.mul_pos x.den_pos y.den_pos) (wid_bits (by rw [Int.natAbs_natCast]; exact d) hk)
  rw [← Rat.sub_def'] at el
  rw [Int.natCast_mul] at el
  simp only [d_less, b_less, Ss.ev, S.ev, E.ev, Es.ev, It.ev, bind_ok, bind_exc, bind_no, sr_ok, sr_exc, sr_no, Res.two, Res.one, peek_p, keep_p, keeps, tru_b, cx_call, cx_new, cx_glo, cx_sub, cx_dun, cx_inst, cx_fuel, start, List.map_cons, List.map_nil, List.length_cons, List.length_nil, List.reduceReplicate, List.cons_append, List.nil_append, List.getElem?_cons_zero, List.getElem?_cons_succ, List.set_cons_zero, List.set_cons_succ, Nat.reduceAdd, Nat.reduceSub, Nat.reduceLT, Nat.reduceEqDiff, decide_true, decide_false, notOwn, Bool.and_true, Bool.true_and, Bool.and_false, Bool.false_and, Bool.or_true, Bool.true_or, Bool.or_false, Bool.false_or, Bool.not_true, Bool.not_false, Bool.false_eq_true, if_true, if_false, decide_eq_true_eq, omap_some, omap_none, op_add, op_sub, op_addt, cp_eq, cp_ne, cp_lt, cp_le, cp_gt, cp_ge, cp_isn, cp_notn, cp_inn, cp_nin, itemsP, ofO, Tg.put, Tg.puts, putAll, mkL_t, mkL_f, lim_0, lim_1, lim_2, lim_3, lim_4, lim_5, lim_6, lim_7, lim_8, nxP_nx, okP_ok, putS_eq, biW_int, biW_str, biW_tup, biW_lst, biW_bl, biW_non, biW_scr, biW_cel, biW_two, biG, peeks, biP, biL, int_mod, int_fdiv, List.all_cons, List.all_nil, Int.cast_ofNat_Int, Int.reduceEq, Int.reduceLT, Int.reduceLE, Int.reduceAdd, Int.reduceSub, Int.reduceNeg, eqP_int, nrP_nx, nrP_rt, leave_p, leave_nx, cut_self, fr_ix0, fr_ix1, int_mulw (h1.wn (by omega)) (h2.wd (by omega)), int_mulw (h2.wn (by omega)) (h1.wd (by omega)), int_mulw (h1.wd (by omega)) (h2.wd (by omega)), el]
theorem below_ok {m : Nat} (hm : 1 ≤ m) {x y : Rat} {k l : Nat} {st : Sto} (h1 : Sz x k) (h2 : Sz y l) (hk : k ≤ 8900) (hl : l ≤ 8900) : MG.call m f_is_below [.p (fr x), .p (fr y)] st = .ok (.p (.bl (decide (x < y)))) st := by
  obtain ⟨n, rfl, hn⟩ := suc_of hm
  rw [call_eq fd_is_below rfl rfl]
  have e : decide (x.num * y.den < y.num * x.den) = decide (x < y) := by
    rw [Bool.eq_iff_iff, decide_eq_true_eq, decide_eq_true_eq, Rat.lt_iff]
  simp only [d_is_below, b_is_below, Ss.ev, S.ev, E.ev, Es.ev, It.ev, bind_ok, bind_exc, bind_no, sr_ok, sr_exc, sr_no, Res.two, Res.one, peek_p, keep_p, keeps, tru_b, cx_call, cx_new, cx_glo, cx_sub, cx_dun, cx_inst, cx_fuel, start, List.map_cons, List.map_nil, List.length_cons, List.length_nil, List.reduceReplicate, List.cons_append, List.nil_append, List.getElem?_cons_zero, List.getElem?_cons_succ, List.set_cons_zero, List.set_cons_succ, Nat.reduceAdd, Nat.reduceSub, Nat.reduceLT, Nat.reduceEqDiff, decide_true, decide_false, notOwn, Bool.and_true, Bool.true_and, Bool.and_false, Bool.false_and, Bool.or_true, Bool.true_or, Bool.or_false, Bool.false_or, Bool.not_true, Bool.not_false, Bool.false_eq_true, if_true, if_false, decide_eq_true_eq, omap_some, omap_none, op_add, op_sub, op_addt, cp_eq, cp_ne, cp_lt, cp_le, cp_gt, cp_ge, cp_isn, cp_notn, cp_inn, cp_nin, itemsP, ofO, Tg.put, Tg.puts, putAll, mkL_t, mkL_f, lim_0, lim_1, lim_2, lim_3, lim_4, lim_5, lim_6, lim_7, lim_8, nxP_nx, okP_ok, putS_eq, biW_int, biW_str, biW_tup, biW_lst, biW_bl, biW_non, biW_scr, biW_cel, biW_two, biG, peeks, biP, biL, int_mod, int_fdiv, List.all_cons, List.all_nil, Int.cast_ofNat_Int, Int.reduceEq, Int.reduceLT, Int.reduceLE, Int.reduceAdd, Int.reduceSub, Int.reduceNeg, eqP_int, nrP_nx, nrP_rt, leave_p, leave_nx, cut_self, fr_ix0, fr_ix1, int_mulw (h1.wn (by omega)) (h2.wd (by omega)), int_mulw (h2.wn (by omega)) (h1.wd (by omega)), e]
def sumQ : List Rat → Rat
  | [] => 0
  | x :: xs => x + sumQ xs
theorem sumQ_app {xs ys : List Rat} : sumQ (xs ++ ys) = sumQ xs + sumQ ys := by
  induction xs with
  | nil => simp [sumQ, Rat.zero_add]
  | cons x xs ih => rw [List.cons_append, sumQ, sumQ, ih, Rat.add_assoc]
theorem sz_zero {n : Nat} (hn : 1 ≤ n) : Sz 0 n := ⟨by show 0 < _; exact Nat.pow_pos (by decide), by show 1 < _; exact Nat.one_lt_two_pow (by omega)⟩
theorem sz_sum : ∀ {l : List Rat} {n : Nat}, (∀ x ∈ l, Sz x n) → Sz (sumQ l) (l.length * (n + 1) + 1)
  | [], n, _ => sz_zero (by simp)
  | x :: l, n, h => by
    rw [sumQ]
    refine ((h x (by simp)).add (sz_sum fun y hy => h y (List.mem_cons_of_mem _ hy))).mono ?_
    rw [List.length_cons, Nat.succ_mul]
    omega
theorem fr_zero : fr 0 = .tup [.int 0, .int 1] := rfl
theorem sum_ok {m : Nat} (hm : 4 ≤ m) {l : List Rat} {n n2 : Nat} {st : Sto} (h : ∀ x ∈ l, Sz x n) (hp : ∀ k, k < l.length → Sz (sumQ (l.take k)) n2) (hn : n2 + n ≤ 8900) : MG.call m f_sum_of [.p (.lst (l.map fr))] st = .ok (.p (fr (sumQ l))) st := by
  obtain ⟨k, rfl, hk⟩ := suc_of hm
  rw [call_eq fd_sum_of rfl rfl]
  rw [show d_sum_of.body = b_sum_of from rfl, b_sum_of]
  rw [show start d_sum_of.ns [W.p (.lst (l.map fr))] = [some (.p (.lst (l.map fr))), none, none] from rfl]
  rw [Ss.ev, show S.ev (Cn k) (.set (.n 1) (.tup (.cons (.int 0) (.cons (.int 1) .nil)))) [some (.p (.lst (l.map fr))), none, none] st = .nx [some (.p (.lst (l.map fr))), some (.p (fr 0)), none] st by
    simp only [Ss.ev, S.ev, E.ev, Es.ev, It.ev, bind_ok, bind_exc, bind_no, sr_ok, sr_exc, sr_no, Res.two, Res.one, peek_p, keep_p, keeps, tru_b, cx_call, cx_new, cx_glo, cx_sub, cx_dun, cx_inst, cx_fuel, start, List.map_cons, List.map_nil, List.length_cons, List.length_nil, List.reduceReplicate, List.cons_append, List.nil_append, List.getElem?_cons_zero, List.getElem?_cons_succ, List.set_cons_zero, List.set_cons_succ, Nat.reduceAdd, Nat.reduceSub, Nat.reduceLT, Nat.reduceEqDiff, decide_true, decide_false, notOwn, Bool.and_true, Bool.true_and, Bool.and_false, Bool.false_and, Bool.or_true, Bool.true_or, Bool.or_false, Bool.false_or, Bool.not_true, Bool.not_false, Bool.false_eq_true, if_true, if_false, decide_eq_true_eq, omap_some, omap_none, op_add, op_sub, op_addt, cp_eq, cp_ne, cp_lt, cp_le, cp_gt, cp_ge, cp_isn, cp_notn, cp_inn, cp_nin, itemsP, ofO, Tg.put, Tg.puts, putAll, mkL_t, mkL_f, lim_0, lim_1, lim_2, lim_3, lim_4, lim_5, lim_6, lim_7, lim_8, nxP_nx, okP_ok, putS_eq, biW_int, biW_str, biW_tup, biW_lst, biW_bl, biW_non, biW_scr, biW_cel, biW_two, biG, peeks, biP, biL, int_mod, int_fdiv, List.all_cons, List.all_nil, Int.cast_ofNat_Int, Int.reduceEq, Int.reduceLT, Int.reduceLE, Int.reduceAdd, Int.reduceSub, Int.reduceNeg, eqP_int, nrP_nx, nrP_rt, leave_p, leave_nx, cut_self, fr_zero]]
  dsimp only
  rw [Ss.ev, S.ev, show It.ev (Cn k) (.val (.v 0)) [some (.p (.lst (l.map fr))), some (.p (fr 0)), none] st = .ok (l.map fr) st by simp only [Ss.ev, S.ev, E.ev, Es.ev, It.ev, bind_ok, bind_exc, bind_no, sr_ok, sr_exc, sr_no, Res.two, Res.one, peek_p, keep_p, keeps, tru_b, cx_call, cx_new, cx_glo, cx_sub, cx_dun, cx_inst, cx_fuel, start, List.map_cons, List.map_nil, List.length_cons, List.length_nil, List.reduceReplicate, List.cons_append, List.nil_append, List.getElem?_cons_zero, List.getElem?_cons_succ, List.set_cons_zero, List.set_cons_succ, Nat.reduceAdd, Nat.reduceSub, Nat.reduceLT, Nat.reduceEqDiff, decide_true, decide_false, notOwn, Bool.and_true, Bool.true_and, Bool.and_false, Bool.false_and, Bool.or_true, Bool.true_or, Bool.or_false, Bool.false_or, Bool.not_true, Bool.not_false, Bool.false_eq_true, if_true, if_false, decide_eq_true_eq, omap_some, omap_none, op_add, op_sub, op_addt, cp_eq, cp_ne, cp_lt, cp_le, cp_gt, cp_ge, cp_isn, cp_notn, cp_inn, cp_nin, itemsP, ofO, Tg.put, Tg.puts, putAll, mkL_t, mkL_f, lim_0, lim_1, lim_2, lim_3, lim_4, lim_5, lim_6, lim_7, lim_8, nxP_nx, okP_ok, putS_eq, biW_int, biW_str, biW_tup, biW_lst, biW_bl, biW_non, biW_scr, biW_cel, biW_two, biG, peeks, biP, biL, int_mod, int_fdiv, List.all_cons, List.all_nil, Int.cast_ofNat_Int, Int.reduceEq, Int.reduceLT, Int.reduceLE, Int.reduceAdd, Int.reduceSub, Int.reduceNeg, eqP_int, nrP_nx, nrP_rt, leave_p, leave_nx, cut_self]]
  simp only [sr_ok]
  obtain ⟨δ', st', e, ⟨a, rfl, rfl⟩⟩ := forR_pre (e := fr) (tg := .n 2) (body := fun δ st => (Ss.cons (.set (.n 1) (.call f_plus (.cons (.v 1) (.cons (.v 2) .nil)))) .nil).ev (Cn k) δ st) l
    (fun done δ st' => ∃ a, δ = [some (.p (.lst (l.map fr))), some (.p (fr (sumQ done))), a] ∧ st = st') (δ := [some (.p (.lst (l.map fr))), some (.p (fr 0)), none]) (st := st) ⟨none, rfl, rfl⟩ (by
    rintro done x rest _ _ hd ⟨a, rfl, rfl⟩
    have hx : Sz x n := h x (by rw [hd]; simp)
    have hl : done.length < l.length := by rw [hd]; simp
    have hdn := hp _ hl
    have ht : l.take done.length = done := by rw [hd]; simp
    rw [ht] at hdn
    have e1 := plus_ok hk (st := st) hdn hx (by omega)
    have e2 : sumQ (done ++ [x]) = sumQ done + x := by
      rw [sumQ_app, sumQ, sumQ, Rat.add_zero]
    simp only [Ss.ev, S.ev, E.ev, Es.ev, It.ev, bind_ok, bind_exc, bind_no, sr_ok, sr_exc, sr_no, Res.two, Res.one, peek_p, keep_p, keeps, tru_b, cx_call, cx_new, cx_glo, cx_sub, cx_dun, cx_inst, cx_fuel, start, List.map_cons, List.map_nil, List.length_cons, List.length_nil, List.reduceReplicate, List.cons_append, List.nil_append, List.getElem?_cons_zero, List.getElem?_cons_succ, List.set_cons_zero, List.set_cons_succ, Nat.reduceAdd, Nat.reduceSub, Nat.reduceLT, Nat.reduceEqDiff, decide_true, decide_false, notOwn, Bool.and_true, Bool.true_and, Bool.and_false, Bool.false_and, Bool.or_true, Bool.true_or, Bool.or_false, Bool.false_or, Bool.not_true, Bool.not_false, Bool.false_eq_true, if_true, if_false, decide_eq_true_eq, omap_some, omap_none, op_add, op_sub, op_addt, cp_eq, cp_ne, cp_lt, cp_le, cp_gt, cp_ge, cp_isn, cp_notn, cp_inn, cp_nin, itemsP, ofO, Tg.put, Tg.puts, putAll, mkL_t, mkL_f, lim_0, lim_1, lim_2, lim_3, lim_4, lim_5, lim_6, lim_7, lim_8, nxP_nx, okP_ok, putS_eq, biW_int, biW_str, biW_tup, biW_lst, biW_bl, biW_non, biW_scr, biW_cel, biW_two, biG, peeks, biP, biL, int_mod, int_fdiv, List.all_cons, List.all_nil, Int.cast_ofNat_Int, Int.reduceEq, Int.reduceLT, Int.reduceLE, Int.reduceAdd, Int.reduceSub, Int.reduceNeg, eqP_int, nrP_nx, nrP_rt, leave_p, leave_nx, cut_self, e1, e2]
    exact ⟨_, rfl, trivial⟩)
  rw [e]
  simp only [Ss.ev, S.ev, E.ev, Es.ev, It.ev, bind_ok, bind_exc, bind_no, sr_ok, sr_exc, sr_no, Res.two, Res.one, peek_p, keep_p, keeps, tru_b, cx_call, cx_new, cx_glo, cx_sub, cx_dun, cx_inst, cx_fuel, start, List.map_cons, List.map_nil, List.length_cons, List.length_nil, List.reduceReplicate, List.cons_append, List.nil_append, List.getElem?_cons_zero, List.getElem?_cons_succ, List.set_cons_zero, List.set_cons_succ, Nat.reduceAdd, Nat.reduceSub, Nat.reduceLT, Nat.reduceEqDiff, decide_true, decide_false, notOwn, Bool.and_true, Bool.true_and, Bool.and_false, Bool.false_and, Bool.or_true, Bool.true_or, Bool.or_false, Bool.false_or, Bool.not_true, Bool.not_false, Bool.false_eq_true, if_true, if_false, decide_eq_true_eq, omap_some, omap_none, op_add, op_sub, op_addt, cp_eq, cp_ne, cp_lt, cp_le, cp_gt, cp_ge, cp_isn, cp_notn, cp_inn, cp_nin, itemsP, ofO, Tg.put, Tg.puts, putAll, mkL_t, mkL_f, lim_0, lim_1, lim_2, lim_3, lim_4, lim_5, lim_6, lim_7, lim_8, nxP_nx, okP_ok, putS_eq, biW_int, biW_str, biW_tup, biW_lst, biW_bl, biW_non, biW_scr, biW_cel, biW_two, biG, peeks, biP, biL, int_mod, int_fdiv, List.all_cons, List.all_nil, Int.cast_ofNat_Int, Int.reduceEq, Int.reduceLT, Int.reduceLE, Int.reduceAdd, Int.reduceSub, Int.reduceNeg, eqP_int, nrP_nx, nrP_rt, leave_p, leave_nx, cut_self]
end Z.U

namespace Z.U
open PySem

def grQ (a x : Rat) : Rat := if a < x then x else a
def leQ (a x : Rat) : Rat := if x < a then x else a
theorem great_ok {m : Nat} (hm : 2 ≤ m) {x : Rat} {l : List Rat} {n : Nat} {st : Sto} (h : ∀ y ∈ x :: l, Sz y n) (hn : n ≤ 8900) : MG.call m f_greatest_of [.p (.lst ((x :: l).map fr))] st = .ok (.p (fr ((x :: l).foldl grQ x))) st := by
  obtain ⟨k, rfl, hk⟩ := suc_of hm
  rw [call_eq fd_greatest_of rfl rfl]
  rw [show d_greatest_of.body = b_greatest_of from rfl, b_greatest_of]
  rw [show start d_greatest_of.ns [W.p (.lst ((x :: l).map fr))] = [some (.p (.lst ((x :: l).map fr))), none, none] from rfl]
  have ix0 : ixP (.lst ((x :: l).map fr)) (.int 0) = some (fr x) := by
    show L2.atI ((x :: l).map fr) ((0 : Nat) : Int) = _
    exact atI_nat rfl
  rw [Ss.ev, show S.ev (Cn k) (.set (.n 1) (.ix (.v 0) (.int 0))) [some (.p (.lst ((x :: l).map fr))), none, none] st = .nx [some (.p (.lst ((x :: l).map fr))), some (.p (fr x)), none] st by
    simp only [S.ev, E.ev, List.getElem?_cons_zero, bind_ok, Res.two, peek_p, ix0, sr_ok]
    rfl]
  dsimp only
  rw [Ss.ev, S.ev, show It.ev (Cn k) (.val (.v 0)) [some (.p (.lst ((x :: l).map fr))), some (.p (fr x)), none] st = .ok ((x :: l).map fr) st by
    simp only [It.ev, E.ev, List.getElem?_cons_zero, bind_ok, keep_p, itemsP, ofO]]
  simp only [sr_ok]
  obtain ⟨δ', st', e, ⟨_, a, rfl, rfl⟩⟩ := forR_pre (e := fr) (tg := .n 2) (body := fun δ st => (Ss.cons (.set (.n 1) (.ife (.call f_is_below (.cons (.v 1) (.cons (.v 2) .nil))) (.v 2) (.v 1))) .nil).ev (Cn k) δ st) (x :: l)
    (fun done δ st' => Sz (done.foldl grQ x) n ∧ ∃ a, δ = [some (.p (.lst ((x :: l).map fr))), some (.p (fr (done.foldl grQ x))), a] ∧ st = st') (δ := [some (.p (.lst ((x :: l).map fr))), some (.p (fr x)), none]) (st := st) ⟨h x (by simp), none, rfl, rfl⟩ (by
    rintro done y rest _ _ hd ⟨hs, a, rfl, rfl⟩
    have hy : Sz y n := h y (by rw [hd]; simp)
    have e1 := below_ok hk (st := st) hs hy hn hn
    have e2 : (done ++ [y]).foldl grQ x = grQ (done.foldl grQ x) y := by rw [List.foldl_append]; rfl
    rw [e2]
    by_cases hb : done.foldl grQ x < y
    · rw [show grQ (done.foldl grQ x) y = y from if_pos hb]
      simp only [Ss.ev, S.ev, E.ev, Es.ev, It.ev, bind_ok, bind_exc, bind_no, sr_ok, sr_exc, sr_no, Res.two, Res.one, peek_p, keep_p, keeps, tru_b, cx_call, cx_new, cx_glo, cx_sub, cx_dun, cx_inst, cx_fuel, start, List.map_cons, List.map_nil, List.length_cons, List.length_nil, List.reduceReplicate, List.cons_append, List.nil_append, List.getElem?_cons_zero, List.getElem?_cons_succ, List.set_cons_zero, List.set_cons_succ, Nat.reduceAdd, Nat.reduceSub, Nat.reduceLT, Nat.reduceEqDiff, decide_true, decide_false, notOwn, Bool.and_true, Bool.true_and, Bool.and_false, Bool.false_and, Bool.or_true, Bool.true_or, Bool.or_false, Bool.false_or, Bool.not_true, Bool.not_false, Bool.false_eq_true, if_true, if_false, decide_eq_true_eq, omap_some, omap_none, op_add, op_sub, op_addt, cp_eq, cp_ne, cp_lt, cp_le, cp_gt, cp_ge, cp_isn, cp_notn, cp_inn, cp_nin, itemsP, ofO, Tg.put, Tg.puts, putAll, mkL_t, mkL_f, lim_0, lim_1, lim_2, lim_3, lim_4, lim_5, lim_6, lim_7, lim_8, nxP_nx, okP_ok, putS_eq, biW_int, biW_str, biW_tup, biW_lst, biW_bl, biW_non, biW_scr, biW_cel, biW_two, biG, peeks, biP, biL, int_mod, int_fdiv, List.all_cons, List.all_nil, Int.cast_ofNat_Int, Int.reduceEq, Int.reduceLT, Int.reduceLE, Int.reduceAdd, Int.reduceSub, Int.reduceNeg, eqP_int, nrP_nx, nrP_rt, leave_p, leave_nx, cut_self, e1, hb]
      exact ⟨hy, _, rfl, trivial⟩
    · rw [show grQ (done.foldl grQ x) y = done.foldl grQ x from if_neg hb]
      simp only [Ss.ev, S.ev, E.ev, Es.ev, It.ev, bind_ok, bind_exc, bind_no, sr_ok, sr_exc, sr_no, Res.two, Res.one, peek_p, keep_p, keeps, tru_b, cx_call, cx_new, cx_glo, cx_sub, cx_dun, cx_inst, cx_fuel, start, List.map_cons, List.map_nil, List.length_cons, List.length_nil, List.reduceReplicate, List.cons_append, List.nil_append, List.getElem?_cons_zero, List.getElem?_cons_succ, List.set_cons_zero, List.set_cons_succ, Nat.reduceAdd, Nat.reduceSub, Nat.reduceLT, Nat.reduceEqDiff, decide_true, decide_false, notOwn, Bool.and_true, Bool.true_and, Bool.and_false, Bool.false_and, Bool.or_true, Bool.true_or, Bool.or_false, Bool.false_or, Bool.not_true, Bool.not_false, Bool.false_eq_true, if_true, if_false, decide_eq_true_eq, omap_some, omap_none, op_add, op_sub, op_addt, cp_eq, cp_ne, cp_lt, cp_le, cp_gt, cp_ge, cp_isn, cp_notn, cp_inn, cp_nin, itemsP, ofO, Tg.put, Tg.puts, putAll, mkL_t, mkL_f, lim_0, lim_1, lim_2, lim_3, lim_4, lim_5, lim_6, lim_7, lim_8, nxP_nx, okP_ok, putS_eq, biW_int, biW_str, biW_tup, biW_lst, biW_bl, biW_non, biW_scr, biW_cel, biW_two, biG, peeks, biP, biL, int_mod, int_fdiv, List.all_cons, List.all_nil, Int.cast_ofNat_Int, Int.reduceEq, Int.reduceLT, Int.reduceLE, Int.reduceAdd, Int.reduceSub, Int.reduceNeg, eqP_int, nrP_nx, nrP_rt, leave_p, leave_nx, cut_self, e1, hb]
      exact ⟨hs, _, rfl, trivial⟩)
  rw [e]
  simp only [Ss.ev, S.ev, E.ev, Es.ev, It.ev, bind_ok, bind_exc, bind_no, sr_ok, sr_exc, sr_no, Res.two, Res.one, peek_p, keep_p, keeps, tru_b, cx_call, cx_new, cx_glo, cx_sub, cx_dun, cx_inst, cx_fuel, start, List.map_cons, List.map_nil, List.length_cons, List.length_nil, List.reduceReplicate, List.cons_append, List.nil_append, List.getElem?_cons_zero, List.getElem?_cons_succ, List.set_cons_zero, List.set_cons_succ, Nat.reduceAdd, Nat.reduceSub, Nat.reduceLT, Nat.reduceEqDiff, decide_true, decide_false, notOwn, Bool.and_true, Bool.true_and, Bool.and_false, Bool.false_and, Bool.or_true, Bool.true_or, Bool.or_false, Bool.false_or, Bool.not_true, Bool.not_false, Bool.false_eq_true, if_true, if_false, decide_eq_true_eq, omap_some, omap_none, op_add, op_sub, op_addt, cp_eq, cp_ne, cp_lt, cp_le, cp_gt, cp_ge, cp_isn, cp_notn, cp_inn, cp_nin, itemsP, ofO, Tg.put, Tg.puts, putAll, mkL_t, mkL_f, lim_0, lim_1, lim_2, lim_3, lim_4, lim_5, lim_6, lim_7, lim_8, nxP_nx, okP_ok, putS_eq, biW_int, biW_str, biW_tup, biW_lst, biW_bl, biW_non, biW_scr, biW_cel, biW_two, biG, peeks, biP, biL, int_mod, int_fdiv, List.all_cons, List.all_nil, Int.cast_ofNat_Int, Int.reduceEq, Int.reduceLT, Int.reduceLE, Int.reduceAdd, Int.reduceSub, Int.reduceNeg, eqP_int, nrP_nx, nrP_rt, leave_p, leave_nx, cut_self]
theorem least_ok {m : Nat} (hm : 2 ≤ m) {x : Rat} {l : List Rat} {n : Nat} {st : Sto} (h : ∀ y ∈ x :: l, Sz y n) (hn : n ≤ 8900) : MG.call m f_least_of [.p (.lst ((x :: l).map fr))] st = .ok (.p (fr ((x :: l).foldl leQ x))) st := by
  obtain ⟨k, rfl, hk⟩ := suc_of hm
  rw [call_eq fd_least_of rfl rfl]
  rw [show d_least_of.body = b_least_of from rfl, b_least_of]
  rw [show start d_least_of.ns [W.p (.lst ((x :: l).map fr))] = [some (.p (.lst ((x :: l).map fr))), none, none] from rfl]
  have ix0 : ixP (.lst ((x :: l).map fr)) (.int 0) = some (fr x) := by
    show L2.atI ((x :: l).map fr) ((0 : Nat) : Int) = _
    exact atI_nat rfl
  rw [Ss.ev, show S.ev (Cn k) (.set (.n 1) (.ix (.v 0) (.int 0))) [some (.p (.lst ((x :: l).map fr))), none, none] st = .nx [some (.p (.lst ((x :: l).map fr))), some (.p (fr x)), none] st by
    simp only [S.ev, E.ev, List.getElem?_cons_zero, bind_ok, Res.two, peek_p, ix0, sr_ok]
    rfl]
  dsimp only
  rw [Ss.ev, S.ev, show It.ev (Cn k) (.val (.v 0)) [some (.p (.lst ((x :: l).map fr))), some (.p (fr x)), none] st = .ok ((x :: l).map fr) st by
    simp only [It.ev, E.ev, List.getElem?_cons_zero, bind_ok, keep_p, itemsP, ofO]]
  simp only [sr_ok]
  obtain ⟨δ', st', e, ⟨_, a, rfl, rfl⟩⟩ := forR_pre (e := fr) (tg := .n 2) (body := fun δ st => (Ss.cons (.set (.n 1) (.ife (.call f_is_below (.cons (.v 2) (.cons (.v 1) .nil))) (.v 2) (.v 1))) .nil).ev (Cn k) δ st) (x :: l)
    (fun done δ st' => Sz (done.foldl leQ x) n ∧ ∃ a, δ = [some (.p (.lst ((x :: l).map fr))), some (.p (fr (done.foldl leQ x))), a] ∧ st = st') (δ := [some (.p (.lst ((x :: l).map fr))), some (.p (fr x)), none]) (st := st) ⟨h x (by simp), none, rfl, rfl⟩ (by
    rintro done y rest _ _ hd ⟨hs, a, rfl, rfl⟩
    have hy : Sz y n := h y (by rw [hd]; simp)
    have e1 := below_ok hk (st := st) hy hs hn hn
    have e2 : (done ++ [y]).foldl leQ x = leQ (done.foldl leQ x) y := by rw [List.foldl_append]; rfl
    rw [e2]
    by_cases hb : y < done.foldl leQ x
    · rw [show leQ (done.foldl leQ x) y = y from if_pos hb]
      simp only [Ss.ev, S.ev, E.ev, Es.ev, It.ev, bind_ok, bind_exc, bind_no, sr_ok, sr_exc, sr_no, Res.two, Res.one, peek_p, keep_p, keeps, tru_b, cx_call, cx_new, cx_glo, cx_sub, cx_dun, cx_inst, cx_fuel, start, List.map_cons, List.map_nil, List.length_cons, List.length_nil, List.reduceReplicate, List.cons_append, List.nil_append, List.getElem?_cons_zero, List.getElem?_cons_succ, List.set_cons_zero, List.set_cons_succ, Nat.reduceAdd, Nat.reduceSub, Nat.reduceLT, Nat.reduceEqDiff, decide_true, decide_false, notOwn, Bool.and_true, Bool.true_and, Bool.and_false, Bool.false_and, Bool.or_true, Bool.true_or, Bool.or_false, Bool.false_or, Bool.not_true, Bool.not_false, Bool.false_eq_true, if_true, if_false, decide_eq_true_eq, omap_some, omap_none, op_add, op_sub, op_addt, cp_eq, cp_ne, cp_lt, cp_le, cp_gt, cp_ge, cp_isn, cp_notn, cp_inn, cp_nin, itemsP, ofO, Tg.put, Tg.puts, putAll, mkL_t, mkL_f, lim_0, lim_1, lim_2, lim_3, lim_4, lim_5, lim_6, lim_7, lim_8, nxP_nx, okP_ok, putS_eq, biW_int, biW_str, biW_tup, biW_lst, biW_bl, biW_non, biW_scr, biW_cel, biW_two, biG, peeks, biP, biL, int_mod, int_fdiv, List.all_cons, List.all_nil, Int.cast_ofNat_Int, Int.reduceEq, Int.reduceLT, Int.reduceLE, Int.reduceAdd, Int.reduceSub, Int.reduceNeg, eqP_int, nrP_nx, nrP_rt, leave_p, leave_nx, cut_self, e1, hb]
      exact ⟨hy, _, rfl, trivial⟩
    · rw [show leQ (done.foldl leQ x) y = done.foldl leQ x from if_neg hb]
      simp only [Ss.ev, S.ev, E.ev, Es.ev, It.ev, bind_ok, bind_exc, bind_no, sr_ok, sr_exc, sr_no, Res.two, Res.one, peek_p, keep_p, keeps, tru_b, cx_call, cx_new, cx_glo, cx_sub, cx_dun, cx_inst, cx_fuel, start, List.map_cons, List.map_nil, List.length_cons, List.length_nil, List.reduceReplicate, List.cons_append, List.nil_append, List.getElem?_cons_zero, List.getElem?_cons_succ, List.set_cons_zero, List.set_cons_succ, Nat.reduceAdd, Nat.reduceSub, Nat.reduceLT, Nat.reduceEqDiff, decide_true, decide_false, notOwn, Bool.and_true, Bool.true_and, Bool.and_false, Bool.false_and, Bool.or_true, Bool.true_or, Bool.or_false, Bool.false_or, Bool.not_true, Bool.not_false, Bool.false_eq_true, if_true, if_false, decide_eq_true_eq, omap_some, omap_none, op_add, op_sub, op_addt, cp_eq, cp_ne, cp_lt, cp_le, cp_gt, cp_ge, cp_isn, cp_notn, cp_inn, cp_nin, itemsP, ofO, Tg.put, Tg.puts, putAll, mkL_t, mkL_f, lim_0, lim_1, lim_2, lim_3, lim_4, lim_5, lim_6, lim_7, lim_8, nxP_nx, okP_ok, putS_eq, biW_int, biW_str, biW_tup, biW_lst, biW_bl, biW_non, biW_scr, biW_cel, biW_two, biG, peeks, biP, biL, int_mod, int_fdiv, List.all_cons, List.all_nil, Int.cast_ofNat_Int, Int.reduceEq, Int.reduceLT, Int.reduceLE, Int.reduceAdd, Int.reduceSub, Int.reduceNeg, eqP_int, nrP_nx, nrP_rt, leave_p, leave_nx, cut_self, e1, hb]
      exact ⟨hs, _, rfl, trivial⟩)
  rw [e]
  simp only [Ss.ev, S.ev, E.ev, Es.ev, It.ev, bind_ok, bind_exc, bind_no, sr_ok, sr_exc, sr_no, Res.two, Res.one, peek_p, keep_p, keeps, tru_b, cx_call, cx_new, cx_glo, cx_sub, cx_dun, cx_inst, cx_fuel, start, List.map_cons, List.map_nil, List.length_cons, List.length_nil, List.reduceReplicate, List.cons_append, List.nil_append, List.getElem?_cons_zero, List.getElem?_cons_succ, List.set_cons_zero, List.set_cons_succ, Nat.reduceAdd, Nat.reduceSub, Nat.reduceLT, Nat.reduceEqDiff, decide_true, decide_false, notOwn, Bool.and_true, Bool.true_and, Bool.and_false, Bool.false_and, Bool.or_true, Bool.true_or, Bool.or_false, Bool.false_or, Bool.not_true, Bool.not_false, Bool.false_eq_true, if_true, if_false, decide_eq_true_eq, omap_some, omap_none, op_add, op_sub, op_addt, cp_eq, cp_ne, cp_lt, cp_le, cp_gt, cp_ge, cp_isn, cp_notn, cp_inn, cp_nin, itemsP, ofO, Tg.put, Tg.puts, putAll, mkL_t, mkL_f, lim_0, lim_1, lim_2, lim_3, lim_4, lim_5, lim_6, lim_7, lim_8, nxP_nx, okP_ok, putS_eq, biW_int, biW_str, biW_tup, biW_lst, biW_bl, biW_non, biW_scr, biW_cel, biW_two, biG, peeks, biP, biL, int_mod, int_fdiv, List.all_cons, List.all_nil, Int.cast_ofNat_Int, Int.reduceEq, Int.reduceLT, Int.reduceLE, Int.reduceAdd, Int.reduceSub, Int.reduceNeg, eqP_int, nrP_nx, nrP_rt, leave_p, leave_nx, cut_self]
theorem check_web_ok {m : Nat} (hm : 1 ≤ m) {fs : List P} {st : Sto} : MG.call m f_check_web [.p (.ins k_Web fs)] st = .ok (.p .non) st := by
  obtain ⟨n, rfl, hn⟩ := suc_of hm
  rw [call_eq fd_check_web rfl rfl]
  have k : kindP MG.inst (.ins k_Web fs) = true := in_Web
  have s : isP MG.sub (.cls k_Web) (.ins k_Web fs) = true := sb_Web
  simp only [d_check_web, b_check_web, Ss.ev, S.ev, E.ev, Es.ev, It.ev, bind_ok, bind_exc, bind_no, sr_ok, sr_exc, sr_no, Res.two, Res.one, peek_p, keep_p, keeps, tru_b, cx_call, cx_new, cx_glo, cx_sub, cx_dun, cx_inst, cx_fuel, start, List.map_cons, List.map_nil, List.length_cons, List.length_nil, List.reduceReplicate, List.cons_append, List.nil_append, List.getElem?_cons_zero, List.getElem?_cons_succ, List.set_cons_zero, List.set_cons_succ, Nat.reduceAdd, Nat.reduceSub, Nat.reduceLT, Nat.reduceEqDiff, decide_true, decide_false, notOwn, Bool.and_true, Bool.true_and, Bool.and_false, Bool.false_and, Bool.or_true, Bool.true_or, Bool.or_false, Bool.false_or, Bool.not_true, Bool.not_false, Bool.false_eq_true, if_true, if_false, decide_eq_true_eq, omap_some, omap_none, op_add, op_sub, op_addt, cp_eq, cp_ne, cp_lt, cp_le, cp_gt, cp_ge, cp_isn, cp_notn, cp_inn, cp_nin, itemsP, ofO, Tg.put, Tg.puts, putAll, mkL_t, mkL_f, lim_0, lim_1, lim_2, lim_3, lim_4, lim_5, lim_6, lim_7, lim_8, nxP_nx, okP_ok, putS_eq, biW_int, biW_str, biW_tup, biW_lst, biW_bl, biW_non, biW_scr, biW_cel, biW_two, biG, peeks, biP, biL, int_mod, int_fdiv, List.all_cons, List.all_nil, Int.cast_ofNat_Int, Int.reduceEq, Int.reduceLT, Int.reduceLE, Int.reduceAdd, Int.reduceSub, Int.reduceNeg, eqP_int, nrP_nx, nrP_rt, leave_p, leave_nx, cut_self, k, s]
abbrev Ld := List Nat × Rat
def ldP (q : Ld) : P := .tup [wyP q.1, .int q.2.num, .int (q.2.den : Nat)]
def ldsP (l : List Ld) : P := .tup (l.map ldP)
theorem cl_ld {q : Ld} {n : Nat} : (ldP q).cl (n + 2) = true := by
  rw [ldP, P.cl, P.cls, cl_wy]
  rfl
theorem wy_inj {a b : List Nat} (h : wyP a = wyP b) : a = b := by
  injection h with h
  have : ∀ a b : List Nat, a.map ixs = b.map ixs → a = b := by
    intro a
    induction a with
    | nil => intro b h; cases b <;> simp_all
    | cons x a ih =>
      intro b h
      cases b with
      | nil => simp at h
      | cons y b =>
        rw [List.map_cons, List.map_cons] at h
        injection h with h1 h2
        have := P.int.inj h1
        rw [ih b h2]
        congr 1
        omega
  exact this a b h
theorem wy_in {w : List Nat} {ws : List (List Nat)} : eqAny (wyP w) (ws.map wyP) = some (decide (w ∈ ws)) := by
  apply eqAny_of (n := 1) cl_wy (cls_map (fun a => cl_wy) _)
  rw [decide_eq_true_eq, List.mem_map]
  constructor
  · exact fun h => ⟨w, h, rfl⟩
  · rintro ⟨j, hj, e⟩
    exact wy_inj e ▸ hj
theorem cp_inway {x : P} {ws : List (List Nat)} : cpP .inn x (.tup (ws.map wyP)) = eqAny x (ws.map wyP) := by cases x <;> rfl
theorem any_false {α : Type} {l : List α} : (l.map fun _ => false).any id = false := by
  induction l with
  | nil => rfl
  | cons x l ih => rw [List.map_cons, List.any_cons, ih]; rfl
theorem is_way_ok {m : Nat} (hm : 1 ≤ m) {o g : Nat} {rs : List Rd} {w : List Nat} (hw : w.length ≤ 16777216) {st : Sto} : MG.call m f_is_way [.p (webP o g rs), .p (wyP w)] st = .ok (.p (.bl (decide (w ∈ waysOf o g rs)))) st := by
  obtain ⟨n, rfl, hn⟩ := suc_of hm
  rw [call_eq fd_is_way rfl rfl]
  have k : kindP MG.inst (wyP w) = true := rfl
  have hi : isP MG.sub .tuple (wyP w) = true := rfl
  have a1 : (E.bi .any false (.cons (.lc false [2] (.n 2) (.val (.v 1)) (.bl true) (.isi .bool (.v 2))) .nil)).ev (Cn n) [some (.p (webP o g rs)), some (.p (wyP w)), none] st = .ok (.p (.bl false)) st := by
    have m : (E.lc false [2] (.n 2) (.val (.v 1)) (.bl true) (.isi .bool (.v 2))).ev (Cn n) [some (.p (webP o g rs)), some (.p (wyP w)), none] st = mkL false (w.map fun _ => P.bl false) st := by
      refine lc_all (em := ixs) (by simp only [Ss.ev, S.ev, E.ev, Es.ev, It.ev, bind_ok, bind_exc, bind_no, sr_ok, sr_exc, sr_no, Res.two, Res.one, peek_p, keep_p, keeps, tru_b, cx_call, cx_new, cx_glo, cx_sub, cx_dun, cx_inst, cx_fuel, start, List.map_cons, List.map_nil, List.length_cons, List.length_nil, List.reduceReplicate, List.cons_append, List.nil_append, List.getElem?_cons_zero, List.getElem?_cons_succ, List.set_cons_zero, List.set_cons_succ, Nat.reduceAdd, Nat.reduceSub, Nat.reduceLT, Nat.reduceEqDiff, decide_true, decide_false, notOwn, Bool.and_true, Bool.true_and, Bool.and_false, Bool.false_and, Bool.or_true, Bool.true_or, Bool.or_false, Bool.false_or, Bool.not_true, Bool.not_false, Bool.false_eq_true, if_true, if_false, decide_eq_true_eq, omap_some, omap_none, op_add, op_sub, op_addt, cp_eq, cp_ne, cp_lt, cp_le, cp_gt, cp_ge, cp_isn, cp_notn, cp_inn, cp_nin, itemsP, ofO, Tg.put, Tg.puts, putAll, mkL_t, mkL_f, lim_0, lim_1, lim_2, lim_3, lim_4, lim_5, lim_6, lim_7, lim_8, nxP_nx, okP_ok, putS_eq, biW_int, biW_str, biW_tup, biW_lst, biW_bl, biW_non, biW_scr, biW_cel, biW_two, biG, peeks, biP, biL, int_mod, int_fdiv, List.all_cons, List.all_nil, Int.cast_ofNat_Int, Int.reduceEq, Int.reduceLT, Int.reduceLE, Int.reduceAdd, Int.reduceSub, Int.reduceNeg, eqP_int, nrP_nx, nrP_rt, leave_p, leave_nx, cut_self, wyP]) _ (fun i hi => ?_) hw
      rw [lcS_put (δ1 := [some (.p (webP o g rs)), some (.p (wyP w)), some (.p (ixs i))]) rfl]
      have k : kindP MG.inst (ixs i) = true := rfl
      have hi : isP MG.sub .bool (ixs i) = false := rfl
      simp only [Ss.ev, S.ev, E.ev, Es.ev, It.ev, bind_ok, bind_exc, bind_no, sr_ok, sr_exc, sr_no, Res.two, Res.one, peek_p, keep_p, keeps, tru_b, cx_call, cx_new, cx_glo, cx_sub, cx_dun, cx_inst, cx_fuel, start, List.map_cons, List.map_nil, List.length_cons, List.length_nil, List.reduceReplicate, List.cons_append, List.nil_append, List.getElem?_cons_zero, List.getElem?_cons_succ, List.set_cons_zero, List.set_cons_succ, Nat.reduceAdd, Nat.reduceSub, Nat.reduceLT, Nat.reduceEqDiff, decide_true, decide_false, notOwn, Bool.and_true, Bool.true_and, Bool.and_false, Bool.false_and, Bool.or_true, Bool.true_or, Bool.or_false, Bool.false_or, Bool.not_true, Bool.not_false, Bool.false_eq_true, if_true, if_false, decide_eq_true_eq, omap_some, omap_none, op_add, op_sub, op_addt, cp_eq, cp_ne, cp_lt, cp_le, cp_gt, cp_ge, cp_isn, cp_notn, cp_inn, cp_nin, itemsP, ofO, Tg.put, Tg.puts, putAll, mkL_t, mkL_f, lim_0, lim_1, lim_2, lim_3, lim_4, lim_5, lim_6, lim_7, lim_8, nxP_nx, okP_ok, putS_eq, biW_int, biW_str, biW_tup, biW_lst, biW_bl, biW_non, biW_scr, biW_cel, biW_two, biG, peeks, biP, biL, int_mod, int_fdiv, List.all_cons, List.all_nil, Int.cast_ofNat_Int, Int.reduceEq, Int.reduceLT, Int.reduceLE, Int.reduceAdd, Int.reduceSub, Int.reduceNeg, eqP_int, nrP_nx, nrP_rt, leave_p, leave_nx, cut_self, k, hi]
    rw [E.ev, Es.ev, m]
    simp only [Ss.ev, S.ev, E.ev, Es.ev, It.ev, bind_ok, bind_exc, bind_no, sr_ok, sr_exc, sr_no, Res.two, Res.one, peek_p, keep_p, keeps, tru_b, cx_call, cx_new, cx_glo, cx_sub, cx_dun, cx_inst, cx_fuel, start, List.map_cons, List.map_nil, List.length_cons, List.length_nil, List.reduceReplicate, List.cons_append, List.nil_append, List.getElem?_cons_zero, List.getElem?_cons_succ, List.set_cons_zero, List.set_cons_succ, Nat.reduceAdd, Nat.reduceSub, Nat.reduceLT, Nat.reduceEqDiff, decide_true, decide_false, notOwn, Bool.and_true, Bool.true_and, Bool.and_false, Bool.false_and, Bool.or_true, Bool.true_or, Bool.or_false, Bool.false_or, Bool.not_true, Bool.not_false, Bool.false_eq_true, if_true, if_false, decide_eq_true_eq, omap_some, omap_none, op_add, op_sub, op_addt, cp_eq, cp_ne, cp_lt, cp_le, cp_gt, cp_ge, cp_isn, cp_notn, cp_inn, cp_nin, itemsP, ofO, Tg.put, Tg.puts, putAll, mkL_t, mkL_f, lim_0, lim_1, lim_2, lim_3, lim_4, lim_5, lim_6, lim_7, lim_8, nxP_nx, okP_ok, putS_eq, biW_int, biW_str, biW_tup, biW_lst, biW_bl, biW_non, biW_scr, biW_cel, biW_two, biG, peeks, biP, biL, int_mod, int_fdiv, List.all_cons, List.all_nil, Int.cast_ofNat_Int, Int.reduceEq, Int.reduceLT, Int.reduceLE, Int.reduceAdd, Int.reduceSub, Int.reduceNeg, eqP_int, nrP_nx, nrP_rt, leave_p, leave_nx, cut_self, boolsP_map (f := fun _ => false), any_false]
  have f0 : ∀ st, (E.fld k_Web 0 (.v 0)).ev (Cn n) [some (.p (webP o g rs)), some (.p (wyP w)), none] st = .ok (.p (.tup ((waysOf o g rs).map wyP))) st := fun st => by
    simp only [Ss.ev, S.ev, E.ev, Es.ev, It.ev, bind_ok, bind_exc, bind_no, sr_ok, sr_exc, sr_no, Res.two, Res.one, peek_p, keep_p, keeps, tru_b, cx_call, cx_new, cx_glo, cx_sub, cx_dun, cx_inst, cx_fuel, start, List.map_cons, List.map_nil, List.length_cons, List.length_nil, List.reduceReplicate, List.cons_append, List.nil_append, List.getElem?_cons_zero, List.getElem?_cons_succ, List.set_cons_zero, List.set_cons_succ, Nat.reduceAdd, Nat.reduceSub, Nat.reduceLT, Nat.reduceEqDiff, decide_true, decide_false, notOwn, Bool.and_true, Bool.true_and, Bool.and_false, Bool.false_and, Bool.or_true, Bool.true_or, Bool.or_false, Bool.false_or, Bool.not_true, Bool.not_false, Bool.false_eq_true, if_true, if_false, decide_eq_true_eq, omap_some, omap_none, op_add, op_sub, op_addt, cp_eq, cp_ne, cp_lt, cp_le, cp_gt, cp_ge, cp_isn, cp_notn, cp_inn, cp_nin, itemsP, ofO, Tg.put, Tg.puts, putAll, mkL_t, mkL_f, lim_0, lim_1, lim_2, lim_3, lim_4, lim_5, lim_6, lim_7, lim_8, nxP_nx, okP_ok, putS_eq, biW_int, biW_str, biW_tup, biW_lst, biW_bl, biW_non, biW_scr, biW_cel, biW_two, biG, peeks, biP, biL, int_mod, int_fdiv, List.all_cons, List.all_nil, Int.cast_ofNat_Int, Int.reduceEq, Int.reduceLT, Int.reduceLE, Int.reduceAdd, Int.reduceSub, Int.reduceNeg, eqP_int, nrP_nx, nrP_rt, leave_p, leave_nx, cut_self, webP, webF, beq_self_eq_true]
  rw [show d_is_way.body = b_is_way from rfl, b_is_way]
  rw [show start d_is_way.ns [W.p (webP o g rs), .p (wyP w)] = [some (.p (webP o g rs)), some (.p (wyP w)), none] from rfl]
  have n1 : (E.not (.isi .tuple (.v 1))).ev (Cn n) [some (.p (webP o g rs)), some (.p (wyP w)), none] st = .ok (.p (.bl false)) st := by simp only [Ss.ev, S.ev, E.ev, Es.ev, It.ev, bind_ok, bind_exc, bind_no, sr_ok, sr_exc, sr_no, Res.two, Res.one, peek_p, keep_p, keeps, tru_b, cx_call, cx_new, cx_glo, cx_sub, cx_dun, cx_inst, cx_fuel, start, List.map_cons, List.map_nil, List.length_cons, List.length_nil, List.reduceReplicate, List.cons_append, List.nil_append, List.getElem?_cons_zero, List.getElem?_cons_succ, List.set_cons_zero, List.set_cons_succ, Nat.reduceAdd, Nat.reduceSub, Nat.reduceLT, Nat.reduceEqDiff, decide_true, decide_false, notOwn, Bool.and_true, Bool.true_and, Bool.and_false, Bool.false_and, Bool.or_true, Bool.true_or, Bool.or_false, Bool.false_or, Bool.not_true, Bool.not_false, Bool.false_eq_true, if_true, if_false, decide_eq_true_eq, omap_some, omap_none, op_add, op_sub, op_addt, cp_eq, cp_ne, cp_lt, cp_le, cp_gt, cp_ge, cp_isn, cp_notn, cp_inn, cp_nin, itemsP, ofO, Tg.put, Tg.puts, putAll, mkL_t, mkL_f, lim_0, lim_1, lim_2, lim_3, lim_4, lim_5, lim_6, lim_7, lim_8, nxP_nx, okP_ok, putS_eq, biW_int, biW_str, biW_tup, biW_lst, biW_bl, biW_non, biW_scr, biW_cel, biW_two, biG, peeks, biP, biL, int_mod, int_fdiv, List.all_cons, List.all_nil, Int.cast_ofNat_Int, Int.reduceEq, Int.reduceLT, Int.reduceLE, Int.reduceAdd, Int.reduceSub, Int.reduceNeg, eqP_int, nrP_nx, nrP_rt, leave_p, leave_nx, cut_self, k, hi]
  have o1 : (E.or (.not (.isi .tuple (.v 1))) (.bi .any false (.cons (.lc false [2] (.n 2) (.val (.v 1)) (.bl true) (.isi .bool (.v 2))) .nil))).ev (Cn n) [some (.p (webP o g rs)), some (.p (wyP w)), none] st = .ok (.p (.bl false)) st := by
    rw [E.ev, n1]
    simp only [bind_ok, tru_b, Bool.false_eq_true, if_false, a1]
  have r1 : (E.cmp .inn (.v 1) (.fld k_Web 0 (.v 0))).ev (Cn n) [some (.p (webP o g rs)), some (.p (wyP w)), none] st = .ok (.p (.bl (decide (w ∈ waysOf o g rs)))) st := by
    rw [E.ev]
    simp only [f0]
    simp only [E.ev, List.getElem?_cons_zero, List.getElem?_cons_succ, bind_ok, Res.two, peek_p, cp_inway, wy_in, omap_some]
  rw [Ss.ev, S.ev, o1]
  simp only [sr_ok, tru_b, Bool.false_eq_true, if_false, Ss.ev, S.ev, r1, leave_p, cut_self]
theorem check_way_ok {m : Nat} (hm : 2 ≤ m) {o g : Nat} {rs : List Rd} {w : List Nat} (hw : w.length ≤ 16777216) (h : w ∈ waysOf o g rs) {st : Sto} : MG.call m f_check_way [.p (webP o g rs), .p (wyP w)] st = .ok (.p .non) st := by
  obtain ⟨n, rfl, hn⟩ := suc_of hm
  rw [call_eq fd_check_way rfl rfl]
  have e := is_way_ok hn hw (o := o) (g := g) (rs := rs) (st := st)
  simp only [d_check_way, b_check_way, Ss.ev, S.ev, E.ev, Es.ev, It.ev, bind_ok, bind_exc, bind_no, sr_ok, sr_exc, sr_no, Res.two, Res.one, peek_p, keep_p, keeps, tru_b, cx_call, cx_new, cx_glo, cx_sub, cx_dun, cx_inst, cx_fuel, start, List.map_cons, List.map_nil, List.length_cons, List.length_nil, List.reduceReplicate, List.cons_append, List.nil_append, List.getElem?_cons_zero, List.getElem?_cons_succ, List.set_cons_zero, List.set_cons_succ, Nat.reduceAdd, Nat.reduceSub, Nat.reduceLT, Nat.reduceEqDiff, decide_true, decide_false, notOwn, Bool.and_true, Bool.true_and, Bool.and_false, Bool.false_and, Bool.or_true, Bool.true_or, Bool.or_false, Bool.false_or, Bool.not_true, Bool.not_false, Bool.false_eq_true, if_true, if_false, decide_eq_true_eq, omap_some, omap_none, op_add, op_sub, op_addt, cp_eq, cp_ne, cp_lt, cp_le, cp_gt, cp_ge, cp_isn, cp_notn, cp_inn, cp_nin, itemsP, ofO, Tg.put, Tg.puts, putAll, mkL_t, mkL_f, lim_0, lim_1, lim_2, lim_3, lim_4, lim_5, lim_6, lim_7, lim_8, nxP_nx, okP_ok, putS_eq, biW_int, biW_str, biW_tup, biW_lst, biW_bl, biW_non, biW_scr, biW_cel, biW_two, biG, peeks, biP, biL, int_mod, int_fdiv, List.all_cons, List.all_nil, Int.cast_ofNat_Int, Int.reduceEq, Int.reduceLT, Int.reduceLE, Int.reduceAdd, Int.reduceSub, Int.reduceNeg, eqP_int, nrP_nx, nrP_rt, leave_p, leave_nx, cut_self, e, h]
theorem num_pos {x : Rat} : 0 < x.num ↔ 0 < x := by
  rw [Rat.lt_iff]
  simp
theorem are_frac_ok {m : Nat} (hm : 2 ≤ m) {x : Rat} {n : Nat} (hx : Sz x n) (hn : n ≤ 8900) {st : Sto} : MG.call m f_are_fraction [.p (.int x.num), .p (.int (x.den : Nat))] st = .ok (.p (.bl true)) st := by
  obtain ⟨k, rfl, hk⟩ := suc_of hm
  rw [call_eq fd_are_fraction rfl rfl]
  have e1 := integer_ok hk (x := .int x.num) (st := st) rfl
  have e2 := integer_ok hk (x := .int (x.den : Nat)) (st := st) rfl
  have e3 := com_ok hk (a := x.num) (b := (x.den : Nat)) (st := st) (hx.wd hn)
  have e4 : Int.gcd x.num (x.den : Nat) = 1 := by
    have := x.reduced
    rw [Int.gcd]
    simpa [Nat.Coprime] using this
  have e5 : (0 : Int) < (x.den : Nat) := by have := x.den_pos; omega
  rw [e4] at e3
  simp only [d_are_fraction, b_are_fraction, Ss.ev, S.ev, E.ev, Es.ev, It.ev, bind_ok, bind_exc, bind_no, sr_ok, sr_exc, sr_no, Res.two, Res.one, peek_p, keep_p, keeps, tru_b, cx_call, cx_new, cx_glo, cx_sub, cx_dun, cx_inst, cx_fuel, start, List.map_cons, List.map_nil, List.length_cons, List.length_nil, List.reduceReplicate, List.cons_append, List.nil_append, List.getElem?_cons_zero, List.getElem?_cons_succ, List.set_cons_zero, List.set_cons_succ, Nat.reduceAdd, Nat.reduceSub, Nat.reduceLT, Nat.reduceEqDiff, decide_true, decide_false, notOwn, Bool.and_true, Bool.true_and, Bool.and_false, Bool.false_and, Bool.or_true, Bool.true_or, Bool.or_false, Bool.false_or, Bool.not_true, Bool.not_false, Bool.false_eq_true, if_true, if_false, decide_eq_true_eq, omap_some, omap_none, op_add, op_sub, op_addt, cp_eq, cp_ne, cp_lt, cp_le, cp_gt, cp_ge, cp_isn, cp_notn, cp_inn, cp_nin, itemsP, ofO, Tg.put, Tg.puts, putAll, mkL_t, mkL_f, lim_0, lim_1, lim_2, lim_3, lim_4, lim_5, lim_6, lim_7, lim_8, nxP_nx, okP_ok, putS_eq, biW_int, biW_str, biW_tup, biW_lst, biW_bl, biW_non, biW_scr, biW_cel, biW_two, biG, peeks, biP, biL, int_mod, int_fdiv, List.all_cons, List.all_nil, Int.cast_ofNat_Int, Int.reduceEq, Int.reduceLT, Int.reduceLE, Int.reduceAdd, Int.reduceSub, Int.reduceNeg, eqP_int, nrP_nx, nrP_rt, leave_p, leave_nx, cut_self, e1, e2, e3, isInt, e5]
theorem ld_ix {q : Ld} : ixP (ldP q) (.int 0) = some (wyP q.1) ∧ ixP (ldP q) (.int 1) = some (.int q.2.num) ∧ ixP (ldP q) (.int 2) = some (.int (q.2.den : Nat)) := ⟨rfl, rfl, rfl⟩
theorem is_load_ok {m : Nat} (hm : 3 ≤ m) {o g : Nat} {rs : List Rd} {q : Ld} {n : Nat} (hw : q.1.length ≤ 16777216) (h : q.1 ∈ waysOf o g rs) (h0 : 0 < q.2) (hx : Sz q.2 n) (hn : n ≤ 8900) {st : Sto} : MG.call m f_is_load [.p (webP o g rs), .p (ldP q)] st = .ok (.p (.bl true)) st := by
  obtain ⟨k, rfl, hk⟩ := suc_of hm
  rw [call_eq fd_is_load rfl rfl]
  have kk : kindP MG.inst (ldP q) = true := rfl
  have hi : isP MG.sub .tuple (ldP q) = true := rfl
  have e1 := is_way_ok (m := k) (by omega) hw (o := o) (g := g) (rs := rs) (st := st)
  have e2 := are_frac_ok hk hx hn (st := st)
  obtain ⟨i0, i1, i2⟩ := ld_ix (q := q)
  have hl : biG .len false [W.p (ldP q)] st = .ok (.p (.int 3)) st := rfl
  have hb : biW (Cn k) .len false [W.p (ldP q)] st = biG .len false [W.p (ldP q)] st := rfl
  have hp : 0 < q.2.num := num_pos.mpr h0
  rw [show d_is_load.body = b_is_load from rfl, b_is_load]
  rw [show start d_is_load.ns [W.p (webP o g rs), .p (ldP q)] = [some (.p (webP o g rs)), some (.p (ldP q))] from rfl]
  simp only [Ss.ev, S.ev, E.ev, Es.ev, bind_ok, sr_ok, Res.two, Res.one, peek_p, tru_b, cx_inst, cx_sub, cx_call, List.getElem?_cons_zero, List.getElem?_cons_succ, kk, hi, hb, hl, cp_ne, eqP_int, decide_true, omap_some, Bool.not_true, Bool.not_false, Bool.false_eq_true, if_true, if_false, i0, i1, i2, e1, h, e2, cp_gt, hp, leave_p, cut_self]
end Z.U

namespace Z.U
open PySem

/-- loads as they should be -/
structure LdsOk (o g : Nat) (rs : List Rd) (l : List Ld) (n : Nat) : Prop where
  ne : l ≠ []
  len : l.length ≤ 1000000
  way : ∀ q ∈ l, q.1 ∈ waysOf o g rs
  wl : ∀ q ∈ l, q.1.length ≤ 1000
  pos : ∀ q ∈ l, 0 < q.2
  sz : ∀ q ∈ l, Sz q.2 n
  hn : n ≤ 8900
  asc : ∀ i a b, l[i]? = some a → l[i + 1]? = some b → wle b.1 a.1 = false
theorem intsP_wy {w : List Nat} : intsP (w.map ixs) = some (w.map fun i => ((i : Nat) : Int)) := by
  induction w with
  | nil => rfl
  | cons i w ih => rw [List.map_cons, ixs, intsP, ih]; rfl
theorem lex_wle : ∀ a b : List Nat, HT.lexLt (a.map fun i => ((i : Nat) : Int)) (b.map fun i => ((i : Nat) : Int)) = !wle b a
  | [], [] => rfl
  | [], _ :: _ => rfl
  | _ :: _, [] => rfl
  | x :: xs, y :: ys => by
    rw [List.map_cons, List.map_cons, HT.lexLt, wle, lex_wle xs ys]
    rcases Nat.lt_trichotomy x y with h | h | h
    · have h2 : ¬ ((x : Int) = y) := by omega
      have h3 : ¬ (y < x) := by omega
      have h4 : ¬ (y = x) := by omega
      have h5 : (x : Int) < y := by omega
      simp [h2, h3, h4, h5]
    · subst h
      simp
    · have h2 : ¬ ((x : Int) = y) := by omega
      have h5 : ¬ (x : Int) < y := by omega
      simp [h2, h, h5]
theorem cp_ltw {a b : List Nat} : cpP .lt (wyP a) (wyP b) = some (!wle b a) := by
  show ltT _ _ = _
  unfold ltT
  rw [intsP_wy, intsP_wy]
  simp only [lex_wle]
theorem lds_ix {l : List Ld} {i : Nat} {q : Ld} (h : l[i]? = some q) : ixP (ldsP l) (ixs i) = some (ldP q) := by
  show L2.atI (l.map ldP) (i : Nat) = _
  apply atI_nat
  rw [List.getElem?_map, h]
  rfl
theorem check_loads_ok {m : Nat} (hm : 4 ≤ m) {o g : Nat} {rs : List Rd} {l : List Ld} {n : Nat} (h : LdsOk o g rs l n) {st : Sto} : MG.call m f_check_loads [.p (webP o g rs), .p (ldsP l)] st = .ok (.p .non) st := by
  obtain ⟨k, rfl, hk⟩ := suc_of hm
  rw [call_eq fd_check_loads rfl rfl]
  have kk : kindP MG.inst (ldsP l) = true := rfl
  have hi : isP MG.sub .tuple (ldsP l) = true := rfl
  have e0 : eqP (ldsP l) (.tup []) = some false := by
    rw [ldsP, eq_emp (n := 2) (cls_map (fun a => cl_ld) _)]
    simp [h.ne]
  rw [show d_check_loads.body = b_check_loads from rfl, b_check_loads]
  rw [show start d_check_loads.ns [W.p (webP o g rs), .p (ldsP l)] = [some (.p (webP o g rs)), some (.p (ldsP l)), none] from rfl]
  rw [Ss.ev, show S.ev (Cn k) (.ife (.or (.not (.isi .tuple (.v 1))) (.cmp .eq (.v 1) (.tup .nil))) (.cons .bad .nil) .nil) [some (.p (webP o g rs)), some (.p (ldsP l)), none] st = .nx [some (.p (webP o g rs)), some (.p (ldsP l)), none] st by
    simp only [Ss.ev, S.ev, E.ev, Es.ev, It.ev, bind_ok, bind_exc, bind_no, sr_ok, sr_exc, sr_no, Res.two, Res.one, peek_p, keep_p, keeps, tru_b, cx_call, cx_new, cx_glo, cx_sub, cx_dun, cx_inst, cx_fuel, start, List.map_cons, List.map_nil, List.length_cons, List.length_nil, List.reduceReplicate, List.cons_append, List.nil_append, List.getElem?_cons_zero, List.getElem?_cons_succ, List.set_cons_zero, List.set_cons_succ, Nat.reduceAdd, Nat.reduceSub, Nat.reduceLT, Nat.reduceEqDiff, decide_true, decide_false, notOwn, Bool.and_true, Bool.true_and, Bool.and_false, Bool.false_and, Bool.or_true, Bool.true_or, Bool.or_false, Bool.false_or, Bool.not_true, Bool.not_false, Bool.false_eq_true, if_true, if_false, decide_eq_true_eq, omap_some, omap_none, op_add, op_sub, op_addt, cp_eq, cp_ne, cp_lt, cp_le, cp_gt, cp_ge, cp_isn, cp_notn, cp_inn, cp_nin, itemsP, ofO, Tg.put, Tg.puts, putAll, mkL_t, mkL_f, lim_0, lim_1, lim_2, lim_3, lim_4, lim_5, lim_6, lim_7, lim_8, nxP_nx, okP_ok, putS_eq, biW_int, biW_str, biW_tup, biW_lst, biW_bl, biW_non, biW_scr, biW_cel, biW_two, biG, peeks, biP, biL, int_mod, int_fdiv, List.all_cons, List.all_nil, Int.cast_ofNat_Int, Int.reduceEq, Int.reduceLT, Int.reduceLE, Int.reduceAdd, Int.reduceSub, Int.reduceNeg, eqP_int, nrP_nx, nrP_rt, leave_p, leave_nx, cut_self, kk, hi, e0]]
  dsimp only
  have it1 : (It.rng1 (.bi .len false (.cons (.v 1) .nil))).ev (Cn k) [some (.p (webP o g rs)), some (.p (ldsP l)), none] st = .ok ((List.range l.length).map ixs) st := by
    have rg := rng_nat l.length (by have := h.len; omega)
    simp only [Ss.ev, S.ev, E.ev, Es.ev, It.ev, bind_ok, bind_exc, bind_no, sr_ok, sr_exc, sr_no, Res.two, Res.one, peek_p, keep_p, keeps, tru_b, cx_call, cx_new, cx_glo, cx_sub, cx_dun, cx_inst, cx_fuel, start, List.map_cons, List.map_nil, List.length_cons, List.length_nil, List.reduceReplicate, List.cons_append, List.nil_append, List.getElem?_cons_zero, List.getElem?_cons_succ, List.set_cons_zero, List.set_cons_succ, Nat.reduceAdd, Nat.reduceSub, Nat.reduceLT, Nat.reduceEqDiff, decide_true, decide_false, notOwn, Bool.and_true, Bool.true_and, Bool.and_false, Bool.false_and, Bool.or_true, Bool.true_or, Bool.or_false, Bool.false_or, Bool.not_true, Bool.not_false, Bool.false_eq_true, if_true, if_false, decide_eq_true_eq, omap_some, omap_none, op_add, op_sub, op_addt, cp_eq, cp_ne, cp_lt, cp_le, cp_gt, cp_ge, cp_isn, cp_notn, cp_inn, cp_nin, itemsP, ofO, Tg.put, Tg.puts, putAll, mkL_t, mkL_f, lim_0, lim_1, lim_2, lim_3, lim_4, lim_5, lim_6, lim_7, lim_8, nxP_nx, okP_ok, putS_eq, biW_int, biW_str, biW_tup, biW_lst, biW_bl, biW_non, biW_scr, biW_cel, biW_two, biG, peeks, biP, biL, int_mod, int_fdiv, List.all_cons, List.all_nil, Int.cast_ofNat_Int, Int.reduceEq, Int.reduceLT, Int.reduceLE, Int.reduceAdd, Int.reduceSub, Int.reduceNeg, eqP_int, nrP_nx, nrP_rt, leave_p, leave_nx, cut_self, ldsP, lenP, List.length_map, rg]
    rfl
  rw [Ss.ev, S.ev, it1]
  simp only [sr_ok]
  obtain ⟨δ', st', e, ⟨a, rfl, rfl⟩⟩ := forR_pre (e := ixs) (tg := .n 2) (body := fun δ st => (Ss.cons (.ife (.or (.not (.call f_is_load (.cons (.v 0) (.cons (.ix (.v 1) (.v 2)) .nil)))) (.and (.cmp .gt (.v 2) (.int 0)) (.not (.cmp .lt (.ix (.ix (.v 1) (.op .sub (.v 2) (.int 1))) (.int 0)) (.ix (.ix (.v 1) (.v 2)) (.int 0)))))) (.cons .bad .nil) .nil) .nil).ev (Cn k) δ st) (List.range l.length)
    (fun done δ st' => ∃ a, δ = [some (.p (webP o g rs)), some (.p (ldsP l)), a] ∧ st = st') (δ := [some (.p (webP o g rs)), some (.p (ldsP l)), none]) (st := st) ⟨none, rfl, rfl⟩ (by
    rintro done i rest _ _ hd ⟨a, rfl, rfl⟩
    obtain ⟨hil, hdl⟩ := range_split hd
    obtain ⟨q, hq⟩ : ∃ q, l[i]? = some q := ⟨l[i], List.getElem?_eq_getElem hil⟩
    have mq := List.mem_of_getElem? hq
    have e1 := is_load_ok (m := k) hk (o := o) (g := g) (rs := rs) (q := q) (by have := h.wl q mq; omega) (h.way q mq) (h.pos q mq) (h.sz q mq) h.hn (st := st)
    have i1 := lds_ix hq
    obtain ⟨j0, _, _⟩ := ld_ix (q := q)
    cases i with
    | zero =>
      have c0 : cpP .gt (ixs 0) (.int 0) = some false := rfl
      simp only [Ss.ev, S.ev, E.ev, Es.ev, It.ev, bind_ok, bind_exc, bind_no, sr_ok, sr_exc, sr_no, Res.two, Res.one, peek_p, keep_p, keeps, tru_b, cx_call, cx_new, cx_glo, cx_sub, cx_dun, cx_inst, cx_fuel, start, List.map_cons, List.map_nil, List.length_cons, List.length_nil, List.reduceReplicate, List.cons_append, List.nil_append, List.getElem?_cons_zero, List.getElem?_cons_succ, List.set_cons_zero, List.set_cons_succ, Nat.reduceAdd, Nat.reduceSub, Nat.reduceLT, Nat.reduceEqDiff, decide_true, decide_false, notOwn, Bool.and_true, Bool.true_and, Bool.and_false, Bool.false_and, Bool.or_true, Bool.true_or, Bool.or_false, Bool.false_or, Bool.not_true, Bool.not_false, Bool.false_eq_true, if_true, if_false, decide_eq_true_eq, omap_some, omap_none, op_add, op_sub, op_addt, cp_eq, cp_ne, cp_lt, cp_le, cp_gt, cp_ge, cp_isn, cp_notn, cp_inn, cp_nin, itemsP, ofO, Tg.put, Tg.puts, putAll, mkL_t, mkL_f, lim_0, lim_1, lim_2, lim_3, lim_4, lim_5, lim_6, lim_7, lim_8, nxP_nx, okP_ok, putS_eq, biW_int, biW_str, biW_tup, biW_lst, biW_bl, biW_non, biW_scr, biW_cel, biW_two, biG, peeks, biP, biL, int_mod, int_fdiv, List.all_cons, List.all_nil, Int.cast_ofNat_Int, Int.reduceEq, Int.reduceLT, Int.reduceLE, Int.reduceAdd, Int.reduceSub, Int.reduceNeg, eqP_int, nrP_nx, nrP_rt, leave_p, leave_nx, cut_self, i1, e1, c0]
      exact ⟨_, rfl, trivial⟩
    | succ i =>
      obtain ⟨p, hp⟩ : ∃ p, l[i]? = some p := ⟨l[i], List.getElem?_eq_getElem (by omega)⟩
      have c0 : cpP .gt (ixs (i + 1)) (.int 0) = some true := by
        show some (decide ((0 : Int) < (i + 1 : Nat))) = _
        rw [decide_eq_true (by omega)]
      have c1 : opP .sub (ixs (i + 1)) (.int 1) = some (ixs i) := by
        show some (P.int (((i + 1 : Nat) : Int) - 1)) = _
        congr 2
        omega
      have i2 := lds_ix hp
      obtain ⟨k0, _, _⟩ := ld_ix (q := p)
      have as := h.asc i p q hp hq
      simp only [Ss.ev, S.ev, E.ev, Es.ev, It.ev, bind_ok, bind_exc, bind_no, sr_ok, sr_exc, sr_no, Res.two, Res.one, peek_p, keep_p, keeps, tru_b, cx_call, cx_new, cx_glo, cx_sub, cx_dun, cx_inst, cx_fuel, start, List.map_cons, List.map_nil, List.length_cons, List.length_nil, List.reduceReplicate, List.cons_append, List.nil_append, List.getElem?_cons_zero, List.getElem?_cons_succ, List.set_cons_zero, List.set_cons_succ, Nat.reduceAdd, Nat.reduceSub, Nat.reduceLT, Nat.reduceEqDiff, decide_true, decide_false, notOwn, Bool.and_true, Bool.true_and, Bool.and_false, Bool.false_and, Bool.or_true, Bool.true_or, Bool.or_false, Bool.false_or, Bool.not_true, Bool.not_false, Bool.false_eq_true, if_true, if_false, decide_eq_true_eq, omap_some, omap_none, op_add, op_sub, op_addt, cp_eq, cp_ne, cp_lt, cp_le, cp_gt, cp_ge, cp_isn, cp_notn, cp_inn, cp_nin, itemsP, ofO, Tg.put, Tg.puts, putAll, mkL_t, mkL_f, lim_0, lim_1, lim_2, lim_3, lim_4, lim_5, lim_6, lim_7, lim_8, nxP_nx, okP_ok, putS_eq, biW_int, biW_str, biW_tup, biW_lst, biW_bl, biW_non, biW_scr, biW_cel, biW_two, biG, peeks, biP, biL, int_mod, int_fdiv, List.all_cons, List.all_nil, Int.cast_ofNat_Int, Int.reduceEq, Int.reduceLT, Int.reduceLE, Int.reduceAdd, Int.reduceSub, Int.reduceNeg, eqP_int, nrP_nx, nrP_rt, leave_p, leave_nx, cut_self, i1, e1, c0, c1, i2, j0, k0, cp_ltw, as]
      exact ⟨_, rfl, trivial⟩)
  rw [e]
  simp only [Ss.ev, S.ev, E.ev, Es.ev, It.ev, bind_ok, bind_exc, bind_no, sr_ok, sr_exc, sr_no, Res.two, Res.one, peek_p, keep_p, keeps, tru_b, cx_call, cx_new, cx_glo, cx_sub, cx_dun, cx_inst, cx_fuel, start, List.map_cons, List.map_nil, List.length_cons, List.length_nil, List.reduceReplicate, List.cons_append, List.nil_append, List.getElem?_cons_zero, List.getElem?_cons_succ, List.set_cons_zero, List.set_cons_succ, Nat.reduceAdd, Nat.reduceSub, Nat.reduceLT, Nat.reduceEqDiff, decide_true, decide_false, notOwn, Bool.and_true, Bool.true_and, Bool.and_false, Bool.false_and, Bool.or_true, Bool.true_or, Bool.or_false, Bool.false_or, Bool.not_true, Bool.not_false, Bool.false_eq_true, if_true, if_false, decide_eq_true_eq, omap_some, omap_none, op_add, op_sub, op_addt, cp_eq, cp_ne, cp_lt, cp_le, cp_gt, cp_ge, cp_isn, cp_notn, cp_inn, cp_nin, itemsP, ofO, Tg.put, Tg.puts, putAll, mkL_t, mkL_f, lim_0, lim_1, lim_2, lim_3, lim_4, lim_5, lim_6, lim_7, lim_8, nxP_nx, okP_ok, putS_eq, biW_int, biW_str, biW_tup, biW_lst, biW_bl, biW_non, biW_scr, biW_cel, biW_two, biG, peeks, biP, biL, int_mod, int_fdiv, List.all_cons, List.all_nil, Int.cast_ofNat_Int, Int.reduceEq, Int.reduceLT, Int.reduceLE, Int.reduceAdd, Int.reduceSub, Int.reduceNeg, eqP_int, nrP_nx, nrP_rt, leave_p, leave_nx, cut_self]
def amQ (l : List Ld) : Rat := sumQ (l.map (·.2))
/-- all parts of the loads can be summed -/
structure LSz (l : List Ld) (n n2 : Nat) : Prop where
  one : ∀ q ∈ l, Sz q.2 n
  sub : ∀ l' : List Ld, l'.Sublist l → Sz (amQ l') n2
  sum : n2 + n ≤ 8900
  len : l.length ≤ 1000000
theorem LSz.mono {l l' : List Ld} {n n2 : Nat} (h : LSz l n n2) (s : l'.Sublist l) : LSz l' n n2 :=
  ⟨fun q hq => h.one q (s.subset hq), fun m hm => h.sub m (hm.trans s), h.sum, Nat.le_trans s.length_le h.len⟩
theorem carried_by_ok {m : Nat} (hm : 5 ≤ m) {l : List Ld} {n n2 : Nat} (h : LSz l n n2) {src : P} (hs : itemsP src = some (l.map ldP)) {st : Sto} : MG.call m f_carried_by [.p src] st = .ok (.p (fr (amQ l))) st := by
  obtain ⟨k, rfl, hk⟩ := suc_of hm
  rw [call_eq fd_carried_by rfl rfl]
  have c1 : (E.lc false [1] (.n 1) (.val (.v 0)) (.bl true) (.tup (.cons (.ix (.v 1) (.int 1)) (.cons (.ix (.v 1) (.int 2)) .nil)))).ev (Cn k) [some (.p src), none] st = .ok (.p (.lst (l.map fun q => fr q.2))) st := by
    rw [← mkL_f]
    refine lc_all (em := ldP) (by simp only [It.ev, E.ev, List.getElem?_cons_zero, bind_ok, keep_p, hs, ofO]) _ (fun q hq => ?_) (by have := h.len; omega)
    rw [lcS_put (δ1 := [some (.p src), some (.p (ldP q))]) rfl]
    obtain ⟨_, j1, j2⟩ := ld_ix (q := q)
    simp only [Ss.ev, S.ev, E.ev, Es.ev, It.ev, bind_ok, bind_exc, bind_no, sr_ok, sr_exc, sr_no, Res.two, Res.one, peek_p, keep_p, keeps, tru_b, cx_call, cx_new, cx_glo, cx_sub, cx_dun, cx_inst, cx_fuel, start, List.map_cons, List.map_nil, List.length_cons, List.length_nil, List.reduceReplicate, List.cons_append, List.nil_append, List.getElem?_cons_zero, List.getElem?_cons_succ, List.set_cons_zero, List.set_cons_succ, Nat.reduceAdd, Nat.reduceSub, Nat.reduceLT, Nat.reduceEqDiff, decide_true, decide_false, notOwn, Bool.and_true, Bool.true_and, Bool.and_false, Bool.false_and, Bool.or_true, Bool.true_or, Bool.or_false, Bool.false_or, Bool.not_true, Bool.not_false, Bool.false_eq_true, if_true, if_false, decide_eq_true_eq, omap_some, omap_none, op_add, op_sub, op_addt, cp_eq, cp_ne, cp_lt, cp_le, cp_gt, cp_ge, cp_isn, cp_notn, cp_inn, cp_nin, itemsP, ofO, Tg.put, Tg.puts, putAll, mkL_t, mkL_f, lim_0, lim_1, lim_2, lim_3, lim_4, lim_5, lim_6, lim_7, lim_8, nxP_nx, okP_ok, putS_eq, biW_int, biW_str, biW_tup, biW_lst, biW_bl, biW_non, biW_scr, biW_cel, biW_two, biG, peeks, biP, biL, int_mod, int_fdiv, List.all_cons, List.all_nil, Int.cast_ofNat_Int, Int.reduceEq, Int.reduceLT, Int.reduceLE, Int.reduceAdd, Int.reduceSub, Int.reduceNeg, eqP_int, nrP_nx, nrP_rt, leave_p, leave_nx, cut_self, j1, j2]
    rfl
  have c2 := sum_ok (m := k) hk (l := l.map (·.2)) (n := n) (n2 := n2) (st := st) (by
    intro x hx
    obtain ⟨q, hq, rfl⟩ := List.mem_map.mp hx
    exact h.one q hq) (by
    intro j _
    rw [← List.map_take]
    exact h.sub _ (List.take_sublist j l)) h.sum
  rw [List.map_map] at c2
  rw [show d_carried_by.body = b_carried_by from rfl, b_carried_by]
  rw [show start d_carried_by.ns [W.p src] = [some (.p src), none] from rfl]
  rw [Ss.ev, S.ev, E.ev, Es.ev, c1]
  simp only [bind_ok, Es.ev, cx_call]
  rw [show (l.map fun q => fr q.2) = l.map (fr ∘ fun x => x.2) from rfl, c2]
  simp only [Ss.ev, S.ev, E.ev, Es.ev, It.ev, bind_ok, bind_exc, bind_no, sr_ok, sr_exc, sr_no, Res.two, Res.one, peek_p, keep_p, keeps, tru_b, cx_call, cx_new, cx_glo, cx_sub, cx_dun, cx_inst, cx_fuel, start, List.map_cons, List.map_nil, List.length_cons, List.length_nil, List.reduceReplicate, List.cons_append, List.nil_append, List.getElem?_cons_zero, List.getElem?_cons_succ, List.set_cons_zero, List.set_cons_succ, Nat.reduceAdd, Nat.reduceSub, Nat.reduceLT, Nat.reduceEqDiff, decide_true, decide_false, notOwn, Bool.and_true, Bool.true_and, Bool.and_false, Bool.false_and, Bool.or_true, Bool.true_or, Bool.or_false, Bool.false_or, Bool.not_true, Bool.not_false, Bool.false_eq_true, if_true, if_false, decide_eq_true_eq, omap_some, omap_none, op_add, op_sub, op_addt, cp_eq, cp_ne, cp_lt, cp_le, cp_gt, cp_ge, cp_isn, cp_notn, cp_inn, cp_nin, itemsP, ofO, Tg.put, Tg.puts, putAll, mkL_t, mkL_f, lim_0, lim_1, lim_2, lim_3, lim_4, lim_5, lim_6, lim_7, lim_8, nxP_nx, okP_ok, putS_eq, biW_int, biW_str, biW_tup, biW_lst, biW_bl, biW_non, biW_scr, biW_cel, biW_two, biG, peeks, biP, biL, int_mod, int_fdiv, List.all_cons, List.all_nil, Int.cast_ofNat_Int, Int.reduceEq, Int.reduceLT, Int.reduceLE, Int.reduceAdd, Int.reduceSub, Int.reduceNeg, eqP_int, nrP_nx, nrP_rt, leave_p, leave_nx, cut_self]
  rfl
def onQ (l : List Ld) (i : Nat) : Rat := amQ (l.filter fun q => decide (i ∈ q.1))
theorem len_web {C : Ctx} {n : Nat} (hn : 1 ≤ n) {o g : Nat} {rs : List Rd} (hr : rs.length ≤ 1000) {st : Sto} {c : Bool} : biW (Cn n) .len c [.p (webP o g rs)] st = .ok (.p (.int (rs.length : Nat))) st := by
  have e := len_ok hn (w := .tup ((waysOf o g rs).map wyP)) (e := .tup [plc o, plc g]) (x := .non) (rs := rs) (st := st)
  show (match dunOf .len with
    | some d => match (Cn n).dun k_Web d with
      | some f => ((Cn n).call f [.p (webP o g rs)] st).bind (dunR .len)
      | none => .no
    | none => biG .len c [.p (webP o g rs)] st) = _
  have d0 : (Cn n).dun k_Web 0 = some f_Web____len__ := dn_Web
  have s6 : small62 (rs.length : Int) = true := by
    unfold small62
    rw [Nat.blt_eq]
    omega
  simp only [dunOf, d0, cx_call, webP, webF]
  rw [e]
  have nn : (0 : Int) ≤ (rs.length : Nat) := by omega
  simp only [bind_ok, dunR, nn, decide_true, s6, Bool.and_self, if_true]
theorem road_loads_ok {m : Nat} (hm : 6 ≤ m) {o g : Nat} {rs : List Rd} (hr : rs.length ≤ 1000) {l : List Ld} {n n2 : Nat} (h : LSz l n n2) {st : Sto} : MG.call m f_road_loads_of [.p (webP o g rs), .p (ldsP l)] st = .ok (.p (.tup ((List.range rs.length).map fun i => fr (onQ l i)))) st := by
  obtain ⟨k, rfl, hk⟩ := suc_of hm
  rw [call_eq fd_road_loads_of rfl rfl]
  have it1 : (It.rng1 (.bi .len false (.cons (.v 0) .nil))).ev (Cn k) [some (.p (webP o g rs)), some (.p (ldsP l)), none, none] st = .ok ((List.range rs.length).map ixs) st := by
    have rg := rng_nat rs.length (by omega)
    have lw := len_web (C := Cn k) (n := k) (by omega) (o := o) (g := g) hr (st := st) (c := false)
    rw [It.ev, E.ev, Es.ev]
    simp only [E.ev, Es.ev, List.getElem?_cons_zero, bind_ok, lw, rg, ofO]
    rfl
  have c1 : (E.lc false [2] (.n 2) (.rng1 (.bi .len false (.cons (.v 0) .nil))) (.bl true) (.call f_carried_by (.cons (.lc false [3] (.n 3) (.val (.v 1)) (.cmp .inn (.v 2) (.ix (.v 3) (.int 0))) (.v 3)) .nil))).ev (Cn k) [some (.p (webP o g rs)), some (.p (ldsP l)), none, none] st = .ok (.p (.lst ((List.range rs.length).map fun i => fr (onQ l i)))) st := by
    rw [← mkL_f]
    refine lc_all (em := ixs) it1 _ (fun i hi => ?_) (by rw [List.length_range]; omega)
    rw [lcS_put (δ1 := [some (.p (webP o g rs)), some (.p (ldsP l)), some (.p (ixs i)), none]) rfl]
    have c2 : (E.lc false [3] (.n 3) (.val (.v 1)) (.cmp .inn (.v 2) (.ix (.v 3) (.int 0))) (.v 3)).ev (Cn k) [some (.p (webP o g rs)), some (.p (ldsP l)), some (.p (ixs i)), none] st = .ok (.p (.lst ((l.filter fun q => decide (i ∈ q.1)).map ldP))) st := by
      rw [← mkL_f]
      refine lc_map (em := ldP) (by simp only [Ss.ev, S.ev, E.ev, Es.ev, It.ev, bind_ok, bind_exc, bind_no, sr_ok, sr_exc, sr_no, Res.two, Res.one, peek_p, keep_p, keeps, tru_b, cx_call, cx_new, cx_glo, cx_sub, cx_dun, cx_inst, cx_fuel, start, List.map_cons, List.map_nil, List.length_cons, List.length_nil, List.reduceReplicate, List.cons_append, List.nil_append, List.getElem?_cons_zero, List.getElem?_cons_succ, List.set_cons_zero, List.set_cons_succ, Nat.reduceAdd, Nat.reduceSub, Nat.reduceLT, Nat.reduceEqDiff, decide_true, decide_false, notOwn, Bool.and_true, Bool.true_and, Bool.and_false, Bool.false_and, Bool.or_true, Bool.true_or, Bool.or_false, Bool.false_or, Bool.not_true, Bool.not_false, Bool.false_eq_true, if_true, if_false, decide_eq_true_eq, omap_some, omap_none, op_add, op_sub, op_addt, cp_eq, cp_ne, cp_lt, cp_le, cp_gt, cp_ge, cp_isn, cp_notn, cp_inn, cp_nin, itemsP, ofO, Tg.put, Tg.puts, putAll, mkL_t, mkL_f, lim_0, lim_1, lim_2, lim_3, lim_4, lim_5, lim_6, lim_7, lim_8, nxP_nx, okP_ok, putS_eq, biW_int, biW_str, biW_tup, biW_lst, biW_bl, biW_non, biW_scr, biW_cel, biW_two, biG, peeks, biP, biL, int_mod, int_fdiv, List.all_cons, List.all_nil, Int.cast_ofNat_Int, Int.reduceEq, Int.reduceLT, Int.reduceLE, Int.reduceAdd, Int.reduceSub, Int.reduceNeg, eqP_int, nrP_nx, nrP_rt, leave_p, leave_nx, cut_self, ldsP]) _ _ (fun q hq => ?_) (by have := h.len; omega)
      rw [lcS_put (δ1 := [some (.p (webP o g rs)), some (.p (ldsP l)), some (.p (ixs i)), some (.p (ldP q))]) rfl]
      obtain ⟨j0, j1, j2⟩ := ld_ix (q := q)
      by_cases hiq : i ∈ q.1
      · simp only [Ss.ev, S.ev, E.ev, Es.ev, It.ev, bind_ok, bind_exc, bind_no, sr_ok, sr_exc, sr_no, Res.two, Res.one, peek_p, keep_p, keeps, tru_b, cx_call, cx_new, cx_glo, cx_sub, cx_dun, cx_inst, cx_fuel, start, List.map_cons, List.map_nil, List.length_cons, List.length_nil, List.reduceReplicate, List.cons_append, List.nil_append, List.getElem?_cons_zero, List.getElem?_cons_succ, List.set_cons_zero, List.set_cons_succ, Nat.reduceAdd, Nat.reduceSub, Nat.reduceLT, Nat.reduceEqDiff, decide_true, decide_false, notOwn, Bool.and_true, Bool.true_and, Bool.and_false, Bool.false_and, Bool.or_true, Bool.true_or, Bool.or_false, Bool.false_or, Bool.not_true, Bool.not_false, Bool.false_eq_true, if_true, if_false, decide_eq_true_eq, omap_some, omap_none, op_add, op_sub, op_addt, cp_eq, cp_ne, cp_lt, cp_le, cp_gt, cp_ge, cp_isn, cp_notn, cp_inn, cp_nin, itemsP, ofO, Tg.put, Tg.puts, putAll, mkL_t, mkL_f, lim_0, lim_1, lim_2, lim_3, lim_4, lim_5, lim_6, lim_7, lim_8, nxP_nx, okP_ok, putS_eq, biW_int, biW_str, biW_tup, biW_lst, biW_bl, biW_non, biW_scr, biW_cel, biW_two, biG, peeks, biP, biL, int_mod, int_fdiv, List.all_cons, List.all_nil, Int.cast_ofNat_Int, Int.reduceEq, Int.reduceLT, Int.reduceLE, Int.reduceAdd, Int.reduceSub, Int.reduceNeg, eqP_int, nrP_nx, nrP_rt, leave_p, leave_nx, cut_self, j0, cp_inwy, in_way, hiq]
      · simp only [Ss.ev, S.ev, E.ev, Es.ev, It.ev, bind_ok, bind_exc, bind_no, sr_ok, sr_exc, sr_no, Res.two, Res.one, peek_p, keep_p, keeps, tru_b, cx_call, cx_new, cx_glo, cx_sub, cx_dun, cx_inst, cx_fuel, start, List.map_cons, List.map_nil, List.length_cons, List.length_nil, List.reduceReplicate, List.cons_append, List.nil_append, List.getElem?_cons_zero, List.getElem?_cons_succ, List.set_cons_zero, List.set_cons_succ, Nat.reduceAdd, Nat.reduceSub, Nat.reduceLT, Nat.reduceEqDiff, decide_true, decide_false, notOwn, Bool.and_true, Bool.true_and, Bool.and_false, Bool.false_and, Bool.or_true, Bool.true_or, Bool.or_false, Bool.false_or, Bool.not_true, Bool.not_false, Bool.false_eq_true, if_true, if_false, decide_eq_true_eq, omap_some, omap_none, op_add, op_sub, op_addt, cp_eq, cp_ne, cp_lt, cp_le, cp_gt, cp_ge, cp_isn, cp_notn, cp_inn, cp_nin, itemsP, ofO, Tg.put, Tg.puts, putAll, mkL_t, mkL_f, lim_0, lim_1, lim_2, lim_3, lim_4, lim_5, lim_6, lim_7, lim_8, nxP_nx, okP_ok, putS_eq, biW_int, biW_str, biW_tup, biW_lst, biW_bl, biW_non, biW_scr, biW_cel, biW_two, biG, peeks, biP, biL, int_mod, int_fdiv, List.all_cons, List.all_nil, Int.cast_ofNat_Int, Int.reduceEq, Int.reduceLT, Int.reduceLE, Int.reduceAdd, Int.reduceSub, Int.reduceNeg, eqP_int, nrP_nx, nrP_rt, leave_p, leave_nx, cut_self, j0, cp_inwy, in_way, hiq]
    have c3 := carried_by_ok hk (h.mono (l' := l.filter fun q => decide (i ∈ q.1)) List.filter_sublist) (src := .lst ((l.filter fun q => decide (i ∈ q.1)).map ldP)) rfl (st := st)
    rw [E.ev]
    simp only [bind_ok, tru_b, if_true]
    rw [E.ev, Es.ev, c2]
    simp only [bind_ok, Es.ev, cx_call, c3, keep_p]
    rfl
  rw [show d_road_loads_of.body = b_road_loads_of from rfl, b_road_loads_of]
  rw [show start d_road_loads_of.ns [W.p (webP o g rs), .p (ldsP l)] = [some (.p (webP o g rs)), some (.p (ldsP l)), none, none] from rfl]
  rw [Ss.ev, S.ev, E.ev, Es.ev, c1]
  simp only [Ss.ev, S.ev, E.ev, Es.ev, It.ev, bind_ok, bind_exc, bind_no, sr_ok, sr_exc, sr_no, Res.two, Res.one, peek_p, keep_p, keeps, tru_b, cx_call, cx_new, cx_glo, cx_sub, cx_dun, cx_inst, cx_fuel, start, List.map_cons, List.map_nil, List.length_cons, List.length_nil, List.reduceReplicate, List.cons_append, List.nil_append, List.getElem?_cons_zero, List.getElem?_cons_succ, List.set_cons_zero, List.set_cons_succ, Nat.reduceAdd, Nat.reduceSub, Nat.reduceLT, Nat.reduceEqDiff, decide_true, decide_false, notOwn, Bool.and_true, Bool.true_and, Bool.and_false, Bool.false_and, Bool.or_true, Bool.true_or, Bool.or_false, Bool.false_or, Bool.not_true, Bool.not_false, Bool.false_eq_true, if_true, if_false, decide_eq_true_eq, omap_some, omap_none, op_add, op_sub, op_addt, cp_eq, cp_ne, cp_lt, cp_le, cp_gt, cp_ge, cp_isn, cp_notn, cp_inn, cp_nin, itemsP, ofO, Tg.put, Tg.puts, putAll, mkL_t, mkL_f, lim_0, lim_1, lim_2, lim_3, lim_4, lim_5, lim_6, lim_7, lim_8, nxP_nx, okP_ok, putS_eq, biW_int, biW_str, biW_tup, biW_lst, biW_bl, biW_non, biW_scr, biW_cel, biW_two, biG, peeks, biP, biL, int_mod, int_fdiv, List.all_cons, List.all_nil, Int.cast_ofNat_Int, Int.reduceEq, Int.reduceLT, Int.reduceLE, Int.reduceAdd, Int.reduceSub, Int.reduceNeg, eqP_int, nrP_nx, nrP_rt, leave_p, leave_nx, cut_self]
end Z.U

namespace Z.U
open PySem

theorem roads_ok {m : Nat} (hm : 1 ≤ m) {o g : Nat} {rs : List Rd} {st : Sto} : MG.call m f_Web__roads [.p (webP o g rs)] st = .ok (.p (rdsP rs)) st := by
  obtain ⟨n, rfl, hn⟩ := suc_of hm
  rw [call_eq fd_Web__roads rfl rfl]
  simp only [d_Web__roads, b_Web__roads, Ss.ev, S.ev, E.ev, Es.ev, It.ev, bind_ok, bind_exc, bind_no, sr_ok, sr_exc, sr_no, Res.two, Res.one, peek_p, keep_p, keeps, tru_b, cx_call, cx_new, cx_glo, cx_sub, cx_dun, cx_inst, cx_fuel, start, List.map_cons, List.map_nil, List.length_cons, List.length_nil, List.reduceReplicate, List.cons_append, List.nil_append, List.getElem?_cons_zero, List.getElem?_cons_succ, List.set_cons_zero, List.set_cons_succ, Nat.reduceAdd, Nat.reduceSub, Nat.reduceLT, Nat.reduceEqDiff, decide_true, decide_false, notOwn, Bool.and_true, Bool.true_and, Bool.and_false, Bool.false_and, Bool.or_true, Bool.true_or, Bool.or_false, Bool.false_or, Bool.not_true, Bool.not_false, Bool.false_eq_true, if_true, if_false, decide_eq_true_eq, omap_some, omap_none, op_add, op_sub, op_addt, cp_eq, cp_ne, cp_lt, cp_le, cp_gt, cp_ge, cp_isn, cp_notn, cp_inn, cp_nin, itemsP, ofO, Tg.put, Tg.puts, putAll, mkL_t, mkL_f, lim_0, lim_1, lim_2, lim_3, lim_4, lim_5, lim_6, lim_7, lim_8, nxP_nx, okP_ok, putS_eq, biW_int, biW_str, biW_tup, biW_lst, biW_bl, biW_non, biW_scr, biW_cel, biW_two, biG, peeks, biP, biL, int_mod, int_fdiv, List.all_cons, List.all_nil, Int.cast_ofNat_Int, Int.reduceEq, Int.reduceLT, Int.reduceLE, Int.reduceAdd, Int.reduceSub, Int.reduceNeg, eqP_int, nrP_nx, nrP_rt, leave_p, leave_nx, cut_self, webP, webF, beq_self_eq_true]
theorem origin_ok {m : Nat} (hm : 1 ≤ m) {o g : Nat} {rs : List Rd} {st : Sto} : MG.call m f_Web__origin [.p (webP o g rs)] st = .ok (.p (plc o)) st := by
  obtain ⟨n, rfl, hn⟩ := suc_of hm
  rw [call_eq fd_Web__origin rfl rfl]
  have i0 : ixP (.tup [plc o, plc g]) (.int 0) = some (plc o) := rfl
  simp only [d_Web__origin, b_Web__origin, Ss.ev, S.ev, E.ev, Es.ev, It.ev, bind_ok, bind_exc, bind_no, sr_ok, sr_exc, sr_no, Res.two, Res.one, peek_p, keep_p, keeps, tru_b, cx_call, cx_new, cx_glo, cx_sub, cx_dun, cx_inst, cx_fuel, start, List.map_cons, List.map_nil, List.length_cons, List.length_nil, List.reduceReplicate, List.cons_append, List.nil_append, List.getElem?_cons_zero, List.getElem?_cons_succ, List.set_cons_zero, List.set_cons_succ, Nat.reduceAdd, Nat.reduceSub, Nat.reduceLT, Nat.reduceEqDiff, decide_true, decide_false, notOwn, Bool.and_true, Bool.true_and, Bool.and_false, Bool.false_and, Bool.or_true, Bool.true_or, Bool.or_false, Bool.false_or, Bool.not_true, Bool.not_false, Bool.false_eq_true, if_true, if_false, decide_eq_true_eq, omap_some, omap_none, op_add, op_sub, op_addt, cp_eq, cp_ne, cp_lt, cp_le, cp_gt, cp_ge, cp_isn, cp_notn, cp_inn, cp_nin, itemsP, ofO, Tg.put, Tg.puts, putAll, mkL_t, mkL_f, lim_0, lim_1, lim_2, lim_3, lim_4, lim_5, lim_6, lim_7, lim_8, nxP_nx, okP_ok, putS_eq, biW_int, biW_str, biW_tup, biW_lst, biW_bl, biW_non, biW_scr, biW_cel, biW_two, biG, peeks, biP, biL, int_mod, int_fdiv, List.all_cons, List.all_nil, Int.cast_ofNat_Int, Int.reduceEq, Int.reduceLT, Int.reduceLE, Int.reduceAdd, Int.reduceSub, Int.reduceNeg, eqP_int, nrP_nx, nrP_rt, leave_p, leave_nx, cut_self, webP, webF, beq_self_eq_true, i0]
theorem goal_ok {m : Nat} (hm : 1 ≤ m) {o g : Nat} {rs : List Rd} {st : Sto} : MG.call m f_Web__goal [.p (webP o g rs)] st = .ok (.p (plc g)) st := by
  obtain ⟨n, rfl, hn⟩ := suc_of hm
  rw [call_eq fd_Web__goal rfl rfl]
  have i0 : ixP (.tup [plc o, plc g]) (.int 1) = some (plc g) := rfl
  simp only [d_Web__goal, b_Web__goal, Ss.ev, S.ev, E.ev, Es.ev, It.ev, bind_ok, bind_exc, bind_no, sr_ok, sr_exc, sr_no, Res.two, Res.one, peek_p, keep_p, keeps, tru_b, cx_call, cx_new, cx_glo, cx_sub, cx_dun, cx_inst, cx_fuel, start, List.map_cons, List.map_nil, List.length_cons, List.length_nil, List.reduceReplicate, List.cons_append, List.nil_append, List.getElem?_cons_zero, List.getElem?_cons_succ, List.set_cons_zero, List.set_cons_succ, Nat.reduceAdd, Nat.reduceSub, Nat.reduceLT, Nat.reduceEqDiff, decide_true, decide_false, notOwn, Bool.and_true, Bool.true_and, Bool.and_false, Bool.false_and, Bool.or_true, Bool.true_or, Bool.or_false, Bool.false_or, Bool.not_true, Bool.not_false, Bool.false_eq_true, if_true, if_false, decide_eq_true_eq, omap_some, omap_none, op_add, op_sub, op_addt, cp_eq, cp_ne, cp_lt, cp_le, cp_gt, cp_ge, cp_isn, cp_notn, cp_inn, cp_nin, itemsP, ofO, Tg.put, Tg.puts, putAll, mkL_t, mkL_f, lim_0, lim_1, lim_2, lim_3, lim_4, lim_5, lim_6, lim_7, lim_8, nxP_nx, okP_ok, putS_eq, biW_int, biW_str, biW_tup, biW_lst, biW_bl, biW_non, biW_scr, biW_cel, biW_two, biG, peeks, biP, biL, int_mod, int_fdiv, List.all_cons, List.all_nil, Int.cast_ofNat_Int, Int.reduceEq, Int.reduceLT, Int.reduceLE, Int.reduceAdd, Int.reduceSub, Int.reduceNeg, eqP_int, nrP_nx, nrP_rt, leave_p, leave_nx, cut_self, webP, webF, beq_self_eq_true, i0]
def costQ (r : Rd) (x : Rat) : Rat := (r.base : Rat) + (r.rise : Rat) * x
theorem fr_int {i : Int} : fr (i : Rat) = .tup [.int i, .int 1] := rfl
theorem mk_mul {i : Int} {x : Rat} : mkRat (i * x.num) x.den = (i : Rat) * x := by
  rw [Rat.mul_def']
  congr 1
  show x.den = 1 * x.den
  omega
theorem rd_ix {r : Rd} : ixP (rdP r) (.int 2) = some (.int r.base) ∧ ixP (rdP r) (.int 3) = some (.int r.rise) := ⟨rfl, rfl⟩
theorem zip_map : ∀ (rs : List Rd) (xs : List Rat), zipP (rs.map rdP) (xs.map fr) = (rs.zip xs).map fun q => P.tup [rdP q.1, fr q.2]
  | [], _ => by simp [zipP]
  | _ :: _, [] => by simp [zipP]
  | r :: rs, x :: xs => by
    rw [List.map_cons, List.map_cons, zipP, zip_map rs xs]
    rfl
theorem fr_int2 (i : Int) : P.tup [.int i, .int 1] = fr (i : Rat) := rfl
theorem costs_at_ok {m : Nat} (hm : 4 ≤ m) {o g : Nat} {rs : List Rd} (hr : ∀ r ∈ rs, RdOk r) (hrl : rs.length ≤ 1000) {xs : List Rat} {n : Nat} (hx : ∀ x ∈ xs, Sz x n) (hn : n + 100 ≤ 8900) {st : Sto} : MG.call m f_costs_at [.p (webP o g rs), .p (.tup (xs.map fr))] st = .ok (.p (.tup ((rs.zip xs).map fun q => fr (costQ q.1 q.2)))) st := by
  obtain ⟨ls, ob⟩ := st
  refine pure_call (xs := [webP o g rs, .tup (xs.map fr)]) ?_ ls
  obtain ⟨k, rfl, hk⟩ := suc_of hm
  show MG.call (k + 1) f_costs_at [.p (webP o g rs), .p (.tup (xs.map fr))] ⟨[], ob⟩ = _
  rw [call_eq fd_costs_at rfl rfl]
  rw [show d_costs_at.body = b_costs_at from rfl, b_costs_at]
  rw [show start d_costs_at.ns [W.p (webP o g rs), .p (.tup (xs.map fr))] = [some (.p (webP o g rs)), some (.p (.tup (xs.map fr))), none, none, none] from rfl]
  rw [Ss.ev, show S.ev (Cn k) (.set (.n 2) (.lst true .nil)) [some (.p (webP o g rs)), some (.p (.tup (xs.map fr))), none, none, none] ⟨[], ob⟩ = .nx [some (.p (webP o g rs)), some (.p (.tup (xs.map fr))), some (.cel 0), none, none] ⟨[⟨[], false⟩], ob⟩ by
    simp only [Ss.ev, S.ev, E.ev, Es.ev, It.ev, bind_ok, bind_exc, bind_no, sr_ok, sr_exc, sr_no, Res.two, Res.one, peek_p, keep_p, keeps, tru_b, cx_call, cx_new, cx_glo, cx_sub, cx_dun, cx_inst, cx_fuel, start, List.map_cons, List.map_nil, List.length_cons, List.length_nil, List.reduceReplicate, List.cons_append, List.nil_append, List.getElem?_cons_zero, List.getElem?_cons_succ, List.set_cons_zero, List.set_cons_succ, Nat.reduceAdd, Nat.reduceSub, Nat.reduceLT, Nat.reduceEqDiff, decide_true, decide_false, notOwn, Bool.and_true, Bool.true_and, Bool.and_false, Bool.false_and, Bool.or_true, Bool.true_or, Bool.or_false, Bool.false_or, Bool.not_true, Bool.not_false, Bool.false_eq_true, if_true, if_false, decide_eq_true_eq, omap_some, omap_none, op_add, op_sub, op_addt, cp_eq, cp_ne, cp_lt, cp_le, cp_gt, cp_ge, cp_isn, cp_notn, cp_inn, cp_nin, itemsP, ofO, Tg.put, Tg.puts, putAll, mkL_t, mkL_f, lim_0, lim_1, lim_2, lim_3, lim_4, lim_5, lim_6, lim_7, lim_8, nxP_nx, okP_ok, putS_eq, biW_int, biW_str, biW_tup, biW_lst, biW_bl, biW_non, biW_scr, biW_cel, biW_two, biG, peeks, biP, biL, int_mod, int_fdiv, List.all_cons, List.all_nil, Int.cast_ofNat_Int, Int.reduceEq, Int.reduceLT, Int.reduceLE, Int.reduceAdd, Int.reduceSub, Int.reduceNeg, eqP_int, nrP_nx, nrP_rt, leave_p, leave_nx, cut_self, newC, List.nil_append]]
  dsimp only
  have it1 : ∀ st, (It.zip (.prop k_Web f_Web__roads (.v 0)) (.v 1)).ev (Cn k) [some (.p (webP o g rs)), some (.p (.tup (xs.map fr))), some (.cel 0), none, none] st = .ok ((rs.zip xs).map fun q => P.tup [rdP q.1, fr q.2]) st := fun st => by
    have e1 := roads_ok (m := k) (by omega) (o := o) (g := g) (rs := rs) (st := st)
    have e2 : (E.prop k_Web f_Web__roads (.v 0)).ev (Cn k) [some (.p (webP o g rs)), some (.p (.tup (xs.map fr))), some (.cel 0), none, none] st = .ok (.p (rdsP rs)) st := by
      rw [E.ev, E.ev]
      simp only [List.getElem?_cons_zero, bind_ok, webP, beq_self_eq_true, if_true, cx_call]
      rw [show P.ins k_Web (webF o g rs) = webP o g rs from rfl, e1, noX_ok]
    rw [It.ev, e2]
    simp only [E.ev, List.getElem?_cons_succ, List.getElem?_cons_zero, bind_ok, keep_p, rdsP, zip_map]
  rw [Ss.ev, S.ev, it1]
  simp only [sr_ok]
  obtain ⟨δ', st', e, ⟨a, b, rfl, rfl⟩⟩ := forR_pre (e := fun q : Rd × Rat => P.tup [rdP q.1, fr q.2]) (tg := .t [.n 3, .n 4]) (body := fun δ st => (Ss.cons (.ex (.lm .append (.v 2) (.cons (.call f_plus (.cons (.tup (.cons (.ix (.v 3) (.int 2)) (.cons (.int 1) .nil))) (.cons (.call f_lowest (.cons (.op .mul (.ix (.v 3) (.int 3)) (.ix (.v 4) (.int 0))) (.cons (.ix (.v 4) (.int 1)) .nil))) .nil))) .nil))) .nil).ev (Cn k) δ st) (rs.zip xs)
    (fun done δ st' => ∃ a b, δ = [some (.p (webP o g rs)), some (.p (.tup (xs.map fr))), some (.cel 0), a, b] ∧ (⟨[⟨done.map fun q => fr (costQ q.1 q.2), false⟩], ob⟩ : Sto) = st') (δ := [some (.p (webP o g rs)), some (.p (.tup (xs.map fr))), some (.cel 0), none, none]) (st := ⟨[⟨[], false⟩], ob⟩) ⟨none, none, rfl, rfl⟩ (by
    rintro done q rest _ _ hd ⟨a, b, rfl, rfl⟩
    have hq : q ∈ rs.zip xs := by rw [hd]; simp
    have ok := hr q.1 (List.of_mem_zip hq).1
    have sx := hx q.2 (List.of_mem_zip hq).2
    have hdl : done.length < 1000 := by
      have := congrArg List.length hd
      simp only [List.length_zip, List.length_append, List.length_cons] at this
      omega
    obtain ⟨i2, i3⟩ := rd_ix (r := q.1)
    have sr : smallI q.1.rise = true := smallI_of (by have := ok.r0; have := ok.r1; omega)
    have l1 := low_ok (m := k) (by omega) (a := q.1.rise * q.2.num) (b := q.2.den) (st := ⟨[⟨done.map fun q => fr (costQ q.1 q.2), false⟩], ob⟩) q.2.den_pos (sx.wd (by omega))
    rw [mk_mul] at l1
    have s1 : Sz (q.1.base : Rat) 20 := sz_int (by have := ok.b0; have := ok.b1; have : (2 : Nat) ^ 20 = 1048576 := rfl; omega) (by decide)
    have s2 : Sz (q.1.rise : Rat) 20 := sz_int (by have := ok.r0; have := ok.r1; have : (2 : Nat) ^ 20 = 1048576 := rfl; omega) (by decide)
    have p1 := plus_ok (m := k) hk (st := ⟨[⟨done.map fun q => fr (costQ q.1 q.2), false⟩], ob⟩) s1 (s2.mul sx) (by omega)
    have w1 : wrt 0 (lmF .append [fr ((q.1.base : Rat) + (q.1.rise : Rat) * q.2)]) (⟨[⟨done.map fun q => fr (costQ q.1 q.2), false⟩], ob⟩ : Sto) = .ok (.p .non) ⟨[⟨(done ++ [q]).map fun q => fr (costQ q.1 q.2), false⟩], ob⟩ := by
      unfold wrt lmF
      simp only [List.getElem?_cons_zero, Bool.false_eq_true, if_false, List.set_cons_zero]
      rw [if_pos (lim_of (by simp; omega))]
      simp [costQ]
    simp only [Ss.ev, S.ev, E.ev, Es.ev, It.ev, bind_ok, bind_exc, bind_no, sr_ok, sr_exc, sr_no, Res.two, Res.one, peek_p, keep_p, keeps, tru_b, cx_call, cx_new, cx_glo, cx_sub, cx_dun, cx_inst, cx_fuel, start, List.map_cons, List.map_nil, List.length_cons, List.length_nil, List.reduceReplicate, List.cons_append, List.nil_append, List.getElem?_cons_zero, List.getElem?_cons_succ, List.set_cons_zero, List.set_cons_succ, Nat.reduceAdd, Nat.reduceSub, Nat.reduceLT, Nat.reduceEqDiff, decide_true, decide_false, notOwn, Bool.and_true, Bool.true_and, Bool.and_false, Bool.false_and, Bool.or_true, Bool.true_or, Bool.or_false, Bool.false_or, Bool.not_true, Bool.not_false, Bool.false_eq_true, if_true, if_false, decide_eq_true_eq, omap_some, omap_none, op_add, op_sub, op_addt, cp_eq, cp_ne, cp_lt, cp_le, cp_gt, cp_ge, cp_isn, cp_notn, cp_inn, cp_nin, itemsP, ofO, Tg.put, Tg.puts, putAll, mkL_t, mkL_f, lim_0, lim_1, lim_2, lim_3, lim_4, lim_5, lim_6, lim_7, lim_8, nxP_nx, okP_ok, putS_eq, biW_int, biW_str, biW_tup, biW_lst, biW_bl, biW_non, biW_scr, biW_cel, biW_two, biG, peeks, biP, biL, int_mod, int_fdiv, List.all_cons, List.all_nil, Int.cast_ofNat_Int, Int.reduceEq, Int.reduceLT, Int.reduceLE, Int.reduceAdd, Int.reduceSub, Int.reduceNeg, eqP_int, nrP_nx, nrP_rt, leave_p, leave_nx, cut_self, i2, i3, fr_ix0, fr_ix1, int_muls sr, fr_int2, l1, p1, w1]
    exact ⟨_, _, rfl, trivial⟩)
  rw [e]
  have pk : peek (⟨[⟨(rs.zip xs).map fun q => fr (costQ q.1 q.2), false⟩], ob⟩ : Sto) (.cel 0) = some (.lst ((rs.zip xs).map fun q => fr (costQ q.1 q.2))) := rfl
  simp only [Ss.ev, S.ev, E.ev, Es.ev, It.ev, bind_ok, bind_exc, bind_no, sr_ok, sr_exc, sr_no, Res.two, Res.one, peek_p, keep_p, keeps, tru_b, cx_call, cx_new, cx_glo, cx_sub, cx_dun, cx_inst, cx_fuel, start, List.map_cons, List.map_nil, List.length_cons, List.length_nil, List.reduceReplicate, List.cons_append, List.nil_append, List.getElem?_cons_zero, List.getElem?_cons_succ, List.set_cons_zero, List.set_cons_succ, Nat.reduceAdd, Nat.reduceSub, Nat.reduceLT, Nat.reduceEqDiff, decide_true, decide_false, notOwn, Bool.and_true, Bool.true_and, Bool.and_false, Bool.false_and, Bool.or_true, Bool.true_or, Bool.or_false, Bool.false_or, Bool.not_true, Bool.not_false, Bool.false_eq_true, if_true, if_false, decide_eq_true_eq, omap_some, omap_none, op_add, op_sub, op_addt, cp_eq, cp_ne, cp_lt, cp_le, cp_gt, cp_ge, cp_isn, cp_notn, cp_inn, cp_nin, itemsP, ofO, Tg.put, Tg.puts, putAll, mkL_t, mkL_f, lim_0, lim_1, lim_2, lim_3, lim_4, lim_5, lim_6, lim_7, lim_8, nxP_nx, okP_ok, putS_eq, biW_int, biW_str, biW_tup, biW_lst, biW_bl, biW_non, biW_scr, biW_cel, biW_two, biG, peeks, biP, biL, int_mod, int_fdiv, List.all_cons, List.all_nil, Int.cast_ofNat_Int, Int.reduceEq, Int.reduceLT, Int.reduceLE, Int.reduceAdd, Int.reduceSub, Int.reduceNeg, eqP_int, nrP_nx, nrP_rt, leave_p, leave_nx, cut_self, pk]
  rfl
def costsL (rs : List Rd) (l : List Ld) : List Rat := (rs.zip ((List.range rs.length).map (onQ l))).map fun q => costQ q.1 q.2
theorem costs_get {rs : List Rd} {l : List Ld} {i : Nat} {r : Rd} (h : rs[i]? = some r) : (costsL rs l)[i]? = some (costQ r (onQ l i)) := by
  have hi : i < rs.length := (List.getElem?_eq_some_iff.mp h).1
  unfold costsL
  rw [List.getElem?_map, (List.getElem?_zip_eq_some (z := (r, onQ l i))).mpr ⟨h, by rw [List.getElem?_map, List.getElem?_range hi]; rfl⟩]
  rfl
theorem costs_len {rs : List Rd} {l : List Ld} : (costsL rs l).length = rs.length := by simp [costsL]
theorem road_costs_ok {m : Nat} (hm : 7 ≤ m) {o g : Nat} {rs : List Rd} (hr : ∀ r ∈ rs, RdOk r) (hrl : rs.length ≤ 1000) {l : List Ld} {n n2 : Nat} (h : LSz l n n2) (hn : n2 + 100 ≤ 8900) {st : Sto} : MG.call m f_road_costs_of [.p (webP o g rs), .p (ldsP l)] st = .ok (.p (.tup ((costsL rs l).map fr))) st := by
  obtain ⟨k, rfl, hk⟩ := suc_of hm
  rw [call_eq fd_road_costs_of rfl rfl]
  have e1 := road_loads_ok hk (o := o) (g := g) hrl h (st := st)
  have e2 := costs_at_ok (m := k) (by omega) (o := o) (g := g) hr hrl (xs := (List.range rs.length).map (onQ l)) (n := n2) (by
    intro x hx
    obtain ⟨i, _, rfl⟩ := List.mem_map.mp hx
    exact h.sub _ List.filter_sublist) hn (st := st)
  rw [List.map_map] at e2
  rw [show (fr ∘ onQ l) = fun i => fr (onQ l i) from rfl] at e2
  simp only [d_road_costs_of, b_road_costs_of, Ss.ev, S.ev, E.ev, Es.ev, It.ev, bind_ok, bind_exc, bind_no, sr_ok, sr_exc, sr_no, Res.two, Res.one, peek_p, keep_p, keeps, tru_b, cx_call, cx_new, cx_glo, cx_sub, cx_dun, cx_inst, cx_fuel, start, List.map_cons, List.map_nil, List.length_cons, List.length_nil, List.reduceReplicate, List.cons_append, List.nil_append, List.getElem?_cons_zero, List.getElem?_cons_succ, List.set_cons_zero, List.set_cons_succ, Nat.reduceAdd, Nat.reduceSub, Nat.reduceLT, Nat.reduceEqDiff, decide_true, decide_false, notOwn, Bool.and_true, Bool.true_and, Bool.and_false, Bool.false_and, Bool.or_true, Bool.true_or, Bool.or_false, Bool.false_or, Bool.not_true, Bool.not_false, Bool.false_eq_true, if_true, if_false, decide_eq_true_eq, omap_some, omap_none, op_add, op_sub, op_addt, cp_eq, cp_ne, cp_lt, cp_le, cp_gt, cp_ge, cp_isn, cp_notn, cp_inn, cp_nin, itemsP, ofO, Tg.put, Tg.puts, putAll, mkL_t, mkL_f, lim_0, lim_1, lim_2, lim_3, lim_4, lim_5, lim_6, lim_7, lim_8, nxP_nx, okP_ok, putS_eq, biW_int, biW_str, biW_tup, biW_lst, biW_bl, biW_non, biW_scr, biW_cel, biW_two, biG, peeks, biP, biL, int_mod, int_fdiv, List.all_cons, List.all_nil, Int.cast_ofNat_Int, Int.reduceEq, Int.reduceLT, Int.reduceLE, Int.reduceAdd, Int.reduceSub, Int.reduceNeg, eqP_int, nrP_nx, nrP_rt, leave_p, leave_nx, cut_self, e1, e2]
  rw [costsL, List.map_map]
  rfl
def wcQ (c : Nat → Rat) (w : List Nat) : Rat := sumQ (w.map c)
/-- sizes of what ways cost -/
structure CSz (c : Nat → Rat) (w : List Nat) (n n2 : Nat) : Prop where
  one : ∀ i ∈ w, Sz (c i) n
  part : ∀ j, Sz (wcQ c (w.take j)) n2
  sum : n2 + n ≤ 8900
  len : w.length ≤ 1000000
theorem CSz.all {c : Nat → Rat} {w : List Nat} {n n2 : Nat} (h : CSz c w n n2) : Sz (wcQ c w) n2 := by
  have := h.part w.length
  rwa [List.take_length] at this
theorem cost_way_ok {m : Nat} (hm : 5 ≤ m) {src : P} {c : Nat → Rat} {w : List Nat} {n n2 : Nat} (h : CSz c w n n2) (hx : ∀ i ∈ w, ixP src (ixs i) = some (fr (c i))) {st : Sto} : MG.call m f_cost_of_way [.p src, .p (wyP w)] st = .ok (.p (fr (wcQ c w))) st := by
  obtain ⟨k, rfl, hk⟩ := suc_of hm
  rw [call_eq fd_cost_of_way rfl rfl]
  have c1 : (E.lc false [2] (.n 2) (.val (.v 1)) (.bl true) (.ix (.v 0) (.v 2))).ev (Cn k) [some (.p src), some (.p (wyP w)), none] st = .ok (.p (.lst (w.map fun i => fr (c i)))) st := by
    rw [← mkL_f]
    refine lc_all (em := ixs) (by simp only [Ss.ev, S.ev, E.ev, Es.ev, It.ev, bind_ok, bind_exc, bind_no, sr_ok, sr_exc, sr_no, Res.two, Res.one, peek_p, keep_p, keeps, tru_b, cx_call, cx_new, cx_glo, cx_sub, cx_dun, cx_inst, cx_fuel, start, List.map_cons, List.map_nil, List.length_cons, List.length_nil, List.reduceReplicate, List.cons_append, List.nil_append, List.getElem?_cons_zero, List.getElem?_cons_succ, List.set_cons_zero, List.set_cons_succ, Nat.reduceAdd, Nat.reduceSub, Nat.reduceLT, Nat.reduceEqDiff, decide_true, decide_false, notOwn, Bool.and_true, Bool.true_and, Bool.and_false, Bool.false_and, Bool.or_true, Bool.true_or, Bool.or_false, Bool.false_or, Bool.not_true, Bool.not_false, Bool.false_eq_true, if_true, if_false, decide_eq_true_eq, omap_some, omap_none, op_add, op_sub, op_addt, cp_eq, cp_ne, cp_lt, cp_le, cp_gt, cp_ge, cp_isn, cp_notn, cp_inn, cp_nin, itemsP, ofO, Tg.put, Tg.puts, putAll, mkL_t, mkL_f, lim_0, lim_1, lim_2, lim_3, lim_4, lim_5, lim_6, lim_7, lim_8, nxP_nx, okP_ok, putS_eq, biW_int, biW_str, biW_tup, biW_lst, biW_bl, biW_non, biW_scr, biW_cel, biW_two, biG, peeks, biP, biL, int_mod, int_fdiv, List.all_cons, List.all_nil, Int.cast_ofNat_Int, Int.reduceEq, Int.reduceLT, Int.reduceLE, Int.reduceAdd, Int.reduceSub, Int.reduceNeg, eqP_int, nrP_nx, nrP_rt, leave_p, leave_nx, cut_self, wyP]) _ (fun i hi => ?_) (by have := h.len; omega)
    rw [lcS_put (δ1 := [some (.p src), some (.p (wyP w)), some (.p (ixs i))]) rfl]
    simp only [Ss.ev, S.ev, E.ev, Es.ev, It.ev, bind_ok, bind_exc, bind_no, sr_ok, sr_exc, sr_no, Res.two, Res.one, peek_p, keep_p, keeps, tru_b, cx_call, cx_new, cx_glo, cx_sub, cx_dun, cx_inst, cx_fuel, start, List.map_cons, List.map_nil, List.length_cons, List.length_nil, List.reduceReplicate, List.cons_append, List.nil_append, List.getElem?_cons_zero, List.getElem?_cons_succ, List.set_cons_zero, List.set_cons_succ, Nat.reduceAdd, Nat.reduceSub, Nat.reduceLT, Nat.reduceEqDiff, decide_true, decide_false, notOwn, Bool.and_true, Bool.true_and, Bool.and_false, Bool.false_and, Bool.or_true, Bool.true_or, Bool.or_false, Bool.false_or, Bool.not_true, Bool.not_false, Bool.false_eq_true, if_true, if_false, decide_eq_true_eq, omap_some, omap_none, op_add, op_sub, op_addt, cp_eq, cp_ne, cp_lt, cp_le, cp_gt, cp_ge, cp_isn, cp_notn, cp_inn, cp_nin, itemsP, ofO, Tg.put, Tg.puts, putAll, mkL_t, mkL_f, lim_0, lim_1, lim_2, lim_3, lim_4, lim_5, lim_6, lim_7, lim_8, nxP_nx, okP_ok, putS_eq, biW_int, biW_str, biW_tup, biW_lst, biW_bl, biW_non, biW_scr, biW_cel, biW_two, biG, peeks, biP, biL, int_mod, int_fdiv, List.all_cons, List.all_nil, Int.cast_ofNat_Int, Int.reduceEq, Int.reduceLT, Int.reduceLE, Int.reduceAdd, Int.reduceSub, Int.reduceNeg, eqP_int, nrP_nx, nrP_rt, leave_p, leave_nx, cut_self, hx i hi]
  have c2 := sum_ok (m := k) hk (l := w.map c) (n := n) (n2 := n2) (st := st) (by
    intro x hx
    obtain ⟨q, hq, rfl⟩ := List.mem_map.mp hx
    exact h.one q hq) (by
    intro j _
    rw [← List.map_take]
    exact h.part j) h.sum
  rw [List.map_map] at c2
  rw [show d_cost_of_way.body = b_cost_of_way from rfl, b_cost_of_way]
  rw [show start d_cost_of_way.ns [W.p src, .p (wyP w)] = [some (.p src), some (.p (wyP w)), none] from rfl]
  rw [Ss.ev, S.ev, E.ev, Es.ev, c1]
  simp only [bind_ok, Es.ev, cx_call]
  rw [show (w.map fun i => fr (c i)) = w.map (fr ∘ c) from rfl, c2]
  simp only [Ss.ev, S.ev, E.ev, Es.ev, It.ev, bind_ok, bind_exc, bind_no, sr_ok, sr_exc, sr_no, Res.two, Res.one, peek_p, keep_p, keeps, tru_b, cx_call, cx_new, cx_glo, cx_sub, cx_dun, cx_inst, cx_fuel, start, List.map_cons, List.map_nil, List.length_cons, List.length_nil, List.reduceReplicate, List.cons_append, List.nil_append, List.getElem?_cons_zero, List.getElem?_cons_succ, List.set_cons_zero, List.set_cons_succ, Nat.reduceAdd, Nat.reduceSub, Nat.reduceLT, Nat.reduceEqDiff, decide_true, decide_false, notOwn, Bool.and_true, Bool.true_and, Bool.and_false, Bool.false_and, Bool.or_true, Bool.true_or, Bool.or_false, Bool.false_or, Bool.not_true, Bool.not_false, Bool.false_eq_true, if_true, if_false, decide_eq_true_eq, omap_some, omap_none, op_add, op_sub, op_addt, cp_eq, cp_ne, cp_lt, cp_le, cp_gt, cp_ge, cp_isn, cp_notn, cp_inn, cp_nin, itemsP, ofO, Tg.put, Tg.puts, putAll, mkL_t, mkL_f, lim_0, lim_1, lim_2, lim_3, lim_4, lim_5, lim_6, lim_7, lim_8, nxP_nx, okP_ok, putS_eq, biW_int, biW_str, biW_tup, biW_lst, biW_bl, biW_non, biW_scr, biW_cel, biW_two, biG, peeks, biP, biL, int_mod, int_fdiv, List.all_cons, List.all_nil, Int.cast_ofNat_Int, Int.reduceEq, Int.reduceLT, Int.reduceLE, Int.reduceAdd, Int.reduceSub, Int.reduceNeg, eqP_int, nrP_nx, nrP_rt, leave_p, leave_nx, cut_self]
  rfl
/-- of some: the greatest, the least -/
def maxQ : List Rat → Rat
  | [] => 0
  | x :: l => (x :: l).foldl grQ x
def minQ : List Rat → Rat
  | [] => 0
  | x :: l => (x :: l).foldl leQ x
theorem great_ok' {m : Nat} (hm : 2 ≤ m) {l : List Rat} (hl : l ≠ []) {n : Nat} {st : Sto} (h : ∀ y ∈ l, Sz y n) (hn : n ≤ 8900) : MG.call m f_greatest_of [.p (.lst (l.map fr))] st = .ok (.p (fr (maxQ l))) st := by
  cases l with
  | nil => exact absurd rfl hl
  | cons x l => exact great_ok hm h hn
theorem least_ok' {m : Nat} (hm : 2 ≤ m) {l : List Rat} (hl : l ≠ []) {n : Nat} {st : Sto} (h : ∀ y ∈ l, Sz y n) (hn : n ≤ 8900) : MG.call m f_least_of [.p (.lst (l.map fr))] st = .ok (.p (fr (minQ l))) st := by
  cases l with
  | nil => exact absurd rfl hl
  | cons x l => exact least_ok hm h hn
theorem least_cost_ok {m : Nat} (hm : 6 ≤ m) {o g : Nat} {rs : List Rd} {src : P} {c : Nat → Rat} {n n2 : Nat} (hne : waysOf o g rs ≠ []) (hlen : (waysOf o g rs).length ≤ 1000000) (h : ∀ w ∈ waysOf o g rs, CSz c w n n2) (hx : ∀ w ∈ waysOf o g rs, ∀ i ∈ w, ixP src (ixs i) = some (fr (c i))) {st : Sto} :
    MG.call m f_least_cost [.p (webP o g rs), .p src] st = .ok (.p (fr (minQ ((waysOf o g rs).map (wcQ c))))) st := by
  obtain ⟨k, rfl, hk⟩ := suc_of hm
  rw [call_eq fd_least_cost rfl rfl]
  have f0 : (E.fld k_Web 0 (.v 0)).ev (Cn k) [some (.p (webP o g rs)), some (.p src), none] st = .ok (.p (.tup ((waysOf o g rs).map wyP))) st := by
    simp only [Ss.ev, S.ev, E.ev, Es.ev, It.ev, bind_ok, bind_exc, bind_no, sr_ok, sr_exc, sr_no, Res.two, Res.one, peek_p, keep_p, keeps, tru_b, cx_call, cx_new, cx_glo, cx_sub, cx_dun, cx_inst, cx_fuel, start, List.map_cons, List.map_nil, List.length_cons, List.length_nil, List.reduceReplicate, List.cons_append, List.nil_append, List.getElem?_cons_zero, List.getElem?_cons_succ, List.set_cons_zero, List.set_cons_succ, Nat.reduceAdd, Nat.reduceSub, Nat.reduceLT, Nat.reduceEqDiff, decide_true, decide_false, notOwn, Bool.and_true, Bool.true_and, Bool.and_false, Bool.false_and, Bool.or_true, Bool.true_or, Bool.or_false, Bool.false_or, Bool.not_true, Bool.not_false, Bool.false_eq_true, if_true, if_false, decide_eq_true_eq, omap_some, omap_none, op_add, op_sub, op_addt, cp_eq, cp_ne, cp_lt, cp_le, cp_gt, cp_ge, cp_isn, cp_notn, cp_inn, cp_nin, itemsP, ofO, Tg.put, Tg.puts, putAll, mkL_t, mkL_f, lim_0, lim_1, lim_2, lim_3, lim_4, lim_5, lim_6, lim_7, lim_8, nxP_nx, okP_ok, putS_eq, biW_int, biW_str, biW_tup, biW_lst, biW_bl, biW_non, biW_scr, biW_cel, biW_two, biG, peeks, biP, biL, int_mod, int_fdiv, List.all_cons, List.all_nil, Int.cast_ofNat_Int, Int.reduceEq, Int.reduceLT, Int.reduceLE, Int.reduceAdd, Int.reduceSub, Int.reduceNeg, eqP_int, nrP_nx, nrP_rt, leave_p, leave_nx, cut_self, webP, webF, beq_self_eq_true]
  have c1 : (E.lc false [2] (.n 2) (.val (.fld k_Web 0 (.v 0))) (.bl true) (.call f_cost_of_way (.cons (.v 1) (.cons (.v 2) .nil)))).ev (Cn k) [some (.p (webP o g rs)), some (.p src), none] st = .ok (.p (.lst ((waysOf o g rs).map fun w => fr (wcQ c w)))) st := by
    rw [← mkL_f]
    refine lc_all (em := wyP) (by rw [It.ev, f0]; simp only [bind_ok, keep_p, itemsP, ofO]) _ (fun w hw => ?_) (by omega)
    rw [lcS_put (δ1 := [some (.p (webP o g rs)), some (.p src), some (.p (wyP w))]) rfl]
    have e1 := cost_way_ok hk (h w hw) (hx w hw) (st := st)
    simp only [Ss.ev, S.ev, E.ev, Es.ev, It.ev, bind_ok, bind_exc, bind_no, sr_ok, sr_exc, sr_no, Res.two, Res.one, peek_p, keep_p, keeps, tru_b, cx_call, cx_new, cx_glo, cx_sub, cx_dun, cx_inst, cx_fuel, start, List.map_cons, List.map_nil, List.length_cons, List.length_nil, List.reduceReplicate, List.cons_append, List.nil_append, List.getElem?_cons_zero, List.getElem?_cons_succ, List.set_cons_zero, List.set_cons_succ, Nat.reduceAdd, Nat.reduceSub, Nat.reduceLT, Nat.reduceEqDiff, decide_true, decide_false, notOwn, Bool.and_true, Bool.true_and, Bool.and_false, Bool.false_and, Bool.or_true, Bool.true_or, Bool.or_false, Bool.false_or, Bool.not_true, Bool.not_false, Bool.false_eq_true, if_true, if_false, decide_eq_true_eq, omap_some, omap_none, op_add, op_sub, op_addt, cp_eq, cp_ne, cp_lt, cp_le, cp_gt, cp_ge, cp_isn, cp_notn, cp_inn, cp_nin, itemsP, ofO, Tg.put, Tg.puts, putAll, mkL_t, mkL_f, lim_0, lim_1, lim_2, lim_3, lim_4, lim_5, lim_6, lim_7, lim_8, nxP_nx, okP_ok, putS_eq, biW_int, biW_str, biW_tup, biW_lst, biW_bl, biW_non, biW_scr, biW_cel, biW_two, biG, peeks, biP, biL, int_mod, int_fdiv, List.all_cons, List.all_nil, Int.cast_ofNat_Int, Int.reduceEq, Int.reduceLT, Int.reduceLE, Int.reduceAdd, Int.reduceSub, Int.reduceNeg, eqP_int, nrP_nx, nrP_rt, leave_p, leave_nx, cut_self, e1]
  have c2 := least_ok' (m := k) (by omega) (l := (waysOf o g rs).map (wcQ c)) (by simpa using hne) (n := n2) (st := st) (by
    intro x hx2
    obtain ⟨w, hw, rfl⟩ := List.mem_map.mp hx2
    exact (h w hw).all) (by
    obtain ⟨w, hw⟩ := List.exists_mem_of_ne_nil _ hne
    have := (h w hw).sum
    omega)
  rw [List.map_map] at c2
  rw [show d_least_cost.body = b_least_cost from rfl, b_least_cost]
  rw [show start d_least_cost.ns [W.p (webP o g rs), .p src] = [some (.p (webP o g rs)), some (.p src), none] from rfl]
  rw [Ss.ev, S.ev, E.ev, Es.ev, c1]
  simp only [bind_ok, Es.ev, cx_call]
  rw [show ((waysOf o g rs).map fun w => fr (wcQ c w)) = (waysOf o g rs).map (fr ∘ wcQ c) from rfl, c2]
  simp only [Ss.ev, S.ev, E.ev, Es.ev, It.ev, bind_ok, bind_exc, bind_no, sr_ok, sr_exc, sr_no, Res.two, Res.one, peek_p, keep_p, keeps, tru_b, cx_call, cx_new, cx_glo, cx_sub, cx_dun, cx_inst, cx_fuel, start, List.map_cons, List.map_nil, List.length_cons, List.length_nil, List.reduceReplicate, List.cons_append, List.nil_append, List.getElem?_cons_zero, List.getElem?_cons_succ, List.set_cons_zero, List.set_cons_succ, Nat.reduceAdd, Nat.reduceSub, Nat.reduceLT, Nat.reduceEqDiff, decide_true, decide_false, notOwn, Bool.and_true, Bool.true_and, Bool.and_false, Bool.false_and, Bool.or_true, Bool.true_or, Bool.or_false, Bool.false_or, Bool.not_true, Bool.not_false, Bool.false_eq_true, if_true, if_false, decide_eq_true_eq, omap_some, omap_none, op_add, op_sub, op_addt, cp_eq, cp_ne, cp_lt, cp_le, cp_gt, cp_ge, cp_isn, cp_notn, cp_inn, cp_nin, itemsP, ofO, Tg.put, Tg.puts, putAll, mkL_t, mkL_f, lim_0, lim_1, lim_2, lim_3, lim_4, lim_5, lim_6, lim_7, lim_8, nxP_nx, okP_ok, putS_eq, biW_int, biW_str, biW_tup, biW_lst, biW_bl, biW_non, biW_scr, biW_cel, biW_two, biG, peeks, biP, biL, int_mod, int_fdiv, List.all_cons, List.all_nil, Int.cast_ofNat_Int, Int.reduceEq, Int.reduceLT, Int.reduceLE, Int.reduceAdd, Int.reduceSub, Int.reduceNeg, eqP_int, nrP_nx, nrP_rt, leave_p, leave_nx, cut_self]
end Z.U

namespace Z.U
open PySem

/-- costs by index -/
def cQ (rs : List Rd) (l : List Ld) (i : Nat) : Rat := (costsL rs l).getD i 0
theorem cQ_eq {rs : List Rd} {l : List Ld} {i : Nat} {r : Rd} (h : rs[i]? = some r) : cQ rs l i = costQ r (onQ l i) := by
  rw [cQ, List.getD_eq_getElem?_getD, costs_get h]
  rfl
theorem cs_ix {rs : List Rd} {l : List Ld} {i : Nat} (h : i < rs.length) : ixP (.tup ((costsL rs l).map fr)) (ixs i) = some (fr (cQ rs l i)) := by
  show L2.atI ((costsL rs l).map fr) (i : Nat) = _
  apply atI_nat
  rw [List.getElem?_map, costs_get (List.getElem?_eq_getElem h), cQ_eq (List.getElem?_eq_getElem h)]
  rfl
theorem kid_lt {g : Nat} {rs : List Rd} : ∀ (r : Nat) (q : Nd) (w : List Nat), (∀ i ∈ q.1, i < rs.length) → w ∈ leaves g rs r q → ∀ i ∈ w, i < rs.length
  | 0, q, w, _, h => by simp [leaves] at h
  | r + 1, q, w, hq, h => by
    rw [leaves, List.mem_append] at h
    rcases h with h | h
    · obtain ⟨i, hi, hk⟩ := hits_mem.mp h
      obtain ⟨_, _, _, _, _, rfl⟩ := kid_hit hk
      intro j hj
      rcases List.mem_append.mp hj with hj | hj
      · exact hq j hj
      · simp at hj
        subst hj
        exact List.mem_range.mp hi
    · obtain ⟨q2, h1, h2⟩ := List.mem_flatMap.mp h
      obtain ⟨i, hi, hk⟩ := push_mem.mp h1
      obtain ⟨_, _, _, _, _, _, _, _, rfl⟩ := kid_push hk
      refine kid_lt r _ w (fun j hj => ?_) h2
      rcases List.mem_append.mp hj with hj | hj
      · exact hq j hj
      · simp at hj
        subst hj
        exact List.mem_range.mp hi
theorem way_lt {o g : Nat} {rs : List Rd} {w : List Nat} (h : w ∈ waysOf o g rs) : ∀ i ∈ w, i < rs.length :=
  kid_lt _ _ w (by simp) (sortG_mem.mp h)
/-- all that is wanted of a web with loads -/
structure Fit (o g : Nat) (rs : List Rd) (l : List Ld) (n n2 n3 n4 : Nat) : Prop where
  web : WebOk o g rs
  lds : LdsOk o g rs l n
  lsz : LSz l n n2
  n2 : n2 + 100 ≤ 8900
  csz : ∀ w ∈ waysOf o g rs, CSz (cQ rs l) w n3 n4
  n4 : n4 + n4 ≤ 8900
def excQ (o g : Nat) (rs : List Rd) (l : List Ld) : Rat := maxQ (l.map fun q => wcQ (cQ rs l) q.1) - minQ ((waysOf o g rs).map (wcQ (cQ rs l)))
theorem ways_ne {o g : Nat} {rs : List Rd} (h : WebOk o g rs) : waysOf o g rs ≠ [] := by
  intro e
  obtain ⟨w, hw, _⟩ := h.on 0 (by have := h.r0; exact List.length_pos_iff.mpr this)
  rw [e] at hw
  cases hw
theorem mx_sz {l : List Rat} {n : Nat} (hl : l ≠ []) (h : ∀ x ∈ l, Sz x n) : Sz (maxQ l) n ∧ Sz (minQ l) n := by
  cases l with
  | nil => exact absurd rfl hl
  | cons x l =>
    have hx := h x (by simp)
    have a : ∀ (m : List Rat) (y : Rat), Sz y n → (∀ z ∈ m, Sz z n) → Sz (m.foldl grQ y) n ∧ Sz (m.foldl leQ y) n := by
      intro m
      induction m with
      | nil => intro y hy _; exact ⟨hy, hy⟩
      | cons z m ih =>
        intro y hy hm
        have hz := hm z (by simp)
        have h1 : Sz (grQ y z) n := by unfold grQ; split <;> assumption
        have h2 : Sz (leQ y z) n := by unfold leQ; split <;> assumption
        exact ⟨(ih _ h1 fun u hu => hm u (List.mem_cons_of_mem _ hu)).1, (ih _ h2 fun u hu => hm u (List.mem_cons_of_mem _ hu)).2⟩
    exact a (x :: l) x hx h
theorem excess_of_ok {m : Nat} (hm : 8 ≤ m) {o g : Nat} {rs : List Rd} {l : List Ld} {n n2 n3 n4 : Nat} (h : Fit o g rs l n n2 n3 n4) {st : Sto} : MG.call m f_excess_of [.p (webP o g rs), .p (ldsP l)] st = .ok (.p (fr (excQ o g rs l))) st := by
  obtain ⟨k, rfl, hk⟩ := suc_of hm
  rw [call_eq fd_excess_of rfl rfl]
  have h8 := h.web.r8
  have e1 := road_costs_ok (m := k) hk (o := o) (g := g) h.web.rd (by omega) h.lsz h.n2 (st := st)
  have wl := ways_len (rs := rs) h.web.ne h.web.r8
  have wn := ways_ne h.web
  have e2 := least_cost_ok (m := k) (by omega) (src := .tup ((costsL rs l).map fr)) wn (by omega) h.csz (fun w hw i hi => cs_ix (way_lt hw i hi)) (st := st)
  have c1 : (E.lc false [3] (.n 3) (.val (.v 1)) (.bl true) (.call f_cost_of_way (.cons (.v 2) (.cons (.ix (.v 3) (.int 0)) .nil)))).ev (Cn k) [some (.p (webP o g rs)), some (.p (ldsP l)), some (.p (.tup ((costsL rs l).map fr))), none] st = .ok (.p (.lst ((l.map fun q => wcQ (cQ rs l) q.1).map fr))) st := by
    rw [← mkL_f, List.map_map]
    refine lc_all (em := ldP) (by simp only [Ss.ev, S.ev, E.ev, Es.ev, It.ev, bind_ok, bind_exc, bind_no, sr_ok, sr_exc, sr_no, Res.two, Res.one, peek_p, keep_p, keeps, tru_b, cx_call, cx_new, cx_glo, cx_sub, cx_dun, cx_inst, cx_fuel, start, List.map_cons, List.map_nil, List.length_cons, List.length_nil, List.reduceReplicate, List.cons_append, List.nil_append, List.getElem?_cons_zero, List.getElem?_cons_succ, List.set_cons_zero, List.set_cons_succ, Nat.reduceAdd, Nat.reduceSub, Nat.reduceLT, Nat.reduceEqDiff, decide_true, decide_false, notOwn, Bool.and_true, Bool.true_and, Bool.and_false, Bool.false_and, Bool.or_true, Bool.true_or, Bool.or_false, Bool.false_or, Bool.not_true, Bool.not_false, Bool.false_eq_true, if_true, if_false, decide_eq_true_eq, omap_some, omap_none, op_add, op_sub, op_addt, cp_eq, cp_ne, cp_lt, cp_le, cp_gt, cp_ge, cp_isn, cp_notn, cp_inn, cp_nin, itemsP, ofO, Tg.put, Tg.puts, putAll, mkL_t, mkL_f, lim_0, lim_1, lim_2, lim_3, lim_4, lim_5, lim_6, lim_7, lim_8, nxP_nx, okP_ok, putS_eq, biW_int, biW_str, biW_tup, biW_lst, biW_bl, biW_non, biW_scr, biW_cel, biW_two, biG, peeks, biP, biL, int_mod, int_fdiv, List.all_cons, List.all_nil, Int.cast_ofNat_Int, Int.reduceEq, Int.reduceLT, Int.reduceLE, Int.reduceAdd, Int.reduceSub, Int.reduceNeg, eqP_int, nrP_nx, nrP_rt, leave_p, leave_nx, cut_self, ldsP]) _ (fun q hq => ?_) (by have := h.lds.len; omega)
    rw [lcS_put (δ1 := [some (.p (webP o g rs)), some (.p (ldsP l)), some (.p (.tup ((costsL rs l).map fr))), some (.p (ldP q))]) rfl]
    obtain ⟨j0, _, _⟩ := ld_ix (q := q)
    have hw := h.lds.way q hq
    have e3 := cost_way_ok (m := k) (by omega) (src := .tup ((costsL rs l).map fr)) (h.csz q.1 hw) (fun i hi => cs_ix (way_lt hw i hi)) (st := st)
    simp only [Ss.ev, S.ev, E.ev, Es.ev, It.ev, bind_ok, bind_exc, bind_no, sr_ok, sr_exc, sr_no, Res.two, Res.one, peek_p, keep_p, keeps, tru_b, cx_call, cx_new, cx_glo, cx_sub, cx_dun, cx_inst, cx_fuel, start, List.map_cons, List.map_nil, List.length_cons, List.length_nil, List.reduceReplicate, List.cons_append, List.nil_append, List.getElem?_cons_zero, List.getElem?_cons_succ, List.set_cons_zero, List.set_cons_succ, Nat.reduceAdd, Nat.reduceSub, Nat.reduceLT, Nat.reduceEqDiff, decide_true, decide_false, notOwn, Bool.and_true, Bool.true_and, Bool.and_false, Bool.false_and, Bool.or_true, Bool.true_or, Bool.or_false, Bool.false_or, Bool.not_true, Bool.not_false, Bool.false_eq_true, if_true, if_false, decide_eq_true_eq, omap_some, omap_none, op_add, op_sub, op_addt, cp_eq, cp_ne, cp_lt, cp_le, cp_gt, cp_ge, cp_isn, cp_notn, cp_inn, cp_nin, itemsP, ofO, Tg.put, Tg.puts, putAll, mkL_t, mkL_f, lim_0, lim_1, lim_2, lim_3, lim_4, lim_5, lim_6, lim_7, lim_8, nxP_nx, okP_ok, putS_eq, biW_int, biW_str, biW_tup, biW_lst, biW_bl, biW_non, biW_scr, biW_cel, biW_two, biG, peeks, biP, biL, int_mod, int_fdiv, List.all_cons, List.all_nil, Int.cast_ofNat_Int, Int.reduceEq, Int.reduceLT, Int.reduceLE, Int.reduceAdd, Int.reduceSub, Int.reduceNeg, eqP_int, nrP_nx, nrP_rt, leave_p, leave_nx, cut_self, j0, e3]
    rfl
  have lne : (l.map fun q => wcQ (cQ rs l) q.1) ≠ [] := by simpa using h.lds.ne
  have s1 : ∀ y ∈ l.map fun q => wcQ (cQ rs l) q.1, Sz y n4 := fun y hy => by
    obtain ⟨q, hq, rfl⟩ := List.mem_map.mp hy
    exact (h.csz q.1 (h.lds.way q hq)).all
  have s2 : ∀ y ∈ (waysOf o g rs).map (wcQ (cQ rs l)), Sz y n4 := fun y hy => by
    obtain ⟨q, hq, rfl⟩ := List.mem_map.mp hy
    exact (h.csz q hq).all
  have e4 := great_ok' (m := k) (by omega) lne s1 (by have := h.n4; omega) (st := st)
  have e5 := less_ok (m := k) (by omega) (mx_sz lne s1).1 (mx_sz (by simpa using wn) s2).2 h.n4 (st := st)
  rw [show d_excess_of.body = b_excess_of from rfl, b_excess_of]
  rw [show start d_excess_of.ns [W.p (webP o g rs), .p (ldsP l)] = [some (.p (webP o g rs)), some (.p (ldsP l)), none, none] from rfl]
  rw [Ss.ev, show S.ev (Cn k) (.set (.n 2) (.call f_road_costs_of (.cons (.v 0) (.cons (.v 1) .nil)))) [some (.p (webP o g rs)), some (.p (ldsP l)), none, none] st = .nx [some (.p (webP o g rs)), some (.p (ldsP l)), some (.p (.tup ((costsL rs l).map fr))), none] st by
    simp only [Ss.ev, S.ev, E.ev, Es.ev, It.ev, bind_ok, bind_exc, bind_no, sr_ok, sr_exc, sr_no, Res.two, Res.one, peek_p, keep_p, keeps, tru_b, cx_call, cx_new, cx_glo, cx_sub, cx_dun, cx_inst, cx_fuel, start, List.map_cons, List.map_nil, List.length_cons, List.length_nil, List.reduceReplicate, List.cons_append, List.nil_append, List.getElem?_cons_zero, List.getElem?_cons_succ, List.set_cons_zero, List.set_cons_succ, Nat.reduceAdd, Nat.reduceSub, Nat.reduceLT, Nat.reduceEqDiff, decide_true, decide_false, notOwn, Bool.and_true, Bool.true_and, Bool.and_false, Bool.false_and, Bool.or_true, Bool.true_or, Bool.or_false, Bool.false_or, Bool.not_true, Bool.not_false, Bool.false_eq_true, if_true, if_false, decide_eq_true_eq, omap_some, omap_none, op_add, op_sub, op_addt, cp_eq, cp_ne, cp_lt, cp_le, cp_gt, cp_ge, cp_isn, cp_notn, cp_inn, cp_nin, itemsP, ofO, Tg.put, Tg.puts, putAll, mkL_t, mkL_f, lim_0, lim_1, lim_2, lim_3, lim_4, lim_5, lim_6, lim_7, lim_8, nxP_nx, okP_ok, putS_eq, biW_int, biW_str, biW_tup, biW_lst, biW_bl, biW_non, biW_scr, biW_cel, biW_two, biG, peeks, biP, biL, int_mod, int_fdiv, List.all_cons, List.all_nil, Int.cast_ofNat_Int, Int.reduceEq, Int.reduceLT, Int.reduceLE, Int.reduceAdd, Int.reduceSub, Int.reduceNeg, eqP_int, nrP_nx, nrP_rt, leave_p, leave_nx, cut_self, e1]]
  dsimp only
  have g1 : (E.call f_greatest_of (.cons (.lc false [3] (.n 3) (.val (.v 1)) (.bl true) (.call f_cost_of_way (.cons (.v 2) (.cons (.ix (.v 3) (.int 0)) .nil)))) .nil)).ev (Cn k) [some (.p (webP o g rs)), some (.p (ldsP l)), some (.p (.tup ((costsL rs l).map fr))), none] st = .ok (.p (fr (maxQ (l.map fun q => wcQ (cQ rs l) q.1)))) st := by
    rw [E.ev, Es.ev, c1]
    simp only [bind_ok, Es.ev, cx_call, e4]
  rw [Ss.ev, S.ev, E.ev, Es.ev, g1]
  simp only [Ss.ev, S.ev, E.ev, Es.ev, It.ev, bind_ok, bind_exc, bind_no, sr_ok, sr_exc, sr_no, Res.two, Res.one, peek_p, keep_p, keeps, tru_b, cx_call, cx_new, cx_glo, cx_sub, cx_dun, cx_inst, cx_fuel, start, List.map_cons, List.map_nil, List.length_cons, List.length_nil, List.reduceReplicate, List.cons_append, List.nil_append, List.getElem?_cons_zero, List.getElem?_cons_succ, List.set_cons_zero, List.set_cons_succ, Nat.reduceAdd, Nat.reduceSub, Nat.reduceLT, Nat.reduceEqDiff, decide_true, decide_false, notOwn, Bool.and_true, Bool.true_and, Bool.and_false, Bool.false_and, Bool.or_true, Bool.true_or, Bool.or_false, Bool.false_or, Bool.not_true, Bool.not_false, Bool.false_eq_true, if_true, if_false, decide_eq_true_eq, omap_some, omap_none, op_add, op_sub, op_addt, cp_eq, cp_ne, cp_lt, cp_le, cp_gt, cp_ge, cp_isn, cp_notn, cp_inn, cp_nin, itemsP, ofO, Tg.put, Tg.puts, putAll, mkL_t, mkL_f, lim_0, lim_1, lim_2, lim_3, lim_4, lim_5, lim_6, lim_7, lim_8, nxP_nx, okP_ok, putS_eq, biW_int, biW_str, biW_tup, biW_lst, biW_bl, biW_non, biW_scr, biW_cel, biW_two, biG, peeks, biP, biL, int_mod, int_fdiv, List.all_cons, List.all_nil, Int.cast_ofNat_Int, Int.reduceEq, Int.reduceLT, Int.reduceLE, Int.reduceAdd, Int.reduceSub, Int.reduceNeg, eqP_int, nrP_nx, nrP_rt, leave_p, leave_nx, cut_self, e2, e5]
  rfl
theorem excess_ok {m : Nat} (hm : 9 ≤ m) {o g : Nat} {rs : List Rd} {l : List Ld} {n n2 n3 n4 : Nat} (h : Fit o g rs l n n2 n3 n4) {st : Sto} : MG.call m f_excess [.p (webP o g rs), .p (ldsP l)] st = .ok (.p (fr (excQ o g rs l))) st := by
  obtain ⟨k, rfl, hk⟩ := suc_of hm
  rw [call_eq fd_excess rfl rfl]
  have e1 : MG.call k f_check_web [.p (webP o g rs)] st = _ := check_web_ok (by omega)
  have e2 := check_loads_ok (m := k) (by omega) h.lds (st := st)
  have e3 := excess_of_ok hk h (st := st)
  simp only [d_excess, b_excess, Ss.ev, S.ev, E.ev, Es.ev, It.ev, bind_ok, bind_exc, bind_no, sr_ok, sr_exc, sr_no, Res.two, Res.one, peek_p, keep_p, keeps, tru_b, cx_call, cx_new, cx_glo, cx_sub, cx_dun, cx_inst, cx_fuel, start, List.map_cons, List.map_nil, List.length_cons, List.length_nil, List.reduceReplicate, List.cons_append, List.nil_append, List.getElem?_cons_zero, List.getElem?_cons_succ, List.set_cons_zero, List.set_cons_succ, Nat.reduceAdd, Nat.reduceSub, Nat.reduceLT, Nat.reduceEqDiff, decide_true, decide_false, notOwn, Bool.and_true, Bool.true_and, Bool.and_false, Bool.false_and, Bool.or_true, Bool.true_or, Bool.or_false, Bool.false_or, Bool.not_true, Bool.not_false, Bool.false_eq_true, if_true, if_false, decide_eq_true_eq, omap_some, omap_none, op_add, op_sub, op_addt, cp_eq, cp_ne, cp_lt, cp_le, cp_gt, cp_ge, cp_isn, cp_notn, cp_inn, cp_nin, itemsP, ofO, Tg.put, Tg.puts, putAll, mkL_t, mkL_f, lim_0, lim_1, lim_2, lim_3, lim_4, lim_5, lim_6, lim_7, lim_8, nxP_nx, okP_ok, putS_eq, biW_int, biW_str, biW_tup, biW_lst, biW_bl, biW_non, biW_scr, biW_cel, biW_two, biG, peeks, biP, biL, int_mod, int_fdiv, List.all_cons, List.all_nil, Int.cast_ofNat_Int, Int.reduceEq, Int.reduceLT, Int.reduceLE, Int.reduceAdd, Int.reduceSub, Int.reduceNeg, eqP_int, nrP_nx, nrP_rt, leave_p, leave_nx, cut_self, e1, e2, e3]
theorem is_steady_ok {m : Nat} (hm : 10 ≤ m) {o g : Nat} {rs : List Rd} {l : List Ld} {n n2 n3 n4 : Nat} (h : Fit o g rs l n n2 n3 n4) {st : Sto} : MG.call m f_is_steady [.p (webP o g rs), .p (ldsP l)] st = .ok (.p (.bl (decide (excQ o g rs l = 0)))) st := by
  obtain ⟨k, rfl, hk⟩ := suc_of hm
  rw [call_eq fd_is_steady rfl rfl]
  have e3 := excess_ok hk h (st := st)
  have z : P.tup [.int 0, .int 1] = fr 0 := rfl
  simp only [d_is_steady, b_is_steady, Ss.ev, S.ev, E.ev, Es.ev, It.ev, bind_ok, bind_exc, bind_no, sr_ok, sr_exc, sr_no, Res.two, Res.one, peek_p, keep_p, keeps, tru_b, cx_call, cx_new, cx_glo, cx_sub, cx_dun, cx_inst, cx_fuel, start, List.map_cons, List.map_nil, List.length_cons, List.length_nil, List.reduceReplicate, List.cons_append, List.nil_append, List.getElem?_cons_zero, List.getElem?_cons_succ, List.set_cons_zero, List.set_cons_succ, Nat.reduceAdd, Nat.reduceSub, Nat.reduceLT, Nat.reduceEqDiff, decide_true, decide_false, notOwn, Bool.and_true, Bool.true_and, Bool.and_false, Bool.false_and, Bool.or_true, Bool.true_or, Bool.or_false, Bool.false_or, Bool.not_true, Bool.not_false, Bool.false_eq_true, if_true, if_false, decide_eq_true_eq, omap_some, omap_none, op_add, op_sub, op_addt, cp_eq, cp_ne, cp_lt, cp_le, cp_gt, cp_ge, cp_isn, cp_notn, cp_inn, cp_nin, itemsP, ofO, Tg.put, Tg.puts, putAll, mkL_t, mkL_f, lim_0, lim_1, lim_2, lim_3, lim_4, lim_5, lim_6, lim_7, lim_8, nxP_nx, okP_ok, putS_eq, biW_int, biW_str, biW_tup, biW_lst, biW_bl, biW_non, biW_scr, biW_cel, biW_two, biG, peeks, biP, biL, int_mod, int_fdiv, List.all_cons, List.all_nil, Int.cast_ofNat_Int, Int.reduceEq, Int.reduceLT, Int.reduceLE, Int.reduceAdd, Int.reduceSub, Int.reduceNeg, eqP_int, nrP_nx, nrP_rt, leave_p, leave_nx, cut_self, e3, z, eqP_fr]
theorem way_cost_ok {m : Nat} (hm : 9 ≤ m) {o g : Nat} {rs : List Rd} {l : List Ld} {n n2 n3 n4 : Nat} (h : Fit o g rs l n n2 n3 n4) {w : List Nat} (hw : w ∈ waysOf o g rs) {st : Sto} : MG.call m f_way_cost [.p (webP o g rs), .p (ldsP l), .p (wyP w)] st = .ok (.p (fr (wcQ (cQ rs l) w))) st := by
  obtain ⟨k, rfl, hk⟩ := suc_of hm
  rw [call_eq fd_way_cost rfl rfl]
  have h8 := h.web.r8
  have e1 : MG.call k f_check_web [.p (webP o g rs)] st = _ := check_web_ok (by omega)
  have e2 := check_loads_ok (m := k) (by omega) h.lds (st := st)
  have e3 := check_way_ok (m := k) (by omega) (by have := (h.csz w hw).len; omega) hw (st := st)
  have e4 := road_costs_ok (m := k) (by omega) (o := o) (g := g) h.web.rd (by omega) h.lsz h.n2 (st := st)
  have e5 := cost_way_ok (m := k) (by omega) (src := .tup ((costsL rs l).map fr)) (h.csz w hw) (fun i hi => cs_ix (way_lt hw i hi)) (st := st)
  simp only [d_way_cost, b_way_cost, Ss.ev, S.ev, E.ev, Es.ev, It.ev, bind_ok, bind_exc, bind_no, sr_ok, sr_exc, sr_no, Res.two, Res.one, peek_p, keep_p, keeps, tru_b, cx_call, cx_new, cx_glo, cx_sub, cx_dun, cx_inst, cx_fuel, start, List.map_cons, List.map_nil, List.length_cons, List.length_nil, List.reduceReplicate, List.cons_append, List.nil_append, List.getElem?_cons_zero, List.getElem?_cons_succ, List.set_cons_zero, List.set_cons_succ, Nat.reduceAdd, Nat.reduceSub, Nat.reduceLT, Nat.reduceEqDiff, decide_true, decide_false, notOwn, Bool.and_true, Bool.true_and, Bool.and_false, Bool.false_and, Bool.or_true, Bool.true_or, Bool.or_false, Bool.false_or, Bool.not_true, Bool.not_false, Bool.false_eq_true, if_true, if_false, decide_eq_true_eq, omap_some, omap_none, op_add, op_sub, op_addt, cp_eq, cp_ne, cp_lt, cp_le, cp_gt, cp_ge, cp_isn, cp_notn, cp_inn, cp_nin, itemsP, ofO, Tg.put, Tg.puts, putAll, mkL_t, mkL_f, lim_0, lim_1, lim_2, lim_3, lim_4, lim_5, lim_6, lim_7, lim_8, nxP_nx, okP_ok, putS_eq, biW_int, biW_str, biW_tup, biW_lst, biW_bl, biW_non, biW_scr, biW_cel, biW_two, biG, peeks, biP, biL, int_mod, int_fdiv, List.all_cons, List.all_nil, Int.cast_ofNat_Int, Int.reduceEq, Int.reduceLT, Int.reduceLE, Int.reduceAdd, Int.reduceSub, Int.reduceNeg, eqP_int, nrP_nx, nrP_rt, leave_p, leave_nx, cut_self, e1, e2, e3, e4, e5]
theorem check_indexes_ok {m : Nat} (hm : 3 ≤ m) {o g : Nat} {rs : List Rd} (hr : rs.length ≤ 1000) {ix : List Nat} (hl : ix.length ≤ 1000) (hi : ∀ i ∈ ix, i < rs.length) (has : ix.Pairwise (· < ·)) {st : Sto} : MG.call m f_check_indexes [.p (webP o g rs), .p (wyP ix)] st = .ok (.p .non) st := by
  obtain ⟨k, rfl, hk⟩ := suc_of hm
  rw [call_eq fd_check_indexes rfl rfl]
  have kk : kindP MG.inst (wyP ix) = true := rfl
  have hi2 : isP MG.sub .tuple (wyP ix) = true := rfl
  rw [show d_check_indexes.body = b_check_indexes from rfl, b_check_indexes]
  rw [show start d_check_indexes.ns [W.p (webP o g rs), .p (wyP ix)] = [some (.p (webP o g rs)), some (.p (wyP ix)), none] from rfl]
  rw [Ss.ev, show S.ev (Cn k) (.ife (.not (.isi .tuple (.v 1))) (.cons .bad .nil) .nil) [some (.p (webP o g rs)), some (.p (wyP ix)), none] st = .nx [some (.p (webP o g rs)), some (.p (wyP ix)), none] st by
    simp only [Ss.ev, S.ev, E.ev, Es.ev, It.ev, bind_ok, bind_exc, bind_no, sr_ok, sr_exc, sr_no, Res.two, Res.one, peek_p, keep_p, keeps, tru_b, cx_call, cx_new, cx_glo, cx_sub, cx_dun, cx_inst, cx_fuel, start, List.map_cons, List.map_nil, List.length_cons, List.length_nil, List.reduceReplicate, List.cons_append, List.nil_append, List.getElem?_cons_zero, List.getElem?_cons_succ, List.set_cons_zero, List.set_cons_succ, Nat.reduceAdd, Nat.reduceSub, Nat.reduceLT, Nat.reduceEqDiff, decide_true, decide_false, notOwn, Bool.and_true, Bool.true_and, Bool.and_false, Bool.false_and, Bool.or_true, Bool.true_or, Bool.or_false, Bool.false_or, Bool.not_true, Bool.not_false, Bool.false_eq_true, if_true, if_false, decide_eq_true_eq, omap_some, omap_none, op_add, op_sub, op_addt, cp_eq, cp_ne, cp_lt, cp_le, cp_gt, cp_ge, cp_isn, cp_notn, cp_inn, cp_nin, itemsP, ofO, Tg.put, Tg.puts, putAll, mkL_t, mkL_f, lim_0, lim_1, lim_2, lim_3, lim_4, lim_5, lim_6, lim_7, lim_8, nxP_nx, okP_ok, putS_eq, biW_int, biW_str, biW_tup, biW_lst, biW_bl, biW_non, biW_scr, biW_cel, biW_two, biG, peeks, biP, biL, int_mod, int_fdiv, List.all_cons, List.all_nil, Int.cast_ofNat_Int, Int.reduceEq, Int.reduceLT, Int.reduceLE, Int.reduceAdd, Int.reduceSub, Int.reduceNeg, eqP_int, nrP_nx, nrP_rt, leave_p, leave_nx, cut_self, kk, hi2]]
  dsimp only
  have it1 : (It.rng1 (.bi .len false (.cons (.v 1) .nil))).ev (Cn k) [some (.p (webP o g rs)), some (.p (wyP ix)), none] st = .ok ((List.range ix.length).map ixs) st := by
    have rg := rng_nat ix.length (by omega)
    simp only [Ss.ev, S.ev, E.ev, Es.ev, It.ev, bind_ok, bind_exc, bind_no, sr_ok, sr_exc, sr_no, Res.two, Res.one, peek_p, keep_p, keeps, tru_b, cx_call, cx_new, cx_glo, cx_sub, cx_dun, cx_inst, cx_fuel, start, List.map_cons, List.map_nil, List.length_cons, List.length_nil, List.reduceReplicate, List.cons_append, List.nil_append, List.getElem?_cons_zero, List.getElem?_cons_succ, List.set_cons_zero, List.set_cons_succ, Nat.reduceAdd, Nat.reduceSub, Nat.reduceLT, Nat.reduceEqDiff, decide_true, decide_false, notOwn, Bool.and_true, Bool.true_and, Bool.and_false, Bool.false_and, Bool.or_true, Bool.true_or, Bool.or_false, Bool.false_or, Bool.not_true, Bool.not_false, Bool.false_eq_true, if_true, if_false, decide_eq_true_eq, omap_some, omap_none, op_add, op_sub, op_addt, cp_eq, cp_ne, cp_lt, cp_le, cp_gt, cp_ge, cp_isn, cp_notn, cp_inn, cp_nin, itemsP, ofO, Tg.put, Tg.puts, putAll, mkL_t, mkL_f, lim_0, lim_1, lim_2, lim_3, lim_4, lim_5, lim_6, lim_7, lim_8, nxP_nx, okP_ok, putS_eq, biW_int, biW_str, biW_tup, biW_lst, biW_bl, biW_non, biW_scr, biW_cel, biW_two, biG, peeks, biP, biL, int_mod, int_fdiv, List.all_cons, List.all_nil, Int.cast_ofNat_Int, Int.reduceEq, Int.reduceLT, Int.reduceLE, Int.reduceAdd, Int.reduceSub, Int.reduceNeg, eqP_int, nrP_nx, nrP_rt, leave_p, leave_nx, cut_self, wyP, lenP, List.length_map, rg]
    rfl
  rw [Ss.ev, S.ev, it1]
  simp only [sr_ok]
  obtain ⟨δ', st', e, ⟨a, rfl, rfl⟩⟩ := forR_pre (e := ixs) (tg := .n 2) (body := fun δ st => (Ss.cons (.ife (.or (.not (.call f_is_within (.cons (.ix (.v 1) (.v 2)) (.cons (.int 0) (.cons (.op .sub (.bi .len false (.cons (.v 0) .nil)) (.int 1)) .nil))))) (.and (.cmp .gt (.v 2) (.int 0)) (.cmp .le (.ix (.v 1) (.v 2)) (.ix (.v 1) (.op .sub (.v 2) (.int 1)))))) (.cons .bad .nil) .nil) .nil).ev (Cn k) δ st) (List.range ix.length)
    (fun done δ st' => ∃ a, δ = [some (.p (webP o g rs)), some (.p (wyP ix)), a] ∧ st = st') (δ := [some (.p (webP o g rs)), some (.p (wyP ix)), none]) (st := st) ⟨none, rfl, rfl⟩ (by
    rintro done i rest _ _ hd ⟨a, rfl, rfl⟩
    obtain ⟨hil, hdl⟩ := range_split hd
    obtain ⟨q, hq⟩ : ∃ q, ix[i]? = some q := ⟨ix[i], List.getElem?_eq_getElem hil⟩
    have qr := hi q (List.mem_of_getElem? hq)
    have i1 : ∀ {j v : Nat}, ix[j]? = some v → ixP (wyP ix) (ixs j) = some (ixs v) := fun {j v} hj => by
      show L2.atI (ix.map ixs) (j : Nat) = _
      apply atI_nat
      rw [List.getElem?_map, hj]
      rfl
    have lw := len_web (C := Cn k) (n := k) (by omega) (o := o) (g := g) hr (st := st) (c := false)
    have e1 := within_ok (m := k) (by omega) (x := ixs q) (lo := 0) (hi := (rs.length : Int) - 1) (st := st) rfl
    have e2 : isWithin (ixs q) 0 ((rs.length : Int) - 1) = true := by
      show (decide ((0 : Int) ≤ (q : Nat)) && decide (((q : Nat) : Int) ≤ (rs.length : Int) - 1)) = true
      rw [decide_eq_true (by omega), decide_eq_true (by omega)]
      rfl
    rw [e2] at e1
    have b1 := i1 hq
    have call1 : (E.call f_is_within (.cons (.ix (.v 1) (.v 2)) (.cons (.int 0) (.cons (.op .sub (.bi .len false (.cons (.v 0) .nil)) (.int 1)) .nil)))).ev (Cn k) [some (.p (webP o g rs)), some (.p (wyP ix)), some (.p (ixs i))] st = .ok (.p (.bl true)) st := by
      simp only [E.ev, Es.ev, List.getElem?_cons_zero, List.getElem?_cons_succ, bind_ok, Res.two, peek_p, b1, lw, op_sub, cx_call, e1]
    have tst : (E.or (.not (.call f_is_within (.cons (.ix (.v 1) (.v 2)) (.cons (.int 0) (.cons (.op .sub (.bi .len false (.cons (.v 0) .nil)) (.int 1)) .nil))))) (.and (.cmp .gt (.v 2) (.int 0)) (.cmp .le (.ix (.v 1) (.v 2)) (.ix (.v 1) (.op .sub (.v 2) (.int 1)))))).ev (Cn k) [some (.p (webP o g rs)), some (.p (wyP ix)), some (.p (ixs i))] st = .ok (.p (.bl false)) st := by
      rw [E.ev, E.ev, call1]
      simp only [bind_ok, tru_b, Bool.not_true, Bool.false_eq_true, if_false]
      cases i with
      | zero =>
        have c0 : cpP .gt (ixs 0) (.int 0) = some false := rfl
        simp only [Ss.ev, S.ev, E.ev, Es.ev, It.ev, bind_ok, bind_exc, bind_no, sr_ok, sr_exc, sr_no, Res.two, Res.one, peek_p, keep_p, keeps, tru_b, cx_call, cx_new, cx_glo, cx_sub, cx_dun, cx_inst, cx_fuel, start, List.map_cons, List.map_nil, List.length_cons, List.length_nil, List.reduceReplicate, List.cons_append, List.nil_append, List.getElem?_cons_zero, List.getElem?_cons_succ, List.set_cons_zero, List.set_cons_succ, Nat.reduceAdd, Nat.reduceSub, Nat.reduceLT, Nat.reduceEqDiff, decide_true, decide_false, notOwn, Bool.and_true, Bool.true_and, Bool.and_false, Bool.false_and, Bool.or_true, Bool.true_or, Bool.or_false, Bool.false_or, Bool.not_true, Bool.not_false, Bool.false_eq_true, if_true, if_false, decide_eq_true_eq, omap_some, omap_none, op_add, op_sub, op_addt, cp_eq, cp_ne, cp_lt, cp_le, cp_gt, cp_ge, cp_isn, cp_notn, cp_inn, cp_nin, itemsP, ofO, Tg.put, Tg.puts, putAll, mkL_t, mkL_f, lim_0, lim_1, lim_2, lim_3, lim_4, lim_5, lim_6, lim_7, lim_8, nxP_nx, okP_ok, putS_eq, biW_int, biW_str, biW_tup, biW_lst, biW_bl, biW_non, biW_scr, biW_cel, biW_two, biG, peeks, biP, biL, int_mod, int_fdiv, List.all_cons, List.all_nil, Int.cast_ofNat_Int, Int.reduceEq, Int.reduceLT, Int.reduceLE, Int.reduceAdd, Int.reduceSub, Int.reduceNeg, eqP_int, nrP_nx, nrP_rt, leave_p, leave_nx, cut_self, c0]
      | succ i =>
        obtain ⟨p, hp⟩ : ∃ p, ix[i]? = some p := ⟨ix[i], List.getElem?_eq_getElem (by omega)⟩
        have c0 : cpP .gt (ixs (i + 1)) (.int 0) = some true := by
          show some (decide ((0 : Int) < (i + 1 : Nat))) = _
          rw [decide_eq_true (by omega)]
        have c1 : opP .sub (ixs (i + 1)) (.int 1) = some (ixs i) := by
          show some (P.int (((i + 1 : Nat) : Int) - 1)) = _
          congr 2
          omega
        have b2 := i1 hp
        have plt : p < q := by
          have h1 := (List.pairwise_iff_getElem.mp has) i (i + 1) (by omega) hil (by omega)
          rw [(List.getElem?_eq_some_iff.mp hp).2, (List.getElem?_eq_some_iff.mp hq).2] at h1
          exact h1
        have c2 : cpP .le (ixs q) (ixs p) = some false := by
          show some (decide (((q : Nat) : Int) ≤ (p : Nat))) = _
          rw [decide_eq_false (by omega)]
        simp only [Ss.ev, S.ev, E.ev, Es.ev, It.ev, bind_ok, bind_exc, bind_no, sr_ok, sr_exc, sr_no, Res.two, Res.one, peek_p, keep_p, keeps, tru_b, cx_call, cx_new, cx_glo, cx_sub, cx_dun, cx_inst, cx_fuel, start, List.map_cons, List.map_nil, List.length_cons, List.length_nil, List.reduceReplicate, List.cons_append, List.nil_append, List.getElem?_cons_zero, List.getElem?_cons_succ, List.set_cons_zero, List.set_cons_succ, Nat.reduceAdd, Nat.reduceSub, Nat.reduceLT, Nat.reduceEqDiff, decide_true, decide_false, notOwn, Bool.and_true, Bool.true_and, Bool.and_false, Bool.false_and, Bool.or_true, Bool.true_or, Bool.or_false, Bool.false_or, Bool.not_true, Bool.not_false, Bool.false_eq_true, if_true, if_false, decide_eq_true_eq, omap_some, omap_none, op_add, op_sub, op_addt, cp_eq, cp_ne, cp_lt, cp_le, cp_gt, cp_ge, cp_isn, cp_notn, cp_inn, cp_nin, itemsP, ofO, Tg.put, Tg.puts, putAll, mkL_t, mkL_f, lim_0, lim_1, lim_2, lim_3, lim_4, lim_5, lim_6, lim_7, lim_8, nxP_nx, okP_ok, putS_eq, biW_int, biW_str, biW_tup, biW_lst, biW_bl, biW_non, biW_scr, biW_cel, biW_two, biG, peeks, biP, biL, int_mod, int_fdiv, List.all_cons, List.all_nil, Int.cast_ofNat_Int, Int.reduceEq, Int.reduceLT, Int.reduceLE, Int.reduceAdd, Int.reduceSub, Int.reduceNeg, eqP_int, nrP_nx, nrP_rt, leave_p, leave_nx, cut_self, c0, c1, b1, b2, c2]
    show (Ss.ev (Cn k) (.cons _ .nil) [some (.p (webP o g rs)), some (.p (wyP ix)), some (.p (ixs i))] st).nxP _
    rw [Ss.ev, S.ev, tst]
    exact ⟨_, rfl, rfl⟩)
  rw [e]
  simp only [Ss.ev, S.ev, E.ev, Es.ev, It.ev, bind_ok, bind_exc, bind_no, sr_ok, sr_exc, sr_no, Res.two, Res.one, peek_p, keep_p, keeps, tru_b, cx_call, cx_new, cx_glo, cx_sub, cx_dun, cx_inst, cx_fuel, start, List.map_cons, List.map_nil, List.length_cons, List.length_nil, List.reduceReplicate, List.cons_append, List.nil_append, List.getElem?_cons_zero, List.getElem?_cons_succ, List.set_cons_zero, List.set_cons_succ, Nat.reduceAdd, Nat.reduceSub, Nat.reduceLT, Nat.reduceEqDiff, decide_true, decide_false, notOwn, Bool.and_true, Bool.true_and, Bool.and_false, Bool.false_and, Bool.or_true, Bool.true_or, Bool.or_false, Bool.false_or, Bool.not_true, Bool.not_false, Bool.false_eq_true, if_true, if_false, decide_eq_true_eq, omap_some, omap_none, op_add, op_sub, op_addt, cp_eq, cp_ne, cp_lt, cp_le, cp_gt, cp_ge, cp_isn, cp_notn, cp_inn, cp_nin, itemsP, ofO, Tg.put, Tg.puts, putAll, mkL_t, mkL_f, lim_0, lim_1, lim_2, lim_3, lim_4, lim_5, lim_6, lim_7, lim_8, nxP_nx, okP_ok, putS_eq, biW_int, biW_str, biW_tup, biW_lst, biW_bl, biW_non, biW_scr, biW_cel, biW_two, biG, peeks, biP, biL, int_mod, int_fdiv, List.all_cons, List.all_nil, Int.cast_ofNat_Int, Int.reduceEq, Int.reduceLT, Int.reduceLE, Int.reduceAdd, Int.reduceSub, Int.reduceNeg, eqP_int, nrP_nx, nrP_rt, leave_p, leave_nx, cut_self]
end Z.U

namespace Z.U
open PySem

/-- ways that are left -/
def keptW (ws : List (List Nat)) (ix : List Nat) : List (List Nat) := ws.filter fun w => !(w.any fun i => decide (i ∈ ix))
def leftI (n : Nat) (ws : List (List Nat)) : List Nat := (List.range n).filter fun i => ws.any fun w => decide (i ∈ w)
def leftR (o g : Nat) (rs : List Rd) (ix : List Nat) : List Rd := (leftI rs.length (keptW (waysOf o g rs) ix)).map fun i => rs.getD i default
theorem prop_ev {k : Nat} {f : Nat} {δ : Env} {st : Sto} {o g : Nat} {rs : List Rd} {x : P} (h0 : δ[0]? = some (some (.p (webP o g rs)))) (e : MG.call k f [.p (webP o g rs)] st = .ok (.p x) st) : (E.prop k_Web f (.v 0)).ev (Cn k) δ st = .ok (.p x) st := by
  rw [E.ev, E.ev, h0]
  simp only [bind_ok, webP, beq_self_eq_true, if_true, cx_call]
  rw [show P.ins k_Web (webF o g rs) = webP o g rs from rfl, e, noX_ok]
theorem in_ixs {q : Nat} {ix : List Nat} : cpP .inn (ixs q) (wyP ix) = some (decide (q ∈ ix)) := by
  rw [cp_inwy, in_way]
/-- any([index in indexes for index in way]) -/
theorem any_of {C : Ctx} {δ : Env} {st : Sto} {w ix : List Nat} {a b c : Nat} (hl : w.length ≤ 16777216) (h1 : δ[c]? = some (some (.p (wyP w)))) (hb : b < δ.length) (hab : a ≠ b) (h2 : (wipe δ [b])[a]? = some (some (.p (wyP ix)))) :
    (E.bi .any false (.cons (.lc false [b] (.n b) (.val (.v c)) (.bl true) (.cmp .inn (.v b) (.v a))) .nil)).ev C δ st = .ok (.p (.bl (w.any fun i => decide (i ∈ ix)))) st := by
  have m : (E.lc false [b] (.n b) (.val (.v c)) (.bl true) (.cmp .inn (.v b) (.v a))).ev C δ st = mkL false (w.map fun i => P.bl (decide (i ∈ ix))) st := by
    refine lc_all (em := ixs) (by
      simp only [It.ev, E.ev, h1, bind_ok, keep_p, itemsP, ofO, wyP]) _ (fun i hw => ?_) hl
    have hlw : b < (wipe δ [b]).length := by simp [wipe, hb]
    have g1 : ((wipe δ [b]).set b (some (W.p (ixs i))))[a]? = some (some (.p (wyP ix))) := by
      rw [List.getElem?_set_ne (Ne.symm hab), h2]
    have g2 : ((wipe δ [b]).set b (some (W.p (ixs i))))[b]? = some (some (.p (ixs i))) := List.getElem?_set_self hlw
    rw [lcS_put (show (Tg.n b).put (.p (ixs i)) (wipe δ [b]) = some ((wipe δ [b]).set b (some (.p (ixs i)))) by
      rw [Tg.put]
      simp [hlw, notOwn])]
    simp only [E.ev, bind_ok, tru_b, if_true, g1, g2, Res.two, peek_p, in_ixs, omap_some, keep_p]
  rw [E.ev, Es.ev, m]
  simp only [mkL_f, bind_ok, Es.ev, biW_lst, biG, peeks, peek_p, biP, boolsP_map, omap_some, List.any_map]
  rfl
theorem eq_emptyL {l : List (List Nat)} : eqP (.lst (l.map wyP)) (.lst []) = some (decide (l = [])) := by
  cases l with
  | nil => rw [List.map_nil, eqP_same (n := 1) rfl]; rfl
  | cons x l => rw [eqP_ne (n := 2) (by rw [P.cl]; exact cls_map (fun a => cl_wy) _) (by rw [P.cl, P.cls]) (fun e => by cases e)]; simp
theorem without_ok {m : Nat} (hm : 7 ≤ m) {o g : Nat} {rs : List Rd} (h : WebOk o g rs) {ix : List Nat} (hwl : ∀ w ∈ waysOf o g rs, w.length ≤ 1000) (h2 : keptW (waysOf o g rs) ix ≠ []) (h3 : WebOk o g (leftR o g rs ix)) {st : Sto} :
    MG.call m f_without [.p (webP o g rs), .p (wyP ix)] st = .ok (.p (webP o g (leftR o g rs ix))) st := by
  obtain ⟨k, rfl, hk⟩ := suc_of hm
  have h8 := h.r8
  have wl := ways_len (rs := rs) h.ne h.r8
  rw [call_eq fd_without rfl rfl]
  rw [show d_without.body = b_without from rfl, b_without]
  rw [show start d_without.ns [W.p (webP o g rs), .p (wyP ix)] = [some (.p (webP o g rs)), some (.p (wyP ix)), none, none, none, none] from rfl]
  have f0 : (E.fld k_Web 0 (.v 0)).ev (Cn k) [some (.p (webP o g rs)), some (.p (wyP ix)), none, none, none, none] st = .ok (.p (.tup ((waysOf o g rs).map wyP))) st := by
    simp only [Ss.ev, S.ev, E.ev, Es.ev, It.ev, bind_ok, bind_exc, bind_no, sr_ok, sr_exc, sr_no, Res.two, Res.one, peek_p, keep_p, keeps, tru_b, cx_call, cx_new, cx_glo, cx_sub, cx_dun, cx_inst, cx_fuel, start, List.map_cons, List.map_nil, List.length_cons, List.length_nil, List.reduceReplicate, List.cons_append, List.nil_append, List.getElem?_cons_zero, List.getElem?_cons_succ, List.set_cons_zero, List.set_cons_succ, Nat.reduceAdd, Nat.reduceSub, Nat.reduceLT, Nat.reduceEqDiff, decide_true, decide_false, notOwn, Bool.and_true, Bool.true_and, Bool.and_false, Bool.false_and, Bool.or_true, Bool.true_or, Bool.or_false, Bool.false_or, Bool.not_true, Bool.not_false, Bool.false_eq_true, if_true, if_false, decide_eq_true_eq, omap_some, omap_none, op_add, op_sub, op_addt, cp_eq, cp_ne, cp_lt, cp_le, cp_gt, cp_ge, cp_isn, cp_notn, cp_inn, cp_nin, itemsP, ofO, Tg.put, Tg.puts, putAll, mkL_t, mkL_f, lim_0, lim_1, lim_2, lim_3, lim_4, lim_5, lim_6, lim_7, lim_8, nxP_nx, okP_ok, putS_eq, biW_int, biW_str, biW_tup, biW_lst, biW_bl, biW_non, biW_scr, biW_cel, biW_two, biG, peeks, biP, biL, int_mod, int_fdiv, List.all_cons, List.all_nil, Int.cast_ofNat_Int, Int.reduceEq, Int.reduceLT, Int.reduceLE, Int.reduceAdd, Int.reduceSub, Int.reduceNeg, eqP_int, nrP_nx, nrP_rt, leave_p, leave_nx, cut_self, webP, webF, beq_self_eq_true]
  have c1 : (E.lc false [4] (.n 4) (.val (.fld k_Web 0 (.v 0))) (.not (.bi .any false (.cons (.lc false [5] (.n 5) (.val (.v 4)) (.bl true) (.cmp .inn (.v 5) (.v 1))) .nil))) (.v 4)).ev (Cn k) [some (.p (webP o g rs)), some (.p (wyP ix)), none, none, none, none] st = .ok (.p (.lst ((keptW (waysOf o g rs) ix).map wyP))) st := by
    rw [← mkL_f]
    refine lc_map (em := wyP) (by rw [It.ev, f0]; simp only [bind_ok, keep_p, itemsP, ofO]) _ _ (fun w hw => ?_) (by omega)
    rw [lcS_put (δ1 := [some (.p (webP o g rs)), some (.p (wyP ix)), none, none, some (.p (wyP w)), none]) rfl]
    have a1 := any_of (C := Cn k) (δ := [some (.p (webP o g rs)), some (.p (wyP ix)), none, none, some (.p (wyP w)), none]) (st := st) (w := w) (ix := ix) (a := 1) (b := 5) (c := 4) (by have := hwl w hw; omega) rfl (by simp) (by decide) rfl
    rw [E.ev, a1]
    cases (w.any fun i => decide (i ∈ ix)) <;> simp only [Ss.ev, S.ev, E.ev, Es.ev, It.ev, bind_ok, bind_exc, bind_no, sr_ok, sr_exc, sr_no, Res.two, Res.one, peek_p, keep_p, keeps, tru_b, cx_call, cx_new, cx_glo, cx_sub, cx_dun, cx_inst, cx_fuel, start, List.map_cons, List.map_nil, List.length_cons, List.length_nil, List.reduceReplicate, List.cons_append, List.nil_append, List.getElem?_cons_zero, List.getElem?_cons_succ, List.set_cons_zero, List.set_cons_succ, Nat.reduceAdd, Nat.reduceSub, Nat.reduceLT, Nat.reduceEqDiff, decide_true, decide_false, notOwn, Bool.and_true, Bool.true_and, Bool.and_false, Bool.false_and, Bool.or_true, Bool.true_or, Bool.or_false, Bool.false_or, Bool.not_true, Bool.not_false, Bool.false_eq_true, if_true, if_false, decide_eq_true_eq, omap_some, omap_none, op_add, op_sub, op_addt, cp_eq, cp_ne, cp_lt, cp_le, cp_gt, cp_ge, cp_isn, cp_notn, cp_inn, cp_nin, itemsP, ofO, Tg.put, Tg.puts, putAll, mkL_t, mkL_f, lim_0, lim_1, lim_2, lim_3, lim_4, lim_5, lim_6, lim_7, lim_8, nxP_nx, okP_ok, putS_eq, biW_int, biW_str, biW_tup, biW_lst, biW_bl, biW_non, biW_scr, biW_cel, biW_two, biG, peeks, biP, biL, int_mod, int_fdiv, List.all_cons, List.all_nil, Int.cast_ofNat_Int, Int.reduceEq, Int.reduceLT, Int.reduceLE, Int.reduceAdd, Int.reduceSub, Int.reduceNeg, eqP_int, nrP_nx, nrP_rt, leave_p, leave_nx, cut_self]
  have hkl : (keptW (waysOf o g rs) ix).length ≤ 1000000 := Nat.le_trans (List.length_filter_le _ _) (by omega)
  rw [Ss.ev, show S.ev (Cn k) (.set (.n 2) (.lc false [4] (.n 4) (.val (.fld k_Web 0 (.v 0))) (.not (.bi .any false (.cons (.lc false [5] (.n 5) (.val (.v 4)) (.bl true) (.cmp .inn (.v 5) (.v 1))) .nil))) (.v 4))) [some (.p (webP o g rs)), some (.p (wyP ix)), none, none, none, none] st = .nx [some (.p (webP o g rs)), some (.p (wyP ix)), some (.p (.lst ((keptW (waysOf o g rs) ix).map wyP))), none, none, none] st by
    rw [S.ev, c1]
    simp only [Ss.ev, S.ev, E.ev, Es.ev, It.ev, bind_ok, bind_exc, bind_no, sr_ok, sr_exc, sr_no, Res.two, Res.one, peek_p, keep_p, keeps, tru_b, cx_call, cx_new, cx_glo, cx_sub, cx_dun, cx_inst, cx_fuel, start, List.map_cons, List.map_nil, List.length_cons, List.length_nil, List.reduceReplicate, List.cons_append, List.nil_append, List.getElem?_cons_zero, List.getElem?_cons_succ, List.set_cons_zero, List.set_cons_succ, Nat.reduceAdd, Nat.reduceSub, Nat.reduceLT, Nat.reduceEqDiff, decide_true, decide_false, notOwn, Bool.and_true, Bool.true_and, Bool.and_false, Bool.false_and, Bool.or_true, Bool.true_or, Bool.or_false, Bool.false_or, Bool.not_true, Bool.not_false, Bool.false_eq_true, if_true, if_false, decide_eq_true_eq, omap_some, omap_none, op_add, op_sub, op_addt, cp_eq, cp_ne, cp_lt, cp_le, cp_gt, cp_ge, cp_isn, cp_notn, cp_inn, cp_nin, itemsP, ofO, Tg.put, Tg.puts, putAll, mkL_t, mkL_f, lim_0, lim_1, lim_2, lim_3, lim_4, lim_5, lim_6, lim_7, lim_8, nxP_nx, okP_ok, putS_eq, biW_int, biW_str, biW_tup, biW_lst, biW_bl, biW_non, biW_scr, biW_cel, biW_two, biG, peeks, biP, biL, int_mod, int_fdiv, List.all_cons, List.all_nil, Int.cast_ofNat_Int, Int.reduceEq, Int.reduceLT, Int.reduceLE, Int.reduceAdd, Int.reduceSub, Int.reduceNeg, eqP_int, nrP_nx, nrP_rt, leave_p, leave_nx, cut_self]]
  dsimp only
  have q0 : eqP (.lst ((keptW (waysOf o g rs) ix).map wyP)) (.lst []) = some false := by
    rw [eq_emptyL, decide_eq_false h2]
  rw [Ss.ev, show S.ev (Cn k) (.ife (.cmp .eq (.v 2) (.lst false .nil)) (.cons .bad .nil) .nil) [some (.p (webP o g rs)), some (.p (wyP ix)), some (.p (.lst ((keptW (waysOf o g rs) ix).map wyP))), none, none, none] st = .nx [some (.p (webP o g rs)), some (.p (wyP ix)), some (.p (.lst ((keptW (waysOf o g rs) ix).map wyP))), none, none, none] st by
    simp only [Ss.ev, S.ev, E.ev, Es.ev, It.ev, bind_ok, bind_exc, bind_no, sr_ok, sr_exc, sr_no, Res.two, Res.one, peek_p, keep_p, keeps, tru_b, cx_call, cx_new, cx_glo, cx_sub, cx_dun, cx_inst, cx_fuel, start, List.map_cons, List.map_nil, List.length_cons, List.length_nil, List.reduceReplicate, List.cons_append, List.nil_append, List.getElem?_cons_zero, List.getElem?_cons_succ, List.set_cons_zero, List.set_cons_succ, Nat.reduceAdd, Nat.reduceSub, Nat.reduceLT, Nat.reduceEqDiff, decide_true, decide_false, notOwn, Bool.and_true, Bool.true_and, Bool.and_false, Bool.false_and, Bool.or_true, Bool.true_or, Bool.or_false, Bool.false_or, Bool.not_true, Bool.not_false, Bool.false_eq_true, if_true, if_false, decide_eq_true_eq, omap_some, omap_none, op_add, op_sub, op_addt, cp_eq, cp_ne, cp_lt, cp_le, cp_gt, cp_ge, cp_isn, cp_notn, cp_inn, cp_nin, itemsP, ofO, Tg.put, Tg.puts, putAll, mkL_t, mkL_f, lim_0, lim_1, lim_2, lim_3, lim_4, lim_5, lim_6, lim_7, lim_8, nxP_nx, okP_ok, putS_eq, biW_int, biW_str, biW_tup, biW_lst, biW_bl, biW_non, biW_scr, biW_cel, biW_two, biG, peeks, biP, biL, int_mod, int_fdiv, List.all_cons, List.all_nil, Int.cast_ofNat_Int, Int.reduceEq, Int.reduceLT, Int.reduceLE, Int.reduceAdd, Int.reduceSub, Int.reduceNeg, eqP_int, nrP_nx, nrP_rt, leave_p, leave_nx, cut_self, q0]]
  dsimp only
  have it1 : (It.rng1 (.bi .len false (.cons (.v 0) .nil))).ev (Cn k) [some (.p (webP o g rs)), some (.p (wyP ix)), some (.p (.lst ((keptW (waysOf o g rs) ix).map wyP))), none, none, none] st = .ok ((List.range rs.length).map ixs) st := by
    have rg := rng_nat rs.length (by omega)
    have lw := len_web (C := Cn k) (n := k) (by omega) (o := o) (g := g) (rs := rs) (by omega) (st := st) (c := false)
    rw [It.ev, E.ev, Es.ev]
    simp only [E.ev, Es.ev, List.getElem?_cons_zero, bind_ok, lw, rg, ofO]
    rfl
  have c2 : (E.lc false [5] (.n 5) (.rng1 (.bi .len false (.cons (.v 0) .nil))) (.bi .any false (.cons (.lc false [4] (.n 4) (.val (.v 2)) (.bl true) (.cmp .inn (.v 5) (.v 4))) .nil)) (.ix (.prop k_Web f_Web__roads (.v 0)) (.v 5))).ev (Cn k) [some (.p (webP o g rs)), some (.p (wyP ix)), some (.p (.lst ((keptW (waysOf o g rs) ix).map wyP))), none, none, none] st = .ok (.p (.lst ((leftR o g rs ix).map rdP))) st := by
    rw [← mkL_f, leftR, List.map_map]
    refine lc_map (em := ixs) it1 (fun i => (keptW (waysOf o g rs) ix).any fun w => decide (i ∈ w)) _ (fun i hi => ?_) (by rw [List.length_range]; omega)
    rw [lcS_put (δ1 := [some (.p (webP o g rs)), some (.p (wyP ix)), some (.p (.lst ((keptW (waysOf o g rs) ix).map wyP))), none, none, some (.p (ixs i))]) rfl]
    have hi2 := List.mem_range.mp hi
    have a1 : (E.bi .any false (.cons (.lc false [4] (.n 4) (.val (.v 2)) (.bl true) (.cmp .inn (.v 5) (.v 4))) .nil)).ev (Cn k) [some (.p (webP o g rs)), some (.p (wyP ix)), some (.p (.lst ((keptW (waysOf o g rs) ix).map wyP))), none, none, some (.p (ixs i))] st = .ok (.p (.bl ((keptW (waysOf o g rs) ix).any fun w => decide (i ∈ w)))) st := by
      have m : (E.lc false [4] (.n 4) (.val (.v 2)) (.bl true) (.cmp .inn (.v 5) (.v 4))).ev (Cn k) [some (.p (webP o g rs)), some (.p (wyP ix)), some (.p (.lst ((keptW (waysOf o g rs) ix).map wyP))), none, none, some (.p (ixs i))] st = mkL false ((keptW (waysOf o g rs) ix).map fun w => P.bl (decide (i ∈ w))) st := by
        refine lc_all (em := wyP) (by simp only [Ss.ev, S.ev, E.ev, Es.ev, It.ev, bind_ok, bind_exc, bind_no, sr_ok, sr_exc, sr_no, Res.two, Res.one, peek_p, keep_p, keeps, tru_b, cx_call, cx_new, cx_glo, cx_sub, cx_dun, cx_inst, cx_fuel, start, List.map_cons, List.map_nil, List.length_cons, List.length_nil, List.reduceReplicate, List.cons_append, List.nil_append, List.getElem?_cons_zero, List.getElem?_cons_succ, List.set_cons_zero, List.set_cons_succ, Nat.reduceAdd, Nat.reduceSub, Nat.reduceLT, Nat.reduceEqDiff, decide_true, decide_false, notOwn, Bool.and_true, Bool.true_and, Bool.and_false, Bool.false_and, Bool.or_true, Bool.true_or, Bool.or_false, Bool.false_or, Bool.not_true, Bool.not_false, Bool.false_eq_true, if_true, if_false, decide_eq_true_eq, omap_some, omap_none, op_add, op_sub, op_addt, cp_eq, cp_ne, cp_lt, cp_le, cp_gt, cp_ge, cp_isn, cp_notn, cp_inn, cp_nin, itemsP, ofO, Tg.put, Tg.puts, putAll, mkL_t, mkL_f, lim_0, lim_1, lim_2, lim_3, lim_4, lim_5, lim_6, lim_7, lim_8, nxP_nx, okP_ok, putS_eq, biW_int, biW_str, biW_tup, biW_lst, biW_bl, biW_non, biW_scr, biW_cel, biW_two, biG, peeks, biP, biL, int_mod, int_fdiv, List.all_cons, List.all_nil, Int.cast_ofNat_Int, Int.reduceEq, Int.reduceLT, Int.reduceLE, Int.reduceAdd, Int.reduceSub, Int.reduceNeg, eqP_int, nrP_nx, nrP_rt, leave_p, leave_nx, cut_self]) _ (fun w hw => ?_) (by omega)
        rw [lcS_put (δ1 := [some (.p (webP o g rs)), some (.p (wyP ix)), some (.p (.lst ((keptW (waysOf o g rs) ix).map wyP))), none, some (.p (wyP w)), some (.p (ixs i))]) rfl]
        simp only [Ss.ev, S.ev, E.ev, Es.ev, It.ev, bind_ok, bind_exc, bind_no, sr_ok, sr_exc, sr_no, Res.two, Res.one, peek_p, keep_p, keeps, tru_b, cx_call, cx_new, cx_glo, cx_sub, cx_dun, cx_inst, cx_fuel, start, List.map_cons, List.map_nil, List.length_cons, List.length_nil, List.reduceReplicate, List.cons_append, List.nil_append, List.getElem?_cons_zero, List.getElem?_cons_succ, List.set_cons_zero, List.set_cons_succ, Nat.reduceAdd, Nat.reduceSub, Nat.reduceLT, Nat.reduceEqDiff, decide_true, decide_false, notOwn, Bool.and_true, Bool.true_and, Bool.and_false, Bool.false_and, Bool.or_true, Bool.true_or, Bool.or_false, Bool.false_or, Bool.not_true, Bool.not_false, Bool.false_eq_true, if_true, if_false, decide_eq_true_eq, omap_some, omap_none, op_add, op_sub, op_addt, cp_eq, cp_ne, cp_lt, cp_le, cp_gt, cp_ge, cp_isn, cp_notn, cp_inn, cp_nin, itemsP, ofO, Tg.put, Tg.puts, putAll, mkL_t, mkL_f, lim_0, lim_1, lim_2, lim_3, lim_4, lim_5, lim_6, lim_7, lim_8, nxP_nx, okP_ok, putS_eq, biW_int, biW_str, biW_tup, biW_lst, biW_bl, biW_non, biW_scr, biW_cel, biW_two, biG, peeks, biP, biL, int_mod, int_fdiv, List.all_cons, List.all_nil, Int.cast_ofNat_Int, Int.reduceEq, Int.reduceLT, Int.reduceLE, Int.reduceAdd, Int.reduceSub, Int.reduceNeg, eqP_int, nrP_nx, nrP_rt, leave_p, leave_nx, cut_self, in_ixs]
      rw [E.ev, Es.ev, m]
      simp only [mkL_f, bind_ok, Es.ev, biW_lst, biG, peeks, peek_p, biP, boolsP_map, omap_some, List.any_map]
      rfl
    have r1 := prop_ev (k := k) (f := f_Web__roads) (δ := [some (.p (webP o g rs)), some (.p (wyP ix)), some (.p (.lst ((keptW (waysOf o g rs) ix).map wyP))), none, none, some (.p (ixs i))]) (st := st) (o := o) (g := g) (rs := rs) rfl (roads_ok (by omega))
    have r2 := rds_ix (List.getElem?_eq_getElem hi2)
    have r3 : (E.ix (.prop k_Web f_Web__roads (.v 0)) (.v 5)).ev (Cn k) [some (.p (webP o g rs)), some (.p (wyP ix)), some (.p (.lst ((keptW (waysOf o g rs) ix).map wyP))), none, none, some (.p (ixs i))] st = .ok (.p (rdP (rs.getD i default))) st := by
      rw [E.ev, r1]
      have e3 : rs.getD i default = rs[i] := by
        rw [List.getD_eq_getElem?_getD, List.getElem?_eq_getElem hi2]
        rfl
      simp only [E.ev, List.getElem?_cons_zero, List.getElem?_cons_succ, bind_ok, Res.two, peek_p, r2, e3]
    rw [a1]
    cases ((keptW (waysOf o g rs) ix).any fun w => decide (i ∈ w)) with
    | false => simp only [bind_ok, tru_b, Bool.false_eq_true, if_false]
    | true =>
      simp only [bind_ok, tru_b, if_true, r3, keep_p]
      rfl
  rw [Ss.ev, show S.ev (Cn k) (.set (.n 3) (.lc false [5] (.n 5) (.rng1 (.bi .len false (.cons (.v 0) .nil))) (.bi .any false (.cons (.lc false [4] (.n 4) (.val (.v 2)) (.bl true) (.cmp .inn (.v 5) (.v 4))) .nil)) (.ix (.prop k_Web f_Web__roads (.v 0)) (.v 5)))) [some (.p (webP o g rs)), some (.p (wyP ix)), some (.p (.lst ((keptW (waysOf o g rs) ix).map wyP))), none, none, none] st = .nx [some (.p (webP o g rs)), some (.p (wyP ix)), some (.p (.lst ((keptW (waysOf o g rs) ix).map wyP))), some (.p (.lst ((leftR o g rs ix).map rdP))), none, none] st by
    rw [S.ev, c2]
    simp only [Ss.ev, S.ev, E.ev, Es.ev, It.ev, bind_ok, bind_exc, bind_no, sr_ok, sr_exc, sr_no, Res.two, Res.one, peek_p, keep_p, keeps, tru_b, cx_call, cx_new, cx_glo, cx_sub, cx_dun, cx_inst, cx_fuel, start, List.map_cons, List.map_nil, List.length_cons, List.length_nil, List.reduceReplicate, List.cons_append, List.nil_append, List.getElem?_cons_zero, List.getElem?_cons_succ, List.set_cons_zero, List.set_cons_succ, Nat.reduceAdd, Nat.reduceSub, Nat.reduceLT, Nat.reduceEqDiff, decide_true, decide_false, notOwn, Bool.and_true, Bool.true_and, Bool.and_false, Bool.false_and, Bool.or_true, Bool.true_or, Bool.or_false, Bool.false_or, Bool.not_true, Bool.not_false, Bool.false_eq_true, if_true, if_false, decide_eq_true_eq, omap_some, omap_none, op_add, op_sub, op_addt, cp_eq, cp_ne, cp_lt, cp_le, cp_gt, cp_ge, cp_isn, cp_notn, cp_inn, cp_nin, itemsP, ofO, Tg.put, Tg.puts, putAll, mkL_t, mkL_f, lim_0, lim_1, lim_2, lim_3, lim_4, lim_5, lim_6, lim_7, lim_8, nxP_nx, okP_ok, putS_eq, biW_int, biW_str, biW_tup, biW_lst, biW_bl, biW_non, biW_scr, biW_cel, biW_two, biG, peeks, biP, biL, int_mod, int_fdiv, List.all_cons, List.all_nil, Int.cast_ofNat_Int, Int.reduceEq, Int.reduceLT, Int.reduceLE, Int.reduceAdd, Int.reduceSub, Int.reduceNeg, eqP_int, nrP_nx, nrP_rt, leave_p, leave_nx, cut_self]]
  dsimp only
  have p1 := prop_ev (k := k) (f := f_Web__origin) (δ := [some (.p (webP o g rs)), some (.p (wyP ix)), some (.p (.lst ((keptW (waysOf o g rs) ix).map wyP))), some (.p (.lst ((leftR o g rs ix).map rdP))), none, none]) (st := st) (o := o) (g := g) (rs := rs) rfl (origin_ok (by omega))
  have p2 := prop_ev (k := k) (f := f_Web__goal) (δ := [some (.p (webP o g rs)), some (.p (wyP ix)), some (.p (.lst ((keptW (waysOf o g rs) ix).map wyP))), some (.p (.lst ((leftR o g rs ix).map rdP))), none, none]) (st := st) (o := o) (g := g) (rs := rs) rfl (goal_ok (by omega))
  have nw := web_new (m := k) hk h3 (st := st)
  have t1 : (E.bi .tuple false (.cons (.v 3) .nil)).ev (Cn k) [some (.p (webP o g rs)), some (.p (wyP ix)), some (.p (.lst ((keptW (waysOf o g rs) ix).map wyP))), some (.p (.lst ((leftR o g rs ix).map rdP))), none, none] st = .ok (.p (rdsP (leftR o g rs ix))) st := by
    simp only [Ss.ev, S.ev, E.ev, Es.ev, It.ev, bind_ok, bind_exc, bind_no, sr_ok, sr_exc, sr_no, Res.two, Res.one, peek_p, keep_p, keeps, tru_b, cx_call, cx_new, cx_glo, cx_sub, cx_dun, cx_inst, cx_fuel, start, List.map_cons, List.map_nil, List.length_cons, List.length_nil, List.reduceReplicate, List.cons_append, List.nil_append, List.getElem?_cons_zero, List.getElem?_cons_succ, List.set_cons_zero, List.set_cons_succ, Nat.reduceAdd, Nat.reduceSub, Nat.reduceLT, Nat.reduceEqDiff, decide_true, decide_false, notOwn, Bool.and_true, Bool.true_and, Bool.and_false, Bool.false_and, Bool.or_true, Bool.true_or, Bool.or_false, Bool.false_or, Bool.not_true, Bool.not_false, Bool.false_eq_true, if_true, if_false, decide_eq_true_eq, omap_some, omap_none, op_add, op_sub, op_addt, cp_eq, cp_ne, cp_lt, cp_le, cp_gt, cp_ge, cp_isn, cp_notn, cp_inn, cp_nin, itemsP, ofO, Tg.put, Tg.puts, putAll, mkL_t, mkL_f, lim_0, lim_1, lim_2, lim_3, lim_4, lim_5, lim_6, lim_7, lim_8, nxP_nx, okP_ok, putS_eq, biW_int, biW_str, biW_tup, biW_lst, biW_bl, biW_non, biW_scr, biW_cel, biW_two, biG, peeks, biP, biL, int_mod, int_fdiv, List.all_cons, List.all_nil, Int.cast_ofNat_Int, Int.reduceEq, Int.reduceLT, Int.reduceLE, Int.reduceAdd, Int.reduceSub, Int.reduceNeg, eqP_int, nrP_nx, nrP_rt, leave_p, leave_nx, cut_self]
    rfl
  have nf : (webF o g (leftR o g rs ix)).length = 3 := rfl
  rw [Ss.ev, S.ev, E.ev, Es.ev, p1]
  simp only [bind_ok]
  rw [Es.ev, p2]
  simp only [bind_ok]
  rw [Es.ev, t1]
  simp only [bind_ok, Es.ev, cx_new, nw, nf, beq_self_eq_true, if_true, sr_ok, leave_p, cut_self]
  rfl
theorem closed_ok {m : Nat} (hm : 8 ≤ m) {o g : Nat} {rs : List Rd} (h : WebOk o g rs) {ix : List Nat} (hl : ix.length ≤ 1000) (hi : ∀ i ∈ ix, i < rs.length) (has : ix.Pairwise (· < ·)) (hwl : ∀ w ∈ waysOf o g rs, w.length ≤ 1000) (h2 : keptW (waysOf o g rs) ix ≠ []) (h3 : WebOk o g (leftR o g rs ix)) {st : Sto} :
    MG.call m f_Web__closed [.p (webP o g rs), .p (wyP ix)] st = .ok (.p (webP o g (leftR o g rs ix))) st := by
  obtain ⟨k, rfl, hk⟩ := suc_of hm
  rw [call_eq fd_Web__closed rfl rfl]
  have e1 := check_indexes_ok (m := k) (by omega) (o := o) (g := g) (rs := rs) (by have := h.r8; omega) hl hi has (st := st)
  have e2 := without_ok (m := k) hk h hwl h2 h3 (st := st)
  simp only [d_Web__closed, b_Web__closed, Ss.ev, S.ev, E.ev, Es.ev, It.ev, bind_ok, bind_exc, bind_no, sr_ok, sr_exc, sr_no, Res.two, Res.one, peek_p, keep_p, keeps, tru_b, cx_call, cx_new, cx_glo, cx_sub, cx_dun, cx_inst, cx_fuel, start, List.map_cons, List.map_nil, List.length_cons, List.length_nil, List.reduceReplicate, List.cons_append, List.nil_append, List.getElem?_cons_zero, List.getElem?_cons_succ, List.set_cons_zero, List.set_cons_succ, Nat.reduceAdd, Nat.reduceSub, Nat.reduceLT, Nat.reduceEqDiff, decide_true, decide_false, notOwn, Bool.and_true, Bool.true_and, Bool.and_false, Bool.false_and, Bool.or_true, Bool.true_or, Bool.or_false, Bool.false_or, Bool.not_true, Bool.not_false, Bool.false_eq_true, if_true, if_false, decide_eq_true_eq, omap_some, omap_none, op_add, op_sub, op_addt, cp_eq, cp_ne, cp_lt, cp_le, cp_gt, cp_ge, cp_isn, cp_notn, cp_inn, cp_nin, itemsP, ofO, Tg.put, Tg.puts, putAll, mkL_t, mkL_f, lim_0, lim_1, lim_2, lim_3, lim_4, lim_5, lim_6, lim_7, lim_8, nxP_nx, okP_ok, putS_eq, biW_int, biW_str, biW_tup, biW_lst, biW_bl, biW_non, biW_scr, biW_cel, biW_two, biG, peeks, biP, biL, int_mod, int_fdiv, List.all_cons, List.all_nil, Int.cast_ofNat_Int, Int.reduceEq, Int.reduceLT, Int.reduceLE, Int.reduceAdd, Int.reduceSub, Int.reduceNeg, eqP_int, nrP_nx, nrP_rt, leave_p, leave_nx, cut_self, e1, e2]
end Z.U

namespace Z.U
open PySem

/-- the list at j is now ys -/
def stp (st : Sto) (j : Nat) (ys : List P) : Sto := { st with ls := st.ls.set j ⟨ys, false⟩ }
def At0 (st : Sto) (j : Nat) (ys : List P) : Prop := st.ls[j]? = some ⟨ys, false⟩
theorem At0.lt {st : Sto} {j : Nat} {ys : List P} (h : At0 st j ys) : j < st.ls.length := (List.getElem?_eq_some_iff.mp h).1
theorem At0.stp {st : Sto} {j : Nat} {ys zs : List P} (h : At0 st j ys) : At0 (stp st j zs) j zs := List.getElem?_set_self h.lt
theorem stp_stp {st : Sto} {j : Nat} {ys zs : List P} : stp (stp st j ys) j zs = stp st j zs := by
  simp [stp, List.set_set]
theorem stp_len {st : Sto} {j : Nat} {ys : List P} : (stp st j ys).ls.length = st.ls.length := by simp [stp]
theorem stp_cut {st : Sto} {j : Nat} {ys : List P} : (stp st j ys).cut st.ls.length = stp st j ys := by
  simp only [stp, Sto.cut]
  rw [List.take_of_length_le (by simp)]
theorem peek_at {st : Sto} {j : Nat} {ys : List P} (h : At0 st j ys) : peek st (.cel j) = some (.lst ys) := by
  have h : st.ls[j]? = some ⟨ys, false⟩ := h
  simp [peek, h]
theorem wrt_at {st : Sto} {j : Nat} {ys zs : List P} {r : P} {f : List P → Option (List P × P)} (h : At0 st j ys) (hf : f ys = some (zs, r)) : wrt j f st = .ok (.p r) (stp st j zs) := by
  have h : st.ls[j]? = some ⟨ys, false⟩ := h
  simp [wrt, h, hf, stp]
def Jarry (jar : List P) : Prop := ∃ a b c : Int, jar = [.int a, .int b, .int c]
/-- a def that draws from a jar and changes nothing else -/
def JF (m f : Nat) (xs : List P) (Q : P → Prop) : Prop := ∀ (st : Sto) (j : Nat) (jar : List P), Jarry jar → At0 st j jar → ∃ r jar', Jarry jar' ∧ Q r ∧ MG.call m f (.cel j :: xs.map .p) st = .ok (.p r) (stp st j jar')
theorem JF.imp {m f : Nat} {xs : List P} {Q Q' : P → Prop} (h : JF m f xs Q) (k : ∀ r, Q r → Q' r) : JF m f xs Q' := fun st j jar h1 h2 => by
  obtain ⟨r, jar', a, b, c⟩ := h st j jar h1 h2
  exact ⟨r, jar', a, k r b, c⟩
theorem dip_ok {m : Nat} (hm : 1 ≤ m) {wide : Int} (hw : 0 < wide) (hw2 : wide < 1000000000) : JF m f_law_dip [.int wide] fun r => ∃ d : Int, 0 ≤ d ∧ d < wide ∧ r = .int d := by
  rintro st j jar ⟨a, b, c, rfl⟩ h
  obtain ⟨n, rfl, hn⟩ := suc_of hm
  show ∃ r jar', Jarry jar' ∧ _ ∧ MG.call (n + 1) f_law_dip [.cel j, .p (.int wide)] st = .ok (.p r) (stp st j jar')
  have hne : (wide == 0) = false := by
    rw [beq_eq_false_iff_ne]
    omega
  have hbl : Nat.blt wide.natAbs 1073741824 = true := by
    rw [Nat.blt_eq]
    omega
  have h1 : At0 (stp st j [.int a, .int b, .int (c + 1)]) j [.int a, .int b, .int (c + 1)] := h.stp
  have p0 := peek_at h
  have p1 := peek_at h1
  rw [call_eq fd_law_dip rfl rfl]
  have w1 : wrt j (setAt 2 (.int (c + 1))) st = .ok (.p .non) (stp st j [.int a, .int b, .int (c + 1)]) := wrt_at h rfl
  have a0 : ∀ x y z : P, L2.atI [x, y, z] 0 = some x := fun _ _ _ => rfl
  have a1 : ∀ x y z : P, L2.atI [x, y, z] 1 = some y := fun _ _ _ => rfl
  have a2 : ∀ x y z : P, L2.atI [x, y, z] 2 = some z := fun _ _ _ => rfl
  have t1 : smallI 1 = true := rfl
  by_cases ha : 0 < a
  · have w2 : wrt j (setAt 0 (.int (a.fdiv wide))) (stp st j [.int a, .int b, .int (c + 1)]) = .ok (.p .non) (stp (stp st j [.int a, .int b, .int (c + 1)]) j [.int (a.fdiv wide), .int b, .int (c + 1)]) := wrt_at h1 rfl
    refine ⟨_, _, ⟨a.fdiv wide, b, c + 1, rfl⟩, ⟨a.fmod wide, Int.fmod_nonneg_of_pos a hw, Int.fmod_lt_of_pos a hw, rfl⟩, ?_⟩
    simp only [d_law_dip, b_law_dip, Ss.ev, S.ev, E.ev, Es.ev, It.ev, bind_ok, bind_exc, bind_no, sr_ok, sr_exc, sr_no, Res.two, Res.one, peek_p, keep_p, keeps, tru_b, cx_call, cx_new, cx_glo, cx_sub, cx_dun, cx_inst, cx_fuel, start, List.map_cons, List.map_nil, List.length_cons, List.length_nil, List.reduceReplicate, List.cons_append, List.nil_append, List.getElem?_cons_zero, List.getElem?_cons_succ, List.set_cons_zero, List.set_cons_succ, Nat.reduceAdd, Nat.reduceSub, Nat.reduceLT, Nat.reduceEqDiff, decide_true, decide_false, notOwn, Bool.and_true, Bool.true_and, Bool.and_false, Bool.false_and, Bool.or_true, Bool.true_or, Bool.or_false, Bool.false_or, Bool.not_true, Bool.not_false, Bool.false_eq_true, if_true, if_false, decide_eq_true_eq, omap_some, omap_none, op_add, op_sub, op_addt, cp_eq, cp_ne, cp_lt, cp_le, cp_gt, cp_ge, cp_isn, cp_notn, cp_inn, cp_nin, itemsP, ofO, Tg.put, Tg.puts, putAll, mkL_t, mkL_f, lim_0, lim_1, lim_2, lim_3, lim_4, lim_5, lim_6, lim_7, lim_8, nxP_nx, okP_ok, putS_eq, biW_int, biW_str, biW_tup, biW_lst, biW_bl, biW_non, biW_scr, biW_cel, biW_two, biG, peeks, biP, biL, int_mod, int_fdiv, List.all_cons, List.all_nil, Int.cast_ofNat_Int, Int.reduceEq, Int.reduceLT, Int.reduceLE, Int.reduceAdd, Int.reduceSub, Int.reduceNeg, eqP_int, nrP_nx, nrP_rt, leave_p, leave_nx, cut_self, p0, p1, ixP, a0, a1, a2, opP, w1, w2, ha, hne, hbl, stp_stp, stp_cut]
  · have hda : decide (0 < a) = false := decide_eq_false ha
    have h2 : At0 (stp st j [.int a, .int ((b * 40692 + (c + 1) * 52021 + 31).fmod 2147483399), .int (c + 1)]) j [.int a, .int ((b * 40692 + (c + 1) * 52021 + 31).fmod 2147483399), .int (c + 1)] := h.stp
    have p2 := peek_at h2
    have w2 : wrt j (setAt 1 (.int ((b * 40692 + (c + 1) * 52021 + 31).fmod 2147483399))) (stp st j [.int a, .int b, .int (c + 1)]) = .ok (.p .non) (stp (stp st j [.int a, .int b, .int (c + 1)]) j [.int a, .int ((b * 40692 + (c + 1) * 52021 + 31).fmod 2147483399), .int (c + 1)]) := wrt_at h1 rfl
    have t2 : smallI 40692 = true := rfl
    have t3 : smallI 52021 = true := rfl
    have t4 : ((2147483399 : Int) == 0) = false := rfl
    have t5 : ((2048 : Int) == 0) = false := rfl
    have t6 : Nat.blt (2048 : Int).natAbs 1073741824 = true := rfl
    refine ⟨_, _, ⟨a, (b * 40692 + (c + 1) * 52021 + 31).fmod 2147483399, c + 1, rfl⟩, ⟨(((b * 40692 + (c + 1) * 52021 + 31).fmod 2147483399).fdiv 2048).fmod wide, Int.fmod_nonneg_of_pos _ hw, Int.fmod_lt_of_pos _ hw, rfl⟩, ?_⟩
    simp only [d_law_dip, b_law_dip, Ss.ev, S.ev, E.ev, Es.ev, It.ev, bind_ok, bind_exc, bind_no, sr_ok, sr_exc, sr_no, Res.two, Res.one, peek_p, keep_p, keeps, tru_b, cx_call, cx_new, cx_glo, cx_sub, cx_dun, cx_inst, cx_fuel, start, List.map_cons, List.map_nil, List.length_cons, List.length_nil, List.reduceReplicate, List.cons_append, List.nil_append, List.getElem?_cons_zero, List.getElem?_cons_succ, List.set_cons_zero, List.set_cons_succ, Nat.reduceAdd, Nat.reduceSub, Nat.reduceLT, Nat.reduceEqDiff, decide_true, decide_false, notOwn, Bool.and_true, Bool.true_and, Bool.and_false, Bool.false_and, Bool.or_true, Bool.true_or, Bool.or_false, Bool.false_or, Bool.not_true, Bool.not_false, Bool.false_eq_true, if_true, if_false, decide_eq_true_eq, omap_some, omap_none, op_add, op_sub, op_addt, cp_eq, cp_ne, cp_lt, cp_le, cp_gt, cp_ge, cp_isn, cp_notn, cp_inn, cp_nin, itemsP, ofO, Tg.put, Tg.puts, putAll, mkL_t, mkL_f, lim_0, lim_1, lim_2, lim_3, lim_4, lim_5, lim_6, lim_7, lim_8, nxP_nx, okP_ok, putS_eq, biW_int, biW_str, biW_tup, biW_lst, biW_bl, biW_non, biW_scr, biW_cel, biW_two, biG, peeks, biP, biL, int_mod, int_fdiv, List.all_cons, List.all_nil, Int.cast_ofNat_Int, Int.reduceEq, Int.reduceLT, Int.reduceLE, Int.reduceAdd, Int.reduceSub, Int.reduceNeg, eqP_int, nrP_nx, nrP_rt, leave_p, leave_nx, cut_self, p0, p1, p2, ixP, a0, a1, a2, opP, w1, w2, hda, hne, hbl, t1, t2, t3, t4, t5, t6, stp_stp, stp_cut]
theorem atI_in {α : Type} {xs : List α} {d : Int} (h0 : 0 ≤ d) (h1 : d < xs.length) : ∃ x, L2.atI xs d = some x ∧ x ∈ xs := by
  refine ⟨xs[d.toNat]'(by omega), ?_, List.getElem_mem _⟩
  have := atI_nat (xs := xs) (k := d.toNat) (List.getElem?_eq_getElem (by omega))
  rwa [Int.toNat_of_nonneg h0] at this
theorem pick_ok {m : Nat} (hm : 2 ≤ m) {menu : P} {xs : List P} (hx : menu = .lst xs ∨ menu = .tup xs) (h0 : 0 < xs.length) (h1 : xs.length < 1000000) : JF m f_law_pick [menu] fun r => r ∈ xs := by
  intro st j jar hj h
  obtain ⟨n, rfl, hn⟩ := suc_of hm
  obtain ⟨r, jar', hj', ⟨d, d0, d1, rfl⟩, e⟩ := dip_ok hn (wide := (xs.length : Nat)) (by omega) (by omega) st j jar hj h
  obtain ⟨x, hx1, hx2⟩ := atI_in d0 d1
  refine ⟨x, jar', hj', hx2, ?_⟩
  have e' : MG.call n f_law_dip [.cel j, .p (.int (xs.length : Nat))] st = .ok (.p (.int d)) (stp st j jar') := e
  show MG.call (n + 1) f_law_pick [.cel j, .p menu] st = _
  rw [call_eq fd_law_pick rfl rfl]
  rcases hx with rfl | rfl
  · simp only [d_law_pick, b_law_pick, Ss.ev, S.ev, E.ev, Es.ev, It.ev, bind_ok, bind_exc, bind_no, sr_ok, sr_exc, sr_no, Res.two, Res.one, peek_p, keep_p, keeps, tru_b, cx_call, cx_new, cx_glo, cx_sub, cx_dun, cx_inst, cx_fuel, start, List.map_cons, List.map_nil, List.length_cons, List.length_nil, List.reduceReplicate, List.cons_append, List.nil_append, List.getElem?_cons_zero, List.getElem?_cons_succ, List.set_cons_zero, List.set_cons_succ, Nat.reduceAdd, Nat.reduceSub, Nat.reduceLT, Nat.reduceEqDiff, decide_true, decide_false, notOwn, Bool.and_true, Bool.true_and, Bool.and_false, Bool.false_and, Bool.or_true, Bool.true_or, Bool.or_false, Bool.false_or, Bool.not_true, Bool.not_false, Bool.false_eq_true, if_true, if_false, decide_eq_true_eq, omap_some, omap_none, op_add, op_sub, op_addt, cp_eq, cp_ne, cp_lt, cp_le, cp_gt, cp_ge, cp_isn, cp_notn, cp_inn, cp_nin, itemsP, ofO, Tg.put, Tg.puts, putAll, mkL_t, mkL_f, lim_0, lim_1, lim_2, lim_3, lim_4, lim_5, lim_6, lim_7, lim_8, nxP_nx, okP_ok, putS_eq, biW_int, biW_str, biW_tup, biW_lst, biW_bl, biW_non, biW_scr, biW_cel, biW_two, biG, peeks, biP, biL, int_mod, int_fdiv, List.all_cons, List.all_nil, Int.cast_ofNat_Int, Int.reduceEq, Int.reduceLT, Int.reduceLE, Int.reduceAdd, Int.reduceSub, Int.reduceNeg, eqP_int, nrP_nx, nrP_rt, leave_p, leave_nx, cut_self, lenP, e', ixP, hx1, stp_cut]
  · simp only [d_law_pick, b_law_pick, Ss.ev, S.ev, E.ev, Es.ev, It.ev, bind_ok, bind_exc, bind_no, sr_ok, sr_exc, sr_no, Res.two, Res.one, peek_p, keep_p, keeps, tru_b, cx_call, cx_new, cx_glo, cx_sub, cx_dun, cx_inst, cx_fuel, start, List.map_cons, List.map_nil, List.length_cons, List.length_nil, List.reduceReplicate, List.cons_append, List.nil_append, List.getElem?_cons_zero, List.getElem?_cons_succ, List.set_cons_zero, List.set_cons_succ, Nat.reduceAdd, Nat.reduceSub, Nat.reduceLT, Nat.reduceEqDiff, decide_true, decide_false, notOwn, Bool.and_true, Bool.true_and, Bool.and_false, Bool.false_and, Bool.or_true, Bool.true_or, Bool.or_false, Bool.false_or, Bool.not_true, Bool.not_false, Bool.false_eq_true, if_true, if_false, decide_eq_true_eq, omap_some, omap_none, op_add, op_sub, op_addt, cp_eq, cp_ne, cp_lt, cp_le, cp_gt, cp_ge, cp_isn, cp_notn, cp_inn, cp_nin, itemsP, ofO, Tg.put, Tg.puts, putAll, mkL_t, mkL_f, lim_0, lim_1, lim_2, lim_3, lim_4, lim_5, lim_6, lim_7, lim_8, nxP_nx, okP_ok, putS_eq, biW_int, biW_str, biW_tup, biW_lst, biW_bl, biW_non, biW_scr, biW_cel, biW_two, biG, peeks, biP, biL, int_mod, int_fdiv, List.all_cons, List.all_nil, Int.cast_ofNat_Int, Int.reduceEq, Int.reduceLT, Int.reduceLE, Int.reduceAdd, Int.reduceSub, Int.reduceNeg, eqP_int, nrP_nx, nrP_rt, leave_p, leave_nx, cut_self, lenP, e', ixP, hx1, stp_cut]
theorem cutG_map {α β : Type} {f : α → β} {xs : List α} {lo hi : Option Int} : cutG (xs.map f) lo hi = (cutG xs lo hi).map f := by
  simp [cutG, List.map_take, List.map_drop]
def scrP (ns : List Int) : P := .scr (ns.map P.int)
theorem jar_ok {n : Nat} {st : Sto} {ns : List Int} {k : Int} (k0 : 0 ≤ k) (k1 : k ≤ 10) :
    ∃ a b : Int, MG.call (n + 1) f_law_jar [.p (scrP ns), .p (.int k)] st = .ok (.cel st.ls.length) { st with ls := st.ls ++ [⟨[.int a, .int b, .int 0], false⟩] } := by
  have t1 : smallI 7369 = true := rfl
  have t2 : smallI (k + 2) = true := smallI_of (by omega)
  have t3 : smallI 29 = true := rfl
  have t4 : smallI 8117 = true := rfl
  have t5 : smallI 64013 = true := rfl
  have t6 : smallI 105019 = true := rfl
  have t7 : smallI 733 = true := rfl
  have t8 : opP .pow (.int 10) (.int 18) = some (.int 1000000000000000000) := rfl
  have p1 : prtP .non = some none := rfl
  have p2 : prtP (.int 4) = some (some 4) := rfl
  rw [call_eq fd_law_jar rfl rfl]
  rw [show d_law_jar.body = b_law_jar from rfl, b_law_jar]
  rw [show start d_law_jar.ns [W.p (scrP ns), .p (.int k)] = [some (.p (scrP ns)), some (.p (.int k)), none, none, none, none] from rfl]
  rw [Ss.ev, show S.ev (Cn n) (.set (.n 2) (.op .add (.op .mul (.op .mul (.int 7369) (.op .add (.v 1) (.int 5))) (.op .add (.v 1) (.int 2))) (.op .mul (.int 29) (.bi .len false (.cons (.v 0) .nil))))) [some (.p (scrP ns)), some (.p (.int k)), none, none, none, none] st = .nx [some (.p (scrP ns)), some (.p (.int k)), some (.p (.int (7369 * (k + 5) * (k + 2) + 29 * ((ns.map P.int).length : Nat)))), none, none, none] st by
    simp only [Ss.ev, S.ev, E.ev, Es.ev, It.ev, bind_ok, bind_exc, bind_no, sr_ok, sr_exc, sr_no, Res.two, Res.one, peek_p, keep_p, keeps, tru_b, cx_call, cx_new, cx_glo, cx_sub, cx_dun, cx_inst, cx_fuel, start, List.map_cons, List.map_nil, List.length_cons, List.length_nil, List.reduceReplicate, List.cons_append, List.nil_append, List.getElem?_cons_zero, List.getElem?_cons_succ, List.set_cons_zero, List.set_cons_succ, Nat.reduceAdd, Nat.reduceSub, Nat.reduceLT, Nat.reduceEqDiff, decide_true, decide_false, notOwn, Bool.and_true, Bool.true_and, Bool.and_false, Bool.false_and, Bool.or_true, Bool.true_or, Bool.or_false, Bool.false_or, Bool.not_true, Bool.not_false, Bool.false_eq_true, if_true, if_false, decide_eq_true_eq, omap_some, omap_none, op_add, op_sub, op_addt, cp_eq, cp_ne, cp_lt, cp_le, cp_gt, cp_ge, cp_isn, cp_notn, cp_inn, cp_nin, itemsP, ofO, Tg.put, Tg.puts, putAll, mkL_t, mkL_f, lim_0, lim_1, lim_2, lim_3, lim_4, lim_5, lim_6, lim_7, lim_8, nxP_nx, okP_ok, putS_eq, biW_int, biW_str, biW_tup, biW_lst, biW_bl, biW_non, biW_scr, biW_cel, biW_two, biG, peeks, biP, biL, int_mod, int_fdiv, List.all_cons, List.all_nil, Int.cast_ofNat_Int, Int.reduceEq, Int.reduceLT, Int.reduceLE, Int.reduceAdd, Int.reduceSub, Int.reduceNeg, eqP_int, nrP_nx, nrP_rt, leave_p, leave_nx, cut_self, scrP, lenP, int_muls t1, int_mulr t2, int_muls t3]]
  dsimp only
  rw [Ss.ev, S.ev, show It.ev (Cn n) (.val (.sl (.v 0) .non (.int 4))) [some (.p (scrP ns)), some (.p (.int k)), some (.p (.int (7369 * (k + 5) * (k + 2) + 29 * ((ns.map P.int).length : Nat)))), none, none, none] st = .ok ((cutG ns none (some 4)).map P.int) st by
    simp only [Ss.ev, S.ev, E.ev, Es.ev, It.ev, bind_ok, bind_exc, bind_no, sr_ok, sr_exc, sr_no, Res.two, Res.one, peek_p, keep_p, keeps, tru_b, cx_call, cx_new, cx_glo, cx_sub, cx_dun, cx_inst, cx_fuel, start, List.map_cons, List.map_nil, List.length_cons, List.length_nil, List.reduceReplicate, List.cons_append, List.nil_append, List.getElem?_cons_zero, List.getElem?_cons_succ, List.set_cons_zero, List.set_cons_succ, Nat.reduceAdd, Nat.reduceSub, Nat.reduceLT, Nat.reduceEqDiff, decide_true, decide_false, notOwn, Bool.and_true, Bool.true_and, Bool.and_false, Bool.false_and, Bool.or_true, Bool.true_or, Bool.or_false, Bool.false_or, Bool.not_true, Bool.not_false, Bool.false_eq_true, if_true, if_false, decide_eq_true_eq, omap_some, omap_none, op_add, op_sub, op_addt, cp_eq, cp_ne, cp_lt, cp_le, cp_gt, cp_ge, cp_isn, cp_notn, cp_inn, cp_nin, itemsP, ofO, Tg.put, Tg.puts, putAll, mkL_t, mkL_f, lim_0, lim_1, lim_2, lim_3, lim_4, lim_5, lim_6, lim_7, lim_8, nxP_nx, okP_ok, putS_eq, biW_int, biW_str, biW_tup, biW_lst, biW_bl, biW_non, biW_scr, biW_cel, biW_two, biG, peeks, biP, biL, int_mod, int_fdiv, List.all_cons, List.all_nil, Int.cast_ofNat_Int, Int.reduceEq, Int.reduceLT, Int.reduceLE, Int.reduceAdd, Int.reduceSub, Int.reduceNeg, eqP_int, nrP_nx, nrP_rt, leave_p, leave_nx, cut_self, scrP, p1, p2, slP, cutG_map]]
  simp only [sr_ok]
  obtain ⟨δ', st', e, ⟨u, a, rfl, rfl⟩⟩ := forR_pre (e := P.int) (tg := .n 3) (body := fun δ st => (Ss.cons (.set (.n 2) (.op .mod (.bi .int false (.cons (.op .add (.op .mul (.v 2) (.int 733)) (.v 3)) .nil)) (.int 1000000009))) .nil).ev (Cn n) δ st) (cutG ns none (some 4))
    (fun done δ st' => ∃ (u : Int) (a : Option W), δ = [some (.p (scrP ns)), some (.p (.int k)), some (.p (.int u)), a, none, none] ∧ st = st') (δ := [some (.p (scrP ns)), some (.p (.int k)), some (.p (.int (7369 * (k + 5) * (k + 2) + 29 * ((ns.map P.int).length : Nat)))), none, none, none]) (st := st) ⟨_, none, rfl, rfl⟩ (by
    rintro done x rest _ _ hd ⟨u, a, rfl, rfl⟩
    have h9 : (1000000009 : Int) ≠ 0 := by decide
    simp only [Ss.ev, S.ev, E.ev, Es.ev, It.ev, bind_ok, bind_exc, bind_no, sr_ok, sr_exc, sr_no, Res.two, Res.one, peek_p, keep_p, keeps, tru_b, cx_call, cx_new, cx_glo, cx_sub, cx_dun, cx_inst, cx_fuel, start, List.map_cons, List.map_nil, List.length_cons, List.length_nil, List.reduceReplicate, List.cons_append, List.nil_append, List.getElem?_cons_zero, List.getElem?_cons_succ, List.set_cons_zero, List.set_cons_succ, Nat.reduceAdd, Nat.reduceSub, Nat.reduceLT, Nat.reduceEqDiff, decide_true, decide_false, notOwn, Bool.and_true, Bool.true_and, Bool.and_false, Bool.false_and, Bool.or_true, Bool.true_or, Bool.or_false, Bool.false_or, Bool.not_true, Bool.not_false, Bool.false_eq_true, if_true, if_false, decide_eq_true_eq, omap_some, omap_none, op_add, op_sub, op_addt, cp_eq, cp_ne, cp_lt, cp_le, cp_gt, cp_ge, cp_isn, cp_notn, cp_inn, cp_nin, itemsP, ofO, Tg.put, Tg.puts, putAll, mkL_t, mkL_f, lim_0, lim_1, lim_2, lim_3, lim_4, lim_5, lim_6, lim_7, lim_8, nxP_nx, okP_ok, putS_eq, biW_int, biW_str, biW_tup, biW_lst, biW_bl, biW_non, biW_scr, biW_cel, biW_two, biG, peeks, biP, biL, int_mod, int_fdiv, List.all_cons, List.all_nil, Int.cast_ofNat_Int, Int.reduceEq, Int.reduceLT, Int.reduceLE, Int.reduceAdd, Int.reduceSub, Int.reduceNeg, eqP_int, nrP_nx, nrP_rt, leave_p, leave_nx, cut_self, int_mulr t7, int_mod h9]
    exact ⟨_, _, rfl, trivial⟩)
  rw [e]
  dsimp only
  have own : ∃ o : Int, (E.ife (.cmp .lt (.v 1) (.bi .len false (.cons (.v 0) .nil))) (.ix (.v 0) (.v 1)) (.int 0)).ev (Cn n) [some (.p (scrP ns)), some (.p (.int k)), some (.p (.int u)), a, none, none] st = .ok (.p (.int o)) st := by
    by_cases hk : k < ((ns.map P.int).length : Nat)
    · obtain ⟨x, hx, hm⟩ := atI_in k0 hk
      obtain ⟨o, _, rfl⟩ := List.mem_map.mp hm
      refine ⟨o, ?_⟩
      simp only [Ss.ev, S.ev, E.ev, Es.ev, It.ev, bind_ok, bind_exc, bind_no, sr_ok, sr_exc, sr_no, Res.two, Res.one, peek_p, keep_p, keeps, tru_b, cx_call, cx_new, cx_glo, cx_sub, cx_dun, cx_inst, cx_fuel, start, List.map_cons, List.map_nil, List.length_cons, List.length_nil, List.reduceReplicate, List.cons_append, List.nil_append, List.getElem?_cons_zero, List.getElem?_cons_succ, List.set_cons_zero, List.set_cons_succ, Nat.reduceAdd, Nat.reduceSub, Nat.reduceLT, Nat.reduceEqDiff, decide_true, decide_false, notOwn, Bool.and_true, Bool.true_and, Bool.and_false, Bool.false_and, Bool.or_true, Bool.true_or, Bool.or_false, Bool.false_or, Bool.not_true, Bool.not_false, Bool.false_eq_true, if_true, if_false, decide_eq_true_eq, omap_some, omap_none, op_add, op_sub, op_addt, cp_eq, cp_ne, cp_lt, cp_le, cp_gt, cp_ge, cp_isn, cp_notn, cp_inn, cp_nin, itemsP, ofO, Tg.put, Tg.puts, putAll, mkL_t, mkL_f, lim_0, lim_1, lim_2, lim_3, lim_4, lim_5, lim_6, lim_7, lim_8, nxP_nx, okP_ok, putS_eq, biW_int, biW_str, biW_tup, biW_lst, biW_bl, biW_non, biW_scr, biW_cel, biW_two, biG, peeks, biP, biL, int_mod, int_fdiv, List.all_cons, List.all_nil, Int.cast_ofNat_Int, Int.reduceEq, Int.reduceLT, Int.reduceLE, Int.reduceAdd, Int.reduceSub, Int.reduceNeg, eqP_int, nrP_nx, nrP_rt, leave_p, leave_nx, cut_self, scrP, lenP, hk, ixP, hx]
    · refine ⟨0, ?_⟩
      have hd : decide (k < ((ns.map P.int).length : Nat)) = false := decide_eq_false hk
      simp only [Ss.ev, S.ev, E.ev, Es.ev, It.ev, bind_ok, bind_exc, bind_no, sr_ok, sr_exc, sr_no, Res.two, Res.one, peek_p, keep_p, keeps, tru_b, cx_call, cx_new, cx_glo, cx_sub, cx_dun, cx_inst, cx_fuel, start, List.map_cons, List.map_nil, List.length_cons, List.length_nil, List.reduceReplicate, List.cons_append, List.nil_append, List.getElem?_cons_zero, List.getElem?_cons_succ, List.set_cons_zero, List.set_cons_succ, Nat.reduceAdd, Nat.reduceSub, Nat.reduceLT, Nat.reduceEqDiff, decide_true, decide_false, notOwn, Bool.and_true, Bool.true_and, Bool.and_false, Bool.false_and, Bool.or_true, Bool.true_or, Bool.or_false, Bool.false_or, Bool.not_true, Bool.not_false, Bool.false_eq_true, if_true, if_false, decide_eq_true_eq, omap_some, omap_none, op_add, op_sub, op_addt, cp_eq, cp_ne, cp_lt, cp_le, cp_gt, cp_ge, cp_isn, cp_notn, cp_inn, cp_nin, itemsP, ofO, Tg.put, Tg.puts, putAll, mkL_t, mkL_f, lim_0, lim_1, lim_2, lim_3, lim_4, lim_5, lim_6, lim_7, lim_8, nxP_nx, okP_ok, putS_eq, biW_int, biW_str, biW_tup, biW_lst, biW_bl, biW_non, biW_scr, biW_cel, biW_two, biG, peeks, biP, biL, int_mod, int_fdiv, List.all_cons, List.all_nil, Int.cast_ofNat_Int, Int.reduceEq, Int.reduceLT, Int.reduceLE, Int.reduceAdd, Int.reduceSub, Int.reduceNeg, eqP_int, nrP_nx, nrP_rt, leave_p, leave_nx, cut_self, scrP, lenP, hd]
  obtain ⟨o, own⟩ := own
  have dig : ∃ q : Int, (E.ife (.or (.cmp .lt (.v 4) (.int 0)) (.cmp .ge (.v 4) (.op .pow (.int 10) (.int 18)))) (.bi .abs false (.cons (.v 4) .nil)) (.int 0)).ev (Cn n) [some (.p (scrP ns)), some (.p (.int k)), some (.p (.int u)), a, some (.p (.int o)), none] st = .ok (.p (.int q)) st := by
    by_cases h0 : o < 0
    · refine ⟨if o < 0 then -o else o, ?_⟩
      simp only [Ss.ev, S.ev, E.ev, Es.ev, It.ev, bind_ok, bind_exc, bind_no, sr_ok, sr_exc, sr_no, Res.two, Res.one, peek_p, keep_p, keeps, tru_b, cx_call, cx_new, cx_glo, cx_sub, cx_dun, cx_inst, cx_fuel, start, List.map_cons, List.map_nil, List.length_cons, List.length_nil, List.reduceReplicate, List.cons_append, List.nil_append, List.getElem?_cons_zero, List.getElem?_cons_succ, List.set_cons_zero, List.set_cons_succ, Nat.reduceAdd, Nat.reduceSub, Nat.reduceLT, Nat.reduceEqDiff, decide_true, decide_false, notOwn, Bool.and_true, Bool.true_and, Bool.and_false, Bool.false_and, Bool.or_true, Bool.true_or, Bool.or_false, Bool.false_or, Bool.not_true, Bool.not_false, Bool.false_eq_true, if_true, if_false, decide_eq_true_eq, omap_some, omap_none, op_add, op_sub, op_addt, cp_eq, cp_ne, cp_lt, cp_le, cp_gt, cp_ge, cp_isn, cp_notn, cp_inn, cp_nin, itemsP, ofO, Tg.put, Tg.puts, putAll, mkL_t, mkL_f, lim_0, lim_1, lim_2, lim_3, lim_4, lim_5, lim_6, lim_7, lim_8, nxP_nx, okP_ok, putS_eq, biW_int, biW_str, biW_tup, biW_lst, biW_bl, biW_non, biW_scr, biW_cel, biW_two, biG, peeks, biP, biL, int_mod, int_fdiv, List.all_cons, List.all_nil, Int.cast_ofNat_Int, Int.reduceEq, Int.reduceLT, Int.reduceLE, Int.reduceAdd, Int.reduceSub, Int.reduceNeg, eqP_int, nrP_nx, nrP_rt, leave_p, leave_nx, cut_self, h0]
    · have hd : decide (o < 0) = false := decide_eq_false h0
      by_cases h1 : (1000000000000000000 : Int) ≤ o
      · refine ⟨if o < 0 then -o else o, ?_⟩
        simp only [Ss.ev, S.ev, E.ev, Es.ev, It.ev, bind_ok, bind_exc, bind_no, sr_ok, sr_exc, sr_no, Res.two, Res.one, peek_p, keep_p, keeps, tru_b, cx_call, cx_new, cx_glo, cx_sub, cx_dun, cx_inst, cx_fuel, start, List.map_cons, List.map_nil, List.length_cons, List.length_nil, List.reduceReplicate, List.cons_append, List.nil_append, List.getElem?_cons_zero, List.getElem?_cons_succ, List.set_cons_zero, List.set_cons_succ, Nat.reduceAdd, Nat.reduceSub, Nat.reduceLT, Nat.reduceEqDiff, decide_true, decide_false, notOwn, Bool.and_true, Bool.true_and, Bool.and_false, Bool.false_and, Bool.or_true, Bool.true_or, Bool.or_false, Bool.false_or, Bool.not_true, Bool.not_false, Bool.false_eq_true, if_true, if_false, decide_eq_true_eq, omap_some, omap_none, op_add, op_sub, op_addt, cp_eq, cp_ne, cp_lt, cp_le, cp_gt, cp_ge, cp_isn, cp_notn, cp_inn, cp_nin, itemsP, ofO, Tg.put, Tg.puts, putAll, mkL_t, mkL_f, lim_0, lim_1, lim_2, lim_3, lim_4, lim_5, lim_6, lim_7, lim_8, nxP_nx, okP_ok, putS_eq, biW_int, biW_str, biW_tup, biW_lst, biW_bl, biW_non, biW_scr, biW_cel, biW_two, biG, peeks, biP, biL, int_mod, int_fdiv, List.all_cons, List.all_nil, Int.cast_ofNat_Int, Int.reduceEq, Int.reduceLT, Int.reduceLE, Int.reduceAdd, Int.reduceSub, Int.reduceNeg, eqP_int, nrP_nx, nrP_rt, leave_p, leave_nx, cut_self, hd, t8, h1]
      · have hd2 : decide ((1000000000000000000 : Int) ≤ o) = false := decide_eq_false h1
        refine ⟨0, ?_⟩
        simp only [Ss.ev, S.ev, E.ev, Es.ev, It.ev, bind_ok, bind_exc, bind_no, sr_ok, sr_exc, sr_no, Res.two, Res.one, peek_p, keep_p, keeps, tru_b, cx_call, cx_new, cx_glo, cx_sub, cx_dun, cx_inst, cx_fuel, start, List.map_cons, List.map_nil, List.length_cons, List.length_nil, List.reduceReplicate, List.cons_append, List.nil_append, List.getElem?_cons_zero, List.getElem?_cons_succ, List.set_cons_zero, List.set_cons_succ, Nat.reduceAdd, Nat.reduceSub, Nat.reduceLT, Nat.reduceEqDiff, decide_true, decide_false, notOwn, Bool.and_true, Bool.true_and, Bool.and_false, Bool.false_and, Bool.or_true, Bool.true_or, Bool.or_false, Bool.false_or, Bool.not_true, Bool.not_false, Bool.false_eq_true, if_true, if_false, decide_eq_true_eq, omap_some, omap_none, op_add, op_sub, op_addt, cp_eq, cp_ne, cp_lt, cp_le, cp_gt, cp_ge, cp_isn, cp_notn, cp_inn, cp_nin, itemsP, ofO, Tg.put, Tg.puts, putAll, mkL_t, mkL_f, lim_0, lim_1, lim_2, lim_3, lim_4, lim_5, lim_6, lim_7, lim_8, nxP_nx, okP_ok, putS_eq, biW_int, biW_str, biW_tup, biW_lst, biW_bl, biW_non, biW_scr, biW_cel, biW_two, biG, peeks, biP, biL, int_mod, int_fdiv, List.all_cons, List.all_nil, Int.cast_ofNat_Int, Int.reduceEq, Int.reduceLT, Int.reduceLE, Int.reduceAdd, Int.reduceSub, Int.reduceNeg, eqP_int, nrP_nx, nrP_rt, leave_p, leave_nx, cut_self, hd, hd2, t8]
  obtain ⟨q, dig⟩ := dig
  rw [Ss.ev, S.ev, own]
  simp only [sr_ok, notOwn, Bool.and_true, List.length_cons, List.length_nil, Nat.reduceAdd, Nat.reduceLT, decide_true, if_true, List.set_cons_succ, List.set_cons_zero]
  rw [Ss.ev, S.ev, dig]
  have h9 : (2147483563 : Int) ≠ 0 := by decide
  refine ⟨q, (u * 8117 + o * 64013 + 105019 * (k + 1)).fmod 2147483563, ?_⟩
  simp only [Ss.ev, S.ev, E.ev, Es.ev, It.ev, bind_ok, bind_exc, bind_no, sr_ok, sr_exc, sr_no, Res.two, Res.one, peek_p, keep_p, keeps, tru_b, cx_call, cx_new, cx_glo, cx_sub, cx_dun, cx_inst, cx_fuel, start, List.map_cons, List.map_nil, List.length_cons, List.length_nil, List.reduceReplicate, List.cons_append, List.nil_append, List.getElem?_cons_zero, List.getElem?_cons_succ, List.set_cons_zero, List.set_cons_succ, Nat.reduceAdd, Nat.reduceSub, Nat.reduceLT, Nat.reduceEqDiff, decide_true, decide_false, notOwn, Bool.and_true, Bool.true_and, Bool.and_false, Bool.false_and, Bool.or_true, Bool.true_or, Bool.or_false, Bool.false_or, Bool.not_true, Bool.not_false, Bool.false_eq_true, if_true, if_false, decide_eq_true_eq, omap_some, omap_none, op_add, op_sub, op_addt, cp_eq, cp_ne, cp_lt, cp_le, cp_gt, cp_ge, cp_isn, cp_notn, cp_inn, cp_nin, itemsP, ofO, Tg.put, Tg.puts, putAll, mkL_t, mkL_f, lim_0, lim_1, lim_2, lim_3, lim_4, lim_5, lim_6, lim_7, lim_8, nxP_nx, okP_ok, putS_eq, biW_int, biW_str, biW_tup, biW_lst, biW_bl, biW_non, biW_scr, biW_cel, biW_two, biG, peeks, biP, biL, int_mod, int_fdiv, List.all_cons, List.all_nil, Int.cast_ofNat_Int, Int.reduceEq, Int.reduceLT, Int.reduceLE, Int.reduceAdd, Int.reduceSub, Int.reduceNeg, eqP_int, nrP_nx, nrP_rt, leave_p, leave_nx, cut_self, int_mulr t4, int_mulr t5, int_muls t6, int_mod h9, newC]
  simp [leave, Sto.cut, d_law_jar]
end Z.U

namespace Z.U
open PySem

/-- the store st with another jar at j, and lists of one's own behind it -/
def SS (st : Sto) (j : Nat) (jar : List P) (cs : List Cell) : Sto := ⟨st.ls.set j ⟨jar, false⟩ ++ cs, st.ob⟩
theorem SS_start {st : Sto} {j : Nat} {jar : List P} (h : At0 st j jar) : st = SS st j jar [] := by
  have h : st.ls[j]? = some ⟨jar, false⟩ := h
  obtain ⟨hl, he⟩ := List.getElem?_eq_some_iff.mp h
  have : st.ls.set j ⟨jar, false⟩ = st.ls := by
    rw [← he]
    exact List.set_getElem_self hl
  rw [SS, this, List.append_nil]
theorem SS_at {st : Sto} {j : Nat} {jar : List P} {cs : List Cell} (h : j < st.ls.length) : At0 (SS st j jar cs) j jar := by
  show (st.ls.set j ⟨jar, false⟩ ++ cs)[j]? = _
  rw [List.getElem?_append_left (by simpa using h), List.getElem?_set_self h]
theorem SS_stp {st : Sto} {j : Nat} {jar jar' : List P} {cs : List Cell} (h : j < st.ls.length) : stp (SS st j jar cs) j jar' = SS st j jar' cs := by
  show (⟨(st.ls.set j ⟨jar, false⟩ ++ cs).set j ⟨jar', false⟩, st.ob⟩ : Sto) = _
  rw [List.set_append_left _ _ (by simpa using h), List.set_set]
  rfl
theorem SS_new {st : Sto} {j : Nat} {jar xs : List P} {cs : List Cell} : newC xs (SS st j jar cs) = .ok (.cel (st.ls.length + cs.length)) (SS st j jar (cs ++ [⟨xs, false⟩])) := by
  unfold newC SS
  simp
theorem SS_get {st : Sto} {j i : Nat} {jar : List P} {cs : List Cell} : (SS st j jar cs).ls[st.ls.length + i]? = cs[i]? := by
  show (st.ls.set j ⟨jar, false⟩ ++ cs)[st.ls.length + i]? = _
  rw [List.getElem?_append_right (by simp)]
  simp
theorem SS_peek {st : Sto} {j i : Nat} {jar xs : List P} {cs : List Cell} {b : Bool} (h : cs[i]? = some ⟨xs, b⟩) : peek (SS st j jar cs) (.cel (st.ls.length + i)) = some (.lst xs) := by
  unfold peek
  dsimp only
  rw [SS_get, h]
theorem SS_keep {st : Sto} {j i : Nat} {jar xs : List P} {cs : List Cell} {b : Bool} (h : cs[i]? = some ⟨xs, b⟩) : keep (SS st j jar cs) (.cel (st.ls.length + i)) = .ok (.lst xs) (SS st j jar (cs.set i ⟨xs, true⟩)) := by
  unfold keep
  dsimp only
  rw [SS_get, h]
  dsimp only
  unfold SS
  dsimp only
  congr 2
  rw [List.set_append_right _ _ (by simp)]
  simp
theorem SS_wrt {st : Sto} {j i : Nat} {jar xs ys : List P} {r : P} {cs : List Cell} {f : List P → Option (List P × P)} (h : cs[i]? = some ⟨xs, false⟩) (hf : f xs = some (ys, r)) : wrt (st.ls.length + i) f (SS st j jar cs) = .ok (.p r) (SS st j jar (cs.set i ⟨ys, false⟩)) := by
  unfold wrt
  rw [SS_get, h]
  simp only [Bool.false_eq_true, if_false, hf]
  unfold SS
  dsimp only
  congr 2
  rw [List.set_append_right _ _ (by simp)]
  simp
theorem SS_lt {st : Sto} {j i : Nat} {jar : List P} {cs : List Cell} (h : i < cs.length) : st.ls.length + i < (SS st j jar cs).ls.length := by
  show _ < (st.ls.set j ⟨jar, false⟩ ++ cs).length
  simp
  exact h
theorem SS_cut {st : Sto} {j : Nat} {jar : List P} {cs : List Cell} : (SS st j jar cs).cut st.ls.length = stp st j jar := by
  unfold SS Sto.cut stp
  simp
theorem SS_nil {st : Sto} {j : Nat} {jar : List P} : SS st j jar [] = stp st j jar := by
  unfold SS stp
  simp
theorem JF.ss {m f : Nat} {xs : List P} {Q : P → Prop} (h : JF m f xs Q) {st : Sto} {j : Nat} {jar : List P} {cs : List Cell} (hj : Jarry jar) (hl : j < st.ls.length) : ∃ r jar', Jarry jar' ∧ Q r ∧ MG.call m f (.cel j :: xs.map .p) (SS st j jar cs) = .ok (.p r) (SS st j jar' cs) := by
  obtain ⟨r, jar', a, b, c⟩ := h _ j jar hj (SS_at hl)
  rw [SS_stp hl] at c
  exact ⟨r, jar', a, b, c⟩
theorem lmF_app {ys : List P} {x : P} (h : ys.length < 16777216) : lmF .append [x] ys = some (ys ++ [x], .non) := by
  have h2 := lim_of (n := ys.length + 1) h
  simp only [lmF, h2, if_true]
def lcomBody : Ss := (.cons (.ife (.cmp .eq (.v 1) (.int 0)) (.cons (.ret (.bi .abs false (.cons (.v 0) .nil))) .nil) .nil) (.cons (.par [0, 1] (.cons (.v 1) (.cons (.op .mod (.bi .int false (.cons (.v 0) .nil)) (.bi .int false (.cons (.v 1) .nil))) .nil))) .nil))
theorem lcom_stop {C : Ctx} {st : Sto} {a : Int} {x : P} {xs : List P} {δ2 : Option W} : forR (.n 2) (fun δ st => lcomBody.ev C δ st) (x :: xs) [some (.p (.int a)), some (.p (.int 0)), δ2] st = .rt (.p (.int a.natAbs)) st := by
  rw [forR]
  simp only [lcomBody, Ss.ev, S.ev, E.ev, Es.ev, It.ev, bind_ok, bind_exc, bind_no, sr_ok, sr_exc, sr_no, Res.two, Res.one, peek_p, keep_p, keeps, tru_b, cx_call, cx_new, cx_glo, cx_sub, cx_dun, cx_inst, cx_fuel, start, List.map_cons, List.map_nil, List.length_cons, List.length_nil, List.reduceReplicate, List.cons_append, List.nil_append, List.getElem?_cons_zero, List.getElem?_cons_succ, List.set_cons_zero, List.set_cons_succ, Nat.reduceAdd, Nat.reduceSub, Nat.reduceLT, Nat.reduceEqDiff, decide_true, decide_false, notOwn, Bool.and_true, Bool.true_and, Bool.and_false, Bool.false_and, Bool.or_true, Bool.true_or, Bool.or_false, Bool.false_or, Bool.not_true, Bool.not_false, Bool.false_eq_true, if_true, if_false, decide_eq_true_eq, omap_some, omap_none, op_add, op_sub, op_addt, cp_eq, cp_ne, cp_lt, cp_le, cp_gt, cp_ge, cp_isn, cp_notn, cp_inn, cp_nin, itemsP, ofO, Tg.put, Tg.puts, putAll, mkL_t, mkL_f, lim_0, lim_1, lim_2, lim_3, lim_4, lim_5, lim_6, lim_7, lim_8, nxP_nx, okP_ok, putS_eq, biW_int, biW_str, biW_tup, biW_lst, biW_bl, biW_non, biW_scr, biW_cel, biW_two, biG, peeks, biP, biL, int_mod, int_fdiv, List.all_cons, List.all_nil, Int.cast_ofNat_Int, Int.reduceEq, Int.reduceLT, Int.reduceLE, Int.reduceAdd, Int.reduceSub, Int.reduceNeg, eqP_int, nrP_nx, nrP_rt, leave_p, leave_nx, cut_self, abs_nat]
theorem lcom_turn {C : Ctx} {st : Sto} {a b : Int} {x : P} {xs : List P} {δ2 : Option W} (h0 : b ≠ 0) : forR (.n 2) (fun δ st => lcomBody.ev C δ st) (x :: xs) [some (.p (.int a)), some (.p (.int b)), δ2] st =
    forR (.n 2) (fun δ st => lcomBody.ev C δ st) xs [some (.p (.int b)), some (.p (.int (a.fmod b))), some (.p x)] st := by
  have hd : decide (b = 0) = false := decide_eq_false h0
  rw [forR]
  simp only [lcomBody, Ss.ev, S.ev, E.ev, Es.ev, It.ev, bind_ok, bind_exc, bind_no, sr_ok, sr_exc, sr_no, Res.two, Res.one, peek_p, keep_p, keeps, tru_b, cx_call, cx_new, cx_glo, cx_sub, cx_dun, cx_inst, cx_fuel, start, List.map_cons, List.map_nil, List.length_cons, List.length_nil, List.reduceReplicate, List.cons_append, List.nil_append, List.getElem?_cons_zero, List.getElem?_cons_succ, List.set_cons_zero, List.set_cons_succ, Nat.reduceAdd, Nat.reduceSub, Nat.reduceLT, Nat.reduceEqDiff, decide_true, decide_false, notOwn, Bool.and_true, Bool.true_and, Bool.and_false, Bool.false_and, Bool.or_true, Bool.true_or, Bool.or_false, Bool.false_or, Bool.not_true, Bool.not_false, Bool.false_eq_true, if_true, if_false, decide_eq_true_eq, omap_some, omap_none, op_add, op_sub, op_addt, cp_eq, cp_ne, cp_lt, cp_le, cp_gt, cp_ge, cp_isn, cp_notn, cp_inn, cp_nin, itemsP, ofO, Tg.put, Tg.puts, putAll, mkL_t, mkL_f, lim_0, lim_1, lim_2, lim_3, lim_4, lim_5, lim_6, lim_7, lim_8, nxP_nx, okP_ok, putS_eq, biW_int, biW_str, biW_tup, biW_lst, biW_bl, biW_non, biW_scr, biW_cel, biW_two, biG, peeks, biP, biL, int_mod, int_fdiv, List.all_cons, List.all_nil, Int.cast_ofNat_Int, Int.reduceEq, Int.reduceLT, Int.reduceLE, Int.reduceAdd, Int.reduceSub, Int.reduceNeg, eqP_int, nrP_nx, nrP_rt, leave_p, leave_nx, cut_self, hd, int_mod h0]
theorem lcom_loop {C : Ctx} {st : Sto} : ∀ (m : Nat) (xs : List P) (a b : Int) (δ2 : Option W), 0 ≤ b → b < 2 ^ m → 2 * m + 1 ≤ xs.length → forR (.n 2) (fun δ st => lcomBody.ev C δ st) xs [some (.p (.int a)), some (.p (.int b)), δ2] st = .rt (.p (.int (Int.gcd a b))) st
  | 0, x :: xs, a, b, δ2, h0, h1, _ => by
    have e : b = 0 := by
      have : (2 : Int) ^ 0 = 1 := rfl
      omega
    subst e
    rw [lcom_stop, Int.gcd_zero_right]
  | m + 1, x :: y :: xs, a, b, δ2, h0, h1, hl => by
    by_cases e : b = 0
    · subst e
      rw [lcom_stop, Int.gcd_zero_right]
    · have hb : 0 < b := by omega
      have m0 := Int.fmod_nonneg_of_pos a hb
      have m1 := Int.fmod_lt_of_pos a hb
      rw [lcom_turn e, ← gcd_step a b]
      by_cases e2 : a.fmod b = 0
      · rw [e2, lcom_stop, Int.gcd_zero_right]
      · have hb2 : 0 < a.fmod b := by omega
        have n0 := Int.fmod_nonneg_of_pos b hb2
        have n1 := Int.fmod_lt_of_pos b hb2
        rw [lcom_turn e2, ← gcd_step b (a.fmod b)]
        refine lcom_loop m xs _ _ _ n0 ?_ (by simp only [List.length_cons] at hl; omega)
        have p2 : (2 : Int) ^ (m + 1) = 2 * 2 ^ m := by rw [Int.pow_succ]; omega
        rcases Int.lt_or_le (2 * a.fmod b) (b + 1) with q | q
        · omega
        · have hq : b.fmod (a.fmod b) = b - a.fmod b * b.fdiv (a.fmod b) := Int.fmod_def _ _
          have q1 : 1 ≤ b.fdiv (a.fmod b) := by
            rcases Int.lt_or_le 0 (b.fdiv (a.fmod b)) with z | z
            · omega
            · have := Int.mul_le_mul_of_nonneg_left z (Int.le_of_lt hb2)
              rw [Int.mul_zero] at this
              omega
          have := Int.mul_le_mul_of_nonneg_left q1 (Int.le_of_lt hb2)
          rw [Int.mul_one] at this
          omega
theorem lcom_ok {m : Nat} (hm : 1 ≤ m) {a b : Int} {st : Sto} (hb : 0 ≤ b) (hb2 : b < 2 ^ 240) : MG.call m f_law_common [.p (.int a), .p (.int b)] st = .ok (.p (.int (Int.gcd a b))) st := by
  obtain ⟨n, rfl, hn⟩ := suc_of hm
  have it1 : (It.rng1 (.int 500)).ev (Cn n) [some (.p (.int a)), some (.p (.int b)), none] st = .ok ((List.range 500).map fun k => P.int (0 + (k : Nat))) st := by
    rw [It.ev, E.ev]
    simp only [bind_ok]
    rfl
  rw [call_eq fd_law_common rfl rfl]
  rw [show d_law_common.body = Ss.cons (.for_ (.n 2) (.rng1 (.int 500)) lcomBody) (.cons (.ret (.int 1)) .nil) from rfl]
  rw [show start d_law_common.ns [W.p (.int a), .p (.int b)] = [some (.p (.int a)), some (.p (.int b)), none] from rfl]
  rw [Ss.ev, S.ev, it1]
  simp only [sr_ok]
  rw [lcom_loop 240 _ a b none hb hb2 (by rw [List.length_map, List.length_range]; decide)]
  simp only [leave_p, cut_self]
theorem llow_ok {m : Nat} (hm : 2 ≤ m) {a : Int} {b : Nat} {st : Sto} (hb : 0 < b) (hb2 : b < 2 ^ 240) : MG.call m f_law_lowest [.p (.int a), .p (.int (b : Nat))] st = .ok (.p (fr (mkRat a b))) st := by
  obtain ⟨n, rfl, hn⟩ := suc_of hm
  rw [call_eq fd_law_lowest rfl rfl]
  have ec := lcom_ok hn (a := a) (b := (b : Nat)) (st := st) (by omega) (by exact_mod_cast hb2)
  have gp : (0 : Int) < (Int.gcd a (b : Int) : Nat) := by
    have : 0 < Int.gcd a (b : Int) := Int.gcd_pos_of_ne_zero_right a (by omega)
    omega
  have gl : (Int.gcd a (b : Int) : Int) ≤ b := Int.gcd_le_right a (by omega)
  have bw : wid (b : Int) = true := wid_bits (n := 240) (by rw [Int.natAbs_natCast]; exact hb2) (by decide)
  have gw : wid (Int.gcd a (b : Int) : Int) = true := wid_le (by omega) bw
  obtain ⟨d1, d2⟩ := div_gcd (a := a) hb
  simp only [d_law_lowest, b_law_lowest, Ss.ev, S.ev, E.ev, Es.ev, It.ev, bind_ok, bind_exc, bind_no, sr_ok, sr_exc, sr_no, Res.two, Res.one, peek_p, keep_p, keeps, tru_b, cx_call, cx_new, cx_glo, cx_sub, cx_dun, cx_inst, cx_fuel, start, List.map_cons, List.map_nil, List.length_cons, List.length_nil, List.reduceReplicate, List.cons_append, List.nil_append, List.getElem?_cons_zero, List.getElem?_cons_succ, List.set_cons_zero, List.set_cons_succ, Nat.reduceAdd, Nat.reduceSub, Nat.reduceLT, Nat.reduceEqDiff, decide_true, decide_false, notOwn, Bool.and_true, Bool.true_and, Bool.and_false, Bool.false_and, Bool.or_true, Bool.true_or, Bool.or_false, Bool.false_or, Bool.not_true, Bool.not_false, Bool.false_eq_true, if_true, if_false, decide_eq_true_eq, omap_some, omap_none, op_add, op_sub, op_addt, cp_eq, cp_ne, cp_lt, cp_le, cp_gt, cp_ge, cp_isn, cp_notn, cp_inn, cp_nin, itemsP, ofO, Tg.put, Tg.puts, putAll, mkL_t, mkL_f, lim_0, lim_1, lim_2, lim_3, lim_4, lim_5, lim_6, lim_7, lim_8, nxP_nx, okP_ok, putS_eq, biW_int, biW_str, biW_tup, biW_lst, biW_bl, biW_non, biW_scr, biW_cel, biW_two, biG, peeks, biP, biL, int_mod, int_fdiv, List.all_cons, List.all_nil, Int.cast_ofNat_Int, Int.reduceEq, Int.reduceLT, Int.reduceLE, Int.reduceAdd, Int.reduceSub, Int.reduceNeg, eqP_int, nrP_nx, nrP_rt, leave_p, leave_nx, cut_self, ec, int_fdiv gp gw, d1, d2]
  rfl
/-- where the laws' sum calls _law_lowest -/
theorem lplus_ok {m : Nat} (hm : 3 ≤ m) {x y : Rat} {k l : Nat} {st : Sto} (h1 : Sz x k) (h2 : Sz y l) (hk : k + l ≤ 240) : MG.call m f_law_plus [.p (fr x), .p (fr y)] st = .ok (.p (fr (x + y))) st := by
  obtain ⟨n, rfl, hn⟩ := suc_of hm
  rw [call_eq fd_law_plus rfl rfl]
  have d := mul_bits h1.den h2.den
  have el := llow_ok hn (a := x.num * y.den + y.num * x.den) (b := x.den * y.den) (st := st) (Nat.mul_pos x.den_pos y.den_pos) (Nat.lt_of_lt_of_le d (Nat.pow_le_pow_right (by decide) hk))
  rw [← Rat.add_def'] at el
  rw [Int.natCast_mul] at el
  simp only [d_law_plus, b_law_plus, Ss.ev, S.ev, E.ev, Es.ev, It.ev, bind_ok, bind_exc, bind_no, sr_ok, sr_exc, sr_no, Res.two, Res.one, peek_p, keep_p, keeps, tru_b, cx_call, cx_new, cx_glo, cx_sub, cx_dun, cx_inst, cx_fuel, start, List.map_cons, List.map_nil, List.length_cons, List.length_nil, List.reduceReplicate, List.cons_append, List.nil_append, List.getElem?_cons_zero, List.getElem?_cons_succ, List.set_cons_zero, List.set_cons_succ, Nat.reduceAdd, Nat.reduceSub, Nat.reduceLT, Nat.reduceEqDiff, decide_true, decide_false, notOwn, Bool.and_true, Bool.true_and, Bool.and_false, Bool.false_and, Bool.or_true, Bool.true_or, Bool.or_false, Bool.false_or, Bool.not_true, Bool.not_false, Bool.false_eq_true, if_true, if_false, decide_eq_true_eq, omap_some, omap_none, op_add, op_sub, op_addt, cp_eq, cp_ne, cp_lt, cp_le, cp_gt, cp_ge, cp_isn, cp_notn, cp_inn, cp_nin, itemsP, ofO, Tg.put, Tg.puts, putAll, mkL_t, mkL_f, lim_0, lim_1, lim_2, lim_3, lim_4, lim_5, lim_6, lim_7, lim_8, nxP_nx, okP_ok, putS_eq, biW_int, biW_str, biW_tup, biW_lst, biW_bl, biW_non, biW_scr, biW_cel, biW_two, biG, peeks, biP, biL, int_mod, int_fdiv, List.all_cons, List.all_nil, Int.cast_ofNat_Int, Int.reduceEq, Int.reduceLT, Int.reduceLE, Int.reduceAdd, Int.reduceSub, Int.reduceNeg, eqP_int, nrP_nx, nrP_rt, leave_p, leave_nx, cut_self, fr_ix0, fr_ix1, int_mulw (h1.wn (by omega)) (h2.wd (by omega)), int_mulw (h2.wn (by omega)) (h1.wd (by omega)), int_mulw (h1.wd (by omega)) (h2.wd (by omega)), el]
def lawB (fr fj : Nat) (m : Int) : Ss := (.cons (.for_ (.n 1) (.rng1 (.bi .max2 false (.cons (.int 2) (.cons (.bi .min2 false (.cons (.bi .len false (.cons (.v 0) .nil)) (.cons (.int m) .nil))) .nil)))) (.cons (.ife (.not (.call fr (.cons (.call fj (.cons (.v 0) (.cons (.v 1) .nil))) .nil))) (.cons (.ret (.bl false)) .nil) .nil) .nil)) (.cons (.ret (.bl true)) .nil))
/-- what is wanted of a law's right: true at every jar -/
def Right (n fr : Nat) : Prop := ∀ (st : Sto) (j : Nat) (jar : List P), Jarry jar → At0 st j jar → ∃ st', MG.call n fr [.cel j] st = .ok (.p (.bl true)) st'
theorem law_loop {n f fr : Nat} {m : Int} {ns : List Int} (m0 : 0 ≤ m) (m4 : m ≤ 8) (hf : MG.fd f = some ⟨1, 2, false, lawB fr f_law_jar m⟩) (hr : Right (n + 1) fr) : ∃ st', MG.call (n + 2) f [.p (scrP ns)] ⟨[], []⟩ = .ok (.p (.bl true)) st' := by
  rw [call_eq hf rfl rfl]
  show ∃ st', leave false 0 ((lawB fr f_law_jar m).ev (Cn (n + 1)) [some (.p (scrP ns)), none] ⟨[], []⟩) = .ok (.p (.bl true)) st'
  have bound : ∃ u : Nat, u ≤ 8 ∧ (E.bi .max2 false (.cons (.int 2) (.cons (.bi .min2 false (.cons (.bi .len false (.cons (.v 0) .nil)) (.cons (.int m) .nil))) .nil))).ev (Cn (n + 1)) [some (.p (scrP ns)), none] ⟨[], []⟩ = .ok (.p (.int (u : Nat))) ⟨[], []⟩ := by
    have : ∃ v : Int, 0 ≤ v ∧ v ≤ 8 ∧ (E.bi .max2 false (.cons (.int 2) (.cons (.bi .min2 false (.cons (.bi .len false (.cons (.v 0) .nil)) (.cons (.int m) .nil))) .nil))).ev (Cn (n + 1)) [some (.p (scrP ns)), none] ⟨[], []⟩ = .ok (.p (.int v)) ⟨[], []⟩ := by
      refine ⟨if (if m < ((ns.map P.int).length : Nat) then m else ((ns.map P.int).length : Nat)) > 2 then (if m < ((ns.map P.int).length : Nat) then m else ((ns.map P.int).length : Nat)) else 2, ?_, ?_, ?_⟩
      · split <;> (try split) <;> omega
      · split <;> (try split) <;> omega
      · simp only [Ss.ev, S.ev, E.ev, Es.ev, It.ev, bind_ok, bind_exc, bind_no, sr_ok, sr_exc, sr_no, Res.two, Res.one, peek_p, keep_p, keeps, tru_b, cx_call, cx_new, cx_glo, cx_sub, cx_dun, cx_inst, cx_fuel, start, List.map_cons, List.map_nil, List.length_cons, List.length_nil, List.reduceReplicate, List.cons_append, List.nil_append, List.getElem?_cons_zero, List.getElem?_cons_succ, List.set_cons_zero, List.set_cons_succ, Nat.reduceAdd, Nat.reduceSub, Nat.reduceLT, Nat.reduceEqDiff, decide_true, decide_false, notOwn, Bool.and_true, Bool.true_and, Bool.and_false, Bool.false_and, Bool.or_true, Bool.true_or, Bool.or_false, Bool.false_or, Bool.not_true, Bool.not_false, Bool.false_eq_true, if_true, if_false, decide_eq_true_eq, omap_some, omap_none, op_add, op_sub, op_addt, cp_eq, cp_ne, cp_lt, cp_le, cp_gt, cp_ge, cp_isn, cp_notn, cp_inn, cp_nin, itemsP, ofO, Tg.put, Tg.puts, putAll, mkL_t, mkL_f, lim_0, lim_1, lim_2, lim_3, lim_4, lim_5, lim_6, lim_7, lim_8, nxP_nx, okP_ok, putS_eq, biW_int, biW_str, biW_tup, biW_lst, biW_bl, biW_non, biW_scr, biW_cel, biW_two, biG, peeks, biP, biL, int_mod, int_fdiv, List.all_cons, List.all_nil, Int.cast_ofNat_Int, Int.reduceEq, Int.reduceLT, Int.reduceLE, Int.reduceAdd, Int.reduceSub, Int.reduceNeg, eqP_int, nrP_nx, nrP_rt, leave_p, leave_nx, cut_self, scrP, lenP]
    obtain ⟨v, v0, v8, e⟩ := this
    refine ⟨v.toNat, by omega, ?_⟩
    rw [e, Int.toNat_of_nonneg v0]
  obtain ⟨u, u8, eb⟩ := bound
  have it1 : (It.rng1 (.bi .max2 false (.cons (.int 2) (.cons (.bi .min2 false (.cons (.bi .len false (.cons (.v 0) .nil)) (.cons (.int m) .nil))) .nil)))).ev (Cn (n + 1)) [some (.p (scrP ns)), none] ⟨[], []⟩ = .ok ((List.range u).map ixs) ⟨[], []⟩ := by
    rw [It.ev, eb]
    simp only [bind_ok, rng_nat u (by omega), ofO]
    rfl
  rw [lawB, Ss.ev, S.ev, it1]
  simp only [sr_ok]
  obtain ⟨δ', st', e, ⟨a, rfl⟩⟩ := forR_pre (e := ixs) (tg := .n 1) (body := fun δ st => (Ss.cons (.ife (.not (.call fr (.cons (.call f_law_jar (.cons (.v 0) (.cons (.v 1) .nil))) .nil))) (.cons (.ret (.bl false)) .nil) .nil) .nil).ev (Cn (n + 1)) δ st) (List.range u)
    (fun done δ st' => ∃ a, δ = [some (.p (scrP ns)), a]) (δ := [some (.p (scrP ns)), none]) (st := ⟨[], []⟩) ⟨none, rfl⟩ (by
    rintro done i rest _ st1 hd ⟨a, rfl⟩
    obtain ⟨hi, _⟩ := range_split hd
    obtain ⟨x, y, ej⟩ := jar_ok (n := n) (st := st1) (ns := ns) (k := (i : Nat)) (by omega) (by omega)
    obtain ⟨st2, er⟩ := hr { st1 with ls := st1.ls ++ [⟨[.int x, .int y, .int 0], false⟩] } st1.ls.length [.int x, .int y, .int 0] ⟨x, y, 0, rfl⟩ (by simp [At0])
    have ej' : MG.call (n + 1) f_law_jar [.p (scrP ns), .p (ixs i)] st1 = _ := ej
    simp only [Ss.ev, S.ev, E.ev, Es.ev, It.ev, bind_ok, bind_exc, bind_no, sr_ok, sr_exc, sr_no, Res.two, Res.one, peek_p, keep_p, keeps, tru_b, cx_call, cx_new, cx_glo, cx_sub, cx_dun, cx_inst, cx_fuel, start, List.map_cons, List.map_nil, List.length_cons, List.length_nil, List.reduceReplicate, List.cons_append, List.nil_append, List.getElem?_cons_zero, List.getElem?_cons_succ, List.set_cons_zero, List.set_cons_succ, Nat.reduceAdd, Nat.reduceSub, Nat.reduceLT, Nat.reduceEqDiff, decide_true, decide_false, notOwn, Bool.and_true, Bool.true_and, Bool.and_false, Bool.false_and, Bool.or_true, Bool.true_or, Bool.or_false, Bool.false_or, Bool.not_true, Bool.not_false, Bool.false_eq_true, if_true, if_false, decide_eq_true_eq, omap_some, omap_none, op_add, op_sub, op_addt, cp_eq, cp_ne, cp_lt, cp_le, cp_gt, cp_ge, cp_isn, cp_notn, cp_inn, cp_nin, itemsP, ofO, Tg.put, Tg.puts, putAll, mkL_t, mkL_f, lim_0, lim_1, lim_2, lim_3, lim_4, lim_5, lim_6, lim_7, lim_8, nxP_nx, okP_ok, putS_eq, biW_int, biW_str, biW_tup, biW_lst, biW_bl, biW_non, biW_scr, biW_cel, biW_two, biG, peeks, biP, biL, int_mod, int_fdiv, List.all_cons, List.all_nil, Int.cast_ofNat_Int, Int.reduceEq, Int.reduceLT, Int.reduceLE, Int.reduceAdd, Int.reduceSub, Int.reduceNeg, eqP_int, nrP_nx, nrP_rt, leave_p, leave_nx, cut_self, ej', er]
    exact ⟨_, rfl⟩)
  rw [e]
  exact ⟨st'.cut 0, by simp only [Ss.ev, S.ev, E.ev, Es.ev, It.ev, bind_ok, bind_exc, bind_no, sr_ok, sr_exc, sr_no, Res.two, Res.one, peek_p, keep_p, keeps, tru_b, cx_call, cx_new, cx_glo, cx_sub, cx_dun, cx_inst, cx_fuel, start, List.map_cons, List.map_nil, List.length_cons, List.length_nil, List.reduceReplicate, List.cons_append, List.nil_append, List.getElem?_cons_zero, List.getElem?_cons_succ, List.set_cons_zero, List.set_cons_succ, Nat.reduceAdd, Nat.reduceSub, Nat.reduceLT, Nat.reduceEqDiff, decide_true, decide_false, notOwn, Bool.and_true, Bool.true_and, Bool.and_false, Bool.false_and, Bool.or_true, Bool.true_or, Bool.or_false, Bool.false_or, Bool.not_true, Bool.not_false, Bool.false_eq_true, if_true, if_false, decide_eq_true_eq, omap_some, omap_none, op_add, op_sub, op_addt, cp_eq, cp_ne, cp_lt, cp_le, cp_gt, cp_ge, cp_isn, cp_notn, cp_inn, cp_nin, itemsP, ofO, Tg.put, Tg.puts, putAll, mkL_t, mkL_f, lim_0, lim_1, lim_2, lim_3, lim_4, lim_5, lim_6, lim_7, lim_8, nxP_nx, okP_ok, putS_eq, biW_int, biW_str, biW_tup, biW_lst, biW_bl, biW_non, biW_scr, biW_cel, biW_two, biG, peeks, biP, biL, int_mod, int_fdiv, List.all_cons, List.all_nil, Int.cast_ofNat_Int, Int.reduceEq, Int.reduceLT, Int.reduceLE, Int.reduceAdd, Int.reduceSub, Int.reduceNeg, eqP_int, nrP_nx, nrP_rt, leave_p, leave_nx, cut_self]⟩
end Z.U

namespace Z.U
open PySem

theorem leaf_nodup {g : Nat} {rs : List Rd} : ∀ (r : Nat) {q : Nd} {w : List Nat}, Node g rs q → w ∈ leaves g rs r q → w.Nodup
  | 0, q, w, _, h => by simp [leaves] at h
  | r + 1, q, w, hq, h => by
    rw [leaves, List.mem_append] at h
    rcases h with h | h
    · obtain ⟨i, hi, hk⟩ := hits_mem.mp h
      obtain ⟨r, p, h1, h2, h3, rfl⟩ := kid_hit hk
      have hf := fresh_of hq h1 h3 hq.ng
      rw [List.nodup_append]
      exact ⟨hq.nd, by simp, fun a ha b hb e => by simp at hb; subst hb; subst e; exact hf ha⟩
    · obtain ⟨q2, h1, h2⟩ := List.mem_flatMap.mp h
      obtain ⟨i, hi, hk⟩ := push_mem.mp h1
      exact leaf_nodup r (hq.kid hk) h2
theorem way_nodup {o g : Nat} {rs : List Rd} (h : o ≠ g) {w : List Nat} (hw : w ∈ waysOf o g rs) : w.Nodup := leaf_nodup _ (node0 h) (sortG_mem.mp hw)
theorem way_len {o g : Nat} {rs : List Rd} (h : o ≠ g) {w : List Nat} (hw : w ∈ waysOf o g rs) : w.length ≤ rs.length := nodup_len _ _ (way_nodup h hw) (way_lt hw)
theorem amQ_sz {l : List Ld} {n : Nat} (h : ∀ q ∈ l, Sz q.2 n) : Sz (amQ l) (l.length * (n + 1) + 1) := by
  have := sz_sum (l := l.map (·.2)) (n := n) (by
    intro x hx
    obtain ⟨q, hq, rfl⟩ := List.mem_map.mp hx
    exact h q hq)
  rw [List.length_map] at this
  exact this
theorem lsz_of {l : List Ld} {n k : Nat} (h : ∀ q ∈ l, Sz q.2 n) (hk : l.length * (n + 1) + 1 ≤ k) (hk2 : k + n ≤ 8900) (hl : l.length ≤ 1000000) : LSz l n k :=
  ⟨h, fun l' s => (amQ_sz fun q hq => h q (s.subset hq)).mono (Nat.le_trans (Nat.succ_le_succ (Nat.mul_le_mul_right _ s.length_le)) hk), hk2, hl⟩
theorem cost_sz {r : Rd} (hr : RdOk r) {x : Rat} {n : Nat} (h : Sz x n) : Sz (costQ r x) (n + 41) := by
  have s1 : Sz (r.base : Rat) 20 := sz_int (by have := hr.b0; have := hr.b1; have : (2 : Nat) ^ 20 = 1048576 := rfl; omega) (by decide)
  have s2 : Sz (r.rise : Rat) 20 := sz_int (by have := hr.r0; have := hr.r1; have : (2 : Nat) ^ 20 = 1048576 := rfl; omega) (by decide)
  exact (s1.add (s2.mul h)).mono (by omega)
theorem wc_sz {c : Nat → Rat} {w : List Nat} {n : Nat} (h : ∀ i ∈ w, Sz (c i) n) : Sz (wcQ c w) (w.length * (n + 1) + 1) := by
  have := sz_sum (l := w.map c) (n := n) (by
    intro x hx
    obtain ⟨q, hq, rfl⟩ := List.mem_map.mp hx
    exact h q hq)
  rw [List.length_map] at this
  exact this
/-- without looking at the numbers -/
theorem fit_of {o g : Nat} {rs : List Rd} {l : List Ld} {n : Nat} (hw : WebOk o g rs) (hl : LdsOk o g rs l n) (hb : l.length * (n + 1) ≤ 480) : Fit o g rs l n 481 522 4185 where
  web := hw
  lds := hl
  lsz := lsz_of hl.sz (by omega) (by
    have : 0 < l.length := List.length_pos_iff.mpr hl.ne
    have : 1 * (n + 1) ≤ l.length * (n + 1) := Nat.mul_le_mul_right _ this
    omega) hl.len
  n2 := by omega
  csz := fun w hwm => by
    have L : LSz l n 481 := lsz_of hl.sz (by omega) (by
      have : 0 < l.length := List.length_pos_iff.mpr hl.ne
      have : 1 * (n + 1) ≤ l.length * (n + 1) := Nat.mul_le_mul_right _ this
      omega) hl.len
    have one : ∀ i ∈ w, Sz (cQ rs l i) 522 := fun i hi => by
      have hlt := way_lt hwm i hi
      rw [cQ_eq (List.getElem?_eq_getElem hlt)]
      exact cost_sz (hw.rd _ (List.getElem_mem hlt)) (L.sub _ List.filter_sublist)
    have len := way_len hw.ne hwm
    have h8 := hw.r8
    refine ⟨one, fun j => (wc_sz fun i hi => one i (List.mem_of_mem_take hi)).mono ?_, by omega, by omega⟩
    have : (w.take j).length ≤ 8 := by rw [List.length_take]; omega
    have := Nat.mul_le_mul_right (522 + 1) this
    omega
  n4 := by omega
theorem gr_ge {l : List Rat} : ∀ (a : Rat), a ≤ l.foldl grQ a ∧ ∀ x ∈ l, x ≤ l.foldl grQ a := by
  induction l with
  | nil => intro a; exact ⟨Rat.le_refl, by simp⟩
  | cons y l ih =>
    intro a
    obtain ⟨h1, h2⟩ := ih (grQ a y)
    have h3 : a ≤ grQ a y ∧ y ≤ grQ a y := by unfold grQ; split <;> grind
    rw [List.foldl_cons]
    refine ⟨Rat.le_trans h3.1 h1, fun x hx => ?_⟩
    rcases List.mem_cons.mp hx with q | q
    · subst q
      exact Rat.le_trans h3.2 h1
    · exact h2 x q
theorem gr_mem {l : List Rat} : ∀ (a : Rat), l.foldl grQ a = a ∨ l.foldl grQ a ∈ l := by
  induction l with
  | nil => intro a; exact .inl rfl
  | cons y l ih =>
    intro a
    rw [List.foldl_cons]
    rcases ih (grQ a y) with h | h
    · rw [h]
      unfold grQ
      split
      · exact .inr (by simp)
      · exact .inl rfl
    · exact .inr (List.mem_cons_of_mem _ h)
theorem le_le {l : List Rat} : ∀ (a : Rat), l.foldl leQ a ≤ a ∧ ∀ x ∈ l, l.foldl leQ a ≤ x := by
  induction l with
  | nil => intro a; exact ⟨Rat.le_refl, by simp⟩
  | cons y l ih =>
    intro a
    obtain ⟨h1, h2⟩ := ih (leQ a y)
    have h3 : leQ a y ≤ a ∧ leQ a y ≤ y := by unfold leQ; split <;> grind
    rw [List.foldl_cons]
    refine ⟨Rat.le_trans h1 h3.1, fun x hx => ?_⟩
    rcases List.mem_cons.mp hx with q | q
    · subst q
      exact Rat.le_trans h1 h3.2
    · exact h2 x q
theorem le_mem {l : List Rat} : ∀ (a : Rat), l.foldl leQ a = a ∨ l.foldl leQ a ∈ l := by
  induction l with
  | nil => intro a; exact .inl rfl
  | cons y l ih =>
    intro a
    rw [List.foldl_cons]
    rcases ih (leQ a y) with h | h
    · rw [h]
      unfold leQ
      split
      · exact .inr (by simp)
      · exact .inl rfl
    · exact .inr (List.mem_cons_of_mem _ h)
theorem maxQ_spec {l : List Rat} (h : l ≠ []) : maxQ l ∈ l ∧ ∀ x ∈ l, x ≤ maxQ l := by
  cases l with
  | nil => exact absurd rfl h
  | cons y l =>
    refine ⟨?_, (gr_ge (l := y :: l) y).2⟩
    rcases gr_mem (l := y :: l) y with q | q
    · rw [maxQ, q]
      simp
    · exact q
theorem minQ_spec {l : List Rat} (h : l ≠ []) : minQ l ∈ l ∧ ∀ x ∈ l, minQ l ≤ x := by
  cases l with
  | nil => exact absurd rfl h
  | cons y l =>
    refine ⟨?_, (le_le (l := y :: l) y).2⟩
    rcases le_mem (l := y :: l) y with q | q
    · rw [minQ, q]
      simp
    · exact q
theorem maxQ_eq {l : List Rat} {v : Rat} (h1 : v ∈ l) (h2 : ∀ x ∈ l, x ≤ v) : maxQ l = v := by
  have ne : l ≠ [] := fun e => by rw [e] at h1; cases h1
  obtain ⟨a, b⟩ := maxQ_spec ne
  exact Rat.le_antisymm (h2 _ a) (b _ h1)
theorem minQ_eq {l : List Rat} {v : Rat} (h1 : v ∈ l) (h2 : ∀ x ∈ l, v ≤ x) : minQ l = v := by
  have ne : l ≠ [] := fun e => by rw [e] at h1; cases h1
  obtain ⟨a, b⟩ := minQ_spec ne
  exact Rat.le_antisymm (b _ h1) (h2 _ a)
/-- a list that is sorted stays -/
theorem wsort_id {l : List (List Nat)} (h : l.Pairwise (fun a b => wle a b = true)) : wsort l = l :=
  List.Perm.eq_of_pairwise (fun a b _ _ => wle_anti a b) (sortG_sorted wle_total wle_trans) h sortG_perm
end Z.U

namespace Z.U
open PySem

theorem rng_pick {i : Nat} : ∀ {n : Nat}, i < n → (List.range n).filter (fun k => decide (i ∈ [k])) = [i]
  | 0, h => absurd h (Nat.not_lt_zero _)
  | n + 1, h => by
    rw [List.range_succ, List.filter_append]
    by_cases e : i = n
    · subst e
      have : (List.range i).filter (fun k => decide (i ∈ [k])) = [] := by
        rw [List.filter_eq_nil_iff]
        intro k hk
        have := List.mem_range.mp hk
        simp
        omega
      rw [this]
      simp
    · rw [rng_pick (by omega)]
      simp [e]
def parR (bs : List (Int × Int)) : List Rd := bs.map fun p => ⟨97, 98, p.1, p.2⟩
theorem par_get {bs : List (Int × Int)} {i : Nat} (h : i < bs.length) : (parR bs)[i]? = some ⟨97, 98, bs[i].1, bs[i].2⟩ := by
  rw [parR, List.getElem?_map, List.getElem?_eq_getElem h]
  rfl
theorem par_ways {bs : List (Int × Int)} : waysOf 97 98 (parR bs) = (List.range bs.length).map fun i => [i] := by
  have hk : ∀ is : List Nat, (∀ i ∈ is, i < bs.length) → hitsL 98 (parR bs) ([], [97]) is = is.map (fun i => [i]) ∧ pushL 98 (parR bs) ([], [97]) is = [] := by
    intro is
    induction is with
    | nil => intro _; exact ⟨rfl, rfl⟩
    | cons i is ih =>
      intro h
      obtain ⟨a, b⟩ := ih fun j hj => h j (List.mem_cons_of_mem _ hj)
      have e : kid 98 (parR bs) ([], [97]) i = .hit [i] := by
        unfold kid
        rw [par_get (h i (by simp))]
        rfl
      constructor
      · have : hitsL 98 (parR bs) ([], [97]) (i :: is) = [i] :: hitsL 98 (parR bs) ([], [97]) is := by simp [hitsL, e, Kid.hits]
        rw [this, a]
        rfl
      · have : pushL 98 (parR bs) ([], [97]) (i :: is) = pushL 98 (parR bs) ([], [97]) is := by simp [pushL, e, Kid.pushes]
        rw [this, b]
  have hl : (parR bs).length = bs.length := by simp [parR]
  rw [waysOf, leavesN_eq (node0 (by decide)), hl]
  obtain ⟨a, b⟩ := hk (List.range bs.length) fun i hi => List.mem_range.mp hi
  rw [a, b, List.flatMap_nil, List.append_nil]
  apply wsort_id
  rw [List.pairwise_map]
  refine List.Pairwise.imp (fun {a b} h => ?_) List.pairwise_lt_range
  rw [wle, if_pos h]
def BsOk (bs : List (Int × Int)) : Prop := ∀ p ∈ bs, 0 ≤ p.1 ∧ p.1 ≤ 1000000 ∧ 0 ≤ p.2 ∧ p.2 ≤ 1000000
theorem par_web {bs : List (Int × Int)} (h0 : bs ≠ []) (h8 : bs.length ≤ 8) (hb : BsOk bs) : WebOk 97 98 (parR bs) where
  lo := rfl
  lg := rfl
  ne := by decide
  r0 := by simpa [parR] using h0
  r8 := by simpa [parR] using h8
  rd := fun r hr => by
    obtain ⟨p, hp, rfl⟩ := List.mem_map.mp hr
    obtain ⟨a, b, c, d⟩ := hb p hp
    exact ⟨(by decide : 97 ≤ 97), (by decide : 97 < 98), (by decide : 98 ≤ 122), a, b, c, d⟩
  on := fun i hi => by
    rw [par_ways]
    have : i < bs.length := by simpa [parR] using hi
    exact ⟨[i], List.mem_map.mpr ⟨i, List.mem_range.mpr this, rfl⟩, by simp⟩
def parL (n : Nat) (x : Nat → Rat) : List Ld := (List.range n).map fun i => ([i], x i)
theorem par_on {n : Nat} {x : Nat → Rat} {i : Nat} (h : i < n) : onQ (parL n x) i = x i := by
  unfold onQ amQ parL
  rw [List.filter_map]
  have : ((fun q : Ld => decide (i ∈ q.1)) ∘ fun i => ([i], x i)) = fun k => decide (i ∈ [k]) := rfl
  rw [this, rng_pick h]
  simp [sumQ, Rat.add_zero]
theorem par_lds {bs : List (Int × Int)} {x : Nat → Rat} {k : Nat} (h0 : bs ≠ []) (h8 : bs.length ≤ 8) (hx : ∀ i, i < bs.length → 0 < x i ∧ Sz (x i) k) (hk : k ≤ 8900) : LdsOk 97 98 (parR bs) (parL bs.length x) k where
  ne := by
    have := List.length_pos_iff.mpr h0
    intro e
    have := congrArg List.length e
    simp [parL] at this
    exact h0 this
  len := by simp [parL]; omega
  way := fun q hq => by
    obtain ⟨i, hi, rfl⟩ := List.mem_map.mp hq
    rw [par_ways]
    exact List.mem_map.mpr ⟨i, hi, rfl⟩
  wl := fun q hq => by
    obtain ⟨i, hi, rfl⟩ := List.mem_map.mp hq
    show 1 ≤ 1000
    decide
  pos := fun q hq => by
    obtain ⟨i, hi, rfl⟩ := List.mem_map.mp hq
    exact (hx i (List.mem_range.mp hi)).1
  sz := fun q hq => by
    obtain ⟨i, hi, rfl⟩ := List.mem_map.mp hq
    exact (hx i (List.mem_range.mp hi)).2
  hn := hk
  asc := fun i a b ha hb => by
    have hl : i + 1 < bs.length := by
      have := (List.getElem?_eq_some_iff.mp hb).1
      simpa [parL] using this
    rw [parL, List.getElem?_map, List.getElem?_range (by omega)] at ha
    rw [parL, List.getElem?_map, List.getElem?_range (by omega)] at hb
    cases ha
    cases hb
    show wle [i + 1] [i] = false
    rw [wle, if_neg (by omega), if_neg (by omega)]
theorem par_fit {bs : List (Int × Int)} {x : Nat → Rat} (h0 : bs ≠ []) (h8 : bs.length ≤ 8) (hb : BsOk bs) (hx : ∀ i, i < bs.length → 0 < x i ∧ Sz (x i) 50) : Fit 97 98 (parR bs) (parL bs.length x) 50 481 522 4185 :=
  fit_of (par_web h0 h8 hb) (par_lds h0 h8 hx (by decide)) (by simp [parL]; omega)
theorem wc_one {c : Nat → Rat} {i : Nat} : wcQ c [i] = c i := by simp [wcQ, sumQ, Rat.add_zero]
theorem par_c {bs : List (Int × Int)} {x : Nat → Rat} {i : Nat} (h : i < bs.length) : cQ (parR bs) (parL bs.length x) i = (bs[i].1 : Rat) + (bs[i].2 : Rat) * x i := by
  rw [cQ_eq (par_get h), par_on h]
  rfl
theorem par_exc {bs : List (Int × Int)} {x : Nat → Rat} : excQ 97 98 (parR bs) (parL bs.length x) = maxQ ((List.range bs.length).map fun i => cQ (parR bs) (parL bs.length x) i) - minQ ((List.range bs.length).map fun i => cQ (parR bs) (parL bs.length x) i) := by
  unfold excQ
  rw [par_ways, parL, List.map_map, List.map_map]
  congr 3
  · funext i
    exact wc_one
  · funext i
    exact wc_one
theorem mul_div {a r : Rat} (h : r ≠ 0) : r * (a / r) = a := by
  rw [Rat.div_def, ← Rat.mul_assoc, Rat.mul_comm r a, Rat.mul_assoc, Rat.mul_inv_cancel r h, Rat.mul_one]
def rowF : Nat → List (Int × Int) → List Rd
  | _, [] => []
  | k, p :: ps => ⟨97 + k, 98 + k, p.1, p.2⟩ :: rowF (k + 1) ps
theorem rowF_app : ∀ (k : Nat) (l : List (Int × Int)) (p : Int × Int), rowF k (l ++ [p]) = rowF k l ++ [⟨97 + (k + l.length), 98 + (k + l.length), p.1, p.2⟩]
  | k, [], p => rfl
  | k, q :: l, p => by
    rw [List.cons_append, rowF, rowF, rowF_app (k + 1) l p, List.cons_append, List.length_cons]
    congr 3
    congr 1 <;> omega
theorem rowF_len : ∀ (k : Nat) (l : List (Int × Int)), (rowF k l).length = l.length
  | k, [] => rfl
  | k, q :: l => by rw [rowF, List.length_cons, List.length_cons, rowF_len]
theorem rowF_get : ∀ (k : Nat) (l : List (Int × Int)) (i : Nat) (h : i < l.length), (rowF k l)[i]? = some ⟨97 + (k + i), 98 + (k + i), l[i].1, l[i].2⟩
  | k, q :: l, 0, h => rfl
  | k, q :: l, i + 1, h => by
    rw [rowF, List.getElem?_cons_succ, rowF_get (k + 1) l i (by simpa using h)]
    simp only [List.getElem_cons_succ]
    congr 2 <;> omega
theorem row_ways : ∀ {bs : List (Int × Int)}, bs ≠ [] → bs.length ≤ 8 → waysOf 97 (97 + bs.length) (rowF 0 bs) = [List.range bs.length]
  | [], h, _ => absurd rfl h
  | [_], _, _ => by kernel_rfl
  | [_, _], _, _ => by kernel_rfl
  | [_, _, _], _, _ => by kernel_rfl
  | [_, _, _, _], _, _ => by kernel_rfl
  | [_, _, _, _, _], _, _ => by kernel_rfl
  | [_, _, _, _, _, _], _, _ => by kernel_rfl
  | [_, _, _, _, _, _, _], _, _ => by kernel_rfl
  | [_, _, _, _, _, _, _, _], _, _ => by kernel_rfl
  | _ :: _ :: _ :: _ :: _ :: _ :: _ :: _ :: _ :: _, _, h => by simp at h
theorem row_web {bs : List (Int × Int)} (h0 : bs ≠ []) (h8 : bs.length ≤ 8) (hb : BsOk bs) : WebOk 97 (97 + bs.length) (rowF 0 bs) where
  lo := rfl
  lg := by
    simp only [isLet, Bool.and_eq_true, decide_eq_true_eq]
    omega
  ne := by have := List.length_pos_iff.mpr h0; omega
  r0 := by
    intro e
    have := congrArg List.length e
    rw [rowF_len] at this
    simp at this
    exact h0 this
  r8 := by rw [rowF_len]; exact h8
  rd := fun r hr => by
    obtain ⟨i, hi, e⟩ := List.mem_iff_getElem.mp hr
    rw [rowF_len] at hi
    have e2 := rowF_get 0 bs i hi
    rw [List.getElem?_eq_getElem (by rw [rowF_len]; exact hi), e] at e2
    cases e2
    obtain ⟨a, b, c, d⟩ := hb bs[i] (List.getElem_mem hi)
    exact ⟨by show 97 ≤ 97 + (0 + i); omega, by show 97 + (0 + i) < 98 + (0 + i); omega, by show 98 + (0 + i) ≤ 122; omega, a, b, c, d⟩
  on := fun i hi => by
    rw [rowF_len] at hi
    rw [row_ways h0 h8]
    exact ⟨_, by simp, List.mem_range.mpr hi⟩
theorem row_fit {bs : List (Int × Int)} {x : Rat} (h0 : bs ≠ []) (h8 : bs.length ≤ 8) (hb : BsOk bs) (hx : 0 < x) (hs : Sz x 50) : Fit 97 (97 + bs.length) (rowF 0 bs) [(List.range bs.length, x)] 50 481 522 4185 :=
  fit_of (row_web h0 h8 hb) ⟨by simp, by simp, by
    intro q hq
    simp at hq
    subst hq
    rw [row_ways h0 h8]
    simp, by
    intro q hq
    simp at hq
    subst hq
    simp
    omega, by
    intro q hq
    simp at hq
    subst hq
    exact hx, by
    intro q hq
    simp at hq
    subst hq
    exact hs, by decide, by
    intro i a b _ hb2
    simp at hb2⟩ (by simp)
theorem row_c {bs : List (Int × Int)} {x : Rat} {i : Nat} (h : i < bs.length) : cQ (rowF 0 bs) [(List.range bs.length, x)] i = (bs[i].1 : Rat) + (bs[i].2 : Rat) * x := by
  rw [cQ_eq (rowF_get 0 bs i h)]
  have : onQ [(List.range bs.length, x)] i = x := by
    unfold onQ amQ
    rw [List.filter_cons, if_pos (by simpa using h)]
    simp [sumQ, Rat.add_zero]
  rw [this]
  rfl
theorem row_wc {bs : List (Int × Int)} {x : Rat} : wcQ (cQ (rowF 0 bs) [(List.range bs.length, x)]) (List.range bs.length) = sumQ (bs.map fun p => (p.1 : Rat) + (p.2 : Rat) * x) := by
  unfold wcQ
  congr 1
  apply List.ext_getElem
  · simp
  · intro i h1 h2
    have hi : i < bs.length := by simpa using h1
    rw [List.getElem_map, List.getElem_map, List.getElem_range, row_c hi]
theorem row_exc {bs : List (Int × Int)} {x : Rat} (h0 : bs ≠ []) (h8 : bs.length ≤ 8) : excQ 97 (97 + bs.length) (rowF 0 bs) [(List.range bs.length, x)] = 0 := by
  unfold excQ
  rw [row_ways h0 h8]
  show maxQ [_] - minQ [_] = 0
  rw [maxQ_eq (List.mem_singleton.mpr rfl) (fun x hx => by rw [List.mem_singleton.mp hx]; exact Rat.le_refl), minQ_eq (List.mem_singleton.mpr rfl) (fun x hx => by rw [List.mem_singleton.mp hx]; exact Rat.le_refl)]
  exact Rat.sub_self
end Z.U

namespace Z.U
open PySem

def crossR (b : Int) : List Rd := [⟨97, 98, 0, 10 * b⟩, ⟨97, 99, 50 * b, b⟩, ⟨98, 99, 10 * b, b⟩, ⟨98, 100, 50 * b, b⟩, ⟨99, 100, 0, 10 * b⟩]
theorem cross_ways {b : Int} : waysOf 97 100 (crossR b) = [[0, 2, 4], [0, 3], [1, 2, 3], [1, 4]] := by kernel_rfl
theorem web_on {o g : Nat} {rs : List Rd} {ws : List (List Nat)} (e : waysOf o g rs = ws) (h : ∀ i, i < rs.length → (ws.any fun w => decide (i ∈ w)) = true) : ∀ i, i < rs.length → ∃ w ∈ waysOf o g rs, i ∈ w := fun i hi => by
  obtain ⟨w, hw, h2⟩ := List.any_eq_true.mp (h i hi)
  exact ⟨w, e ▸ hw, by simpa using h2⟩
theorem cross_web {b : Int} (h1 : 1 ≤ b) (h2 : b ≤ 1000) : WebOk 97 100 (crossR b) where
  lo := rfl
  lg := rfl
  ne := by decide
  r0 := by simp [crossR]
  r8 := by simp [crossR]
  rd := fun r hr => by
    simp only [crossR, List.mem_cons, List.not_mem_nil, or_false] at hr
    rcases hr with rfl | rfl | rfl | rfl | rfl <;> constructor <;> simp <;> omega
  on := web_on cross_ways (by
    have : (crossR b).length = 5 := rfl
    rw [this]
    decide)
def shutR (b : Int) : List Rd := [⟨97, 98, 0, 10 * b⟩, ⟨97, 99, 50 * b, b⟩, ⟨98, 100, 50 * b, b⟩, ⟨99, 100, 0, 10 * b⟩]
theorem shut_ways {b : Int} : waysOf 97 100 (shutR b) = [[0, 2], [1, 3]] := by kernel_rfl
theorem shut_web {b : Int} (h1 : 1 ≤ b) (h2 : b ≤ 1000) : WebOk 97 100 (shutR b) where
  lo := rfl
  lg := rfl
  ne := by decide
  r0 := by simp [shutR]
  r8 := by simp [shutR]
  rd := fun r hr => by
    simp only [shutR, List.mem_cons, List.not_mem_nil, or_false] at hr
    rcases hr with rfl | rfl | rfl | rfl <;> constructor <;> simp <;> omega
  on := web_on shut_ways (by
    have : (shutR b).length = 4 := rfl
    rw [this]
    decide)
theorem shut_kept : keptW [[0, 2, 4], [0, 3], [1, 2, 3], [1, 4]] [2] = [[0, 3], [1, 4]] := by decide
theorem shut_left {b : Int} : leftR 97 100 (crossR b) [2] = shutR b := by
  unfold leftR
  rw [cross_ways, shut_kept]
  rfl
/-- fixed loads of fixed ways -/
theorem lds_fix {o g : Nat} {rs : List Rd} {ws : List (List Nat)} {l : List Ld} (e : waysOf o g rs = ws) (h : l ≠ []) (h2 : (l.all fun q => decide (q.1 ∈ ws) && decide (0 < q.2) && decide (q.2.num.natAbs < 2 ^ 10) && decide (q.2.den < 2 ^ 10) && decide (q.1.length ≤ 8)) = true) (hl : l.length ≤ 40) (ha : ∀ i a b, l[i]? = some a → l[i + 1]? = some b → wle b.1 a.1 = false) : LdsOk o g rs l 10 := by
  have q := fun x hx => List.all_eq_true.mp h2 x hx
  simp only [Bool.and_eq_true, decide_eq_true_eq] at q
  exact ⟨h, by omega, fun x hx => e ▸ (q x hx).1.1.1.1, fun x hx => by have := (q x hx).2; omega, fun x hx => (q x hx).1.1.1.2, fun x hx => ⟨(q x hx).1.1.2, (q x hx).1.2⟩, by decide, ha⟩
theorem asc_of {l : List Ld} (h : l.Pairwise fun a b => wle b.1 a.1 = false) : ∀ i a b, l[i]? = some a → l[i + 1]? = some b → wle b.1 a.1 = false := fun i a b ha hb => by
  obtain ⟨h1, rfl⟩ := List.getElem?_eq_some_iff.mp ha
  obtain ⟨h2, rfl⟩ := List.getElem?_eq_some_iff.mp hb
  exact List.pairwise_iff_getElem.mp h i (i + 1) h1 h2 (by omega)
def evenL : List Ld := [([0, 2, 4], 2), ([0, 3], 2), ([1, 4], 2)]
def twoL : List Ld := [([0, 3], 3), ([1, 4], 3)]
def thrL : List Ld := [([0, 2], 3), ([1, 3], 3)]
def fouL : List Ld := [([0, 2], 4), ([1, 3], 2)]
theorem even_fit {b : Int} (h1 : 1 ≤ b) (h2 : b ≤ 1000) : Fit 97 100 (crossR b) evenL 10 481 522 4185 :=
  fit_of (cross_web h1 h2) (lds_fix cross_ways (by simp [evenL]) (by decide +kernel) (by decide) (asc_of (by decide +kernel))) (by decide)
theorem two_fit {b : Int} (h1 : 1 ≤ b) (h2 : b ≤ 1000) : Fit 97 100 (crossR b) twoL 10 481 522 4185 :=
  fit_of (cross_web h1 h2) (lds_fix cross_ways (by simp [twoL]) (by decide +kernel) (by decide) (asc_of (by decide +kernel))) (by decide)
theorem thr_fit {b : Int} (h1 : 1 ≤ b) (h2 : b ≤ 1000) : Fit 97 100 (shutR b) thrL 10 481 522 4185 :=
  fit_of (shut_web h1 h2) (lds_fix shut_ways (by simp [thrL]) (by decide +kernel) (by decide) (asc_of (by decide +kernel))) (by decide)
theorem fou_fit {b : Int} (h1 : 1 ≤ b) (h2 : b ≤ 1000) : Fit 97 100 (shutR b) fouL 10 481 522 4185 :=
  fit_of (shut_web h1 h2) (lds_fix shut_ways (by simp [fouL]) (by decide +kernel) (by decide) (asc_of (by decide +kernel))) (by decide)
theorem on_val {l : List Ld} {i : Nat} {v : Rat} (h : onQ l i = v) {rs : List Rd} {r : Rd} (hr : rs[i]? = some r) : cQ rs l i = (r.base : Rat) + (r.rise : Rat) * v := by
  rw [cQ_eq hr, h]
  rfl
theorem cast_mul {k b : Int} : ((k * b : Int) : Rat) = (k : Rat) * (b : Rat) := by push_cast; rfl
theorem even_c {b : Int} : cQ (crossR b) evenL 0 = 40 * b ∧ cQ (crossR b) evenL 1 = 52 * b ∧ cQ (crossR b) evenL 2 = 12 * b ∧ cQ (crossR b) evenL 3 = 52 * b ∧ cQ (crossR b) evenL 4 = 40 * b := by
  refine ⟨?_, ?_, ?_, ?_, ?_⟩
  · rw [on_val (v := 4) (by decide +kernel) (rs := crossR b) rfl]; push_cast; grind
  · rw [on_val (v := 2) (by decide +kernel) (rs := crossR b) rfl]; push_cast; grind
  · rw [on_val (v := 2) (by decide +kernel) (rs := crossR b) rfl]; push_cast; grind
  · rw [on_val (v := 2) (by decide +kernel) (rs := crossR b) rfl]; push_cast; grind
  · rw [on_val (v := 4) (by decide +kernel) (rs := crossR b) rfl]; push_cast; grind
theorem two_c {b : Int} : cQ (crossR b) twoL 0 = 30 * b ∧ cQ (crossR b) twoL 1 = 53 * b ∧ cQ (crossR b) twoL 2 = 10 * b ∧ cQ (crossR b) twoL 3 = 53 * b ∧ cQ (crossR b) twoL 4 = 30 * b := by
  refine ⟨?_, ?_, ?_, ?_, ?_⟩
  · rw [on_val (v := 3) (by decide +kernel) (rs := crossR b) rfl]; push_cast; grind
  · rw [on_val (v := 3) (by decide +kernel) (rs := crossR b) rfl]; push_cast; grind
  · rw [on_val (v := 0) (by decide +kernel) (rs := crossR b) rfl]; push_cast; grind
  · rw [on_val (v := 3) (by decide +kernel) (rs := crossR b) rfl]; push_cast; grind
  · rw [on_val (v := 3) (by decide +kernel) (rs := crossR b) rfl]; push_cast; grind
theorem thr_c {b : Int} : cQ (shutR b) thrL 0 = 30 * b ∧ cQ (shutR b) thrL 1 = 53 * b ∧ cQ (shutR b) thrL 2 = 53 * b ∧ cQ (shutR b) thrL 3 = 30 * b := by
  refine ⟨?_, ?_, ?_, ?_⟩
  · rw [on_val (v := 3) (by decide +kernel) (rs := shutR b) rfl]; push_cast; grind
  · rw [on_val (v := 3) (by decide +kernel) (rs := shutR b) rfl]; push_cast; grind
  · rw [on_val (v := 3) (by decide +kernel) (rs := shutR b) rfl]; push_cast; grind
  · rw [on_val (v := 3) (by decide +kernel) (rs := shutR b) rfl]; push_cast; grind
theorem fou_c {b : Int} : cQ (shutR b) fouL 0 = 40 * b ∧ cQ (shutR b) fouL 1 = 52 * b ∧ cQ (shutR b) fouL 2 = 54 * b ∧ cQ (shutR b) fouL 3 = 20 * b := by
  refine ⟨?_, ?_, ?_, ?_⟩
  · rw [on_val (v := 4) (by decide +kernel) (rs := shutR b) rfl]; push_cast; grind
  · rw [on_val (v := 2) (by decide +kernel) (rs := shutR b) rfl]; push_cast; grind
  · rw [on_val (v := 4) (by decide +kernel) (rs := shutR b) rfl]; push_cast; grind
  · rw [on_val (v := 2) (by decide +kernel) (rs := shutR b) rfl]; push_cast; grind
theorem wc2 {c : Nat → Rat} {i j : Nat} : wcQ c [i, j] = c i + c j := by simp [wcQ, sumQ, Rat.add_zero]
theorem wc3 {c : Nat → Rat} {i j k : Nat} : wcQ c [i, j, k] = c i + (c j + c k) := by simp [wcQ, sumQ, Rat.add_zero]
theorem pos_of {b : Int} (h1 : 1 ≤ b) : (0 : Rat) < (b : Rat) := by exact_mod_cast (by omega : (0 : Int) < b)
theorem even_exc {b : Int} (h1 : 1 ≤ b) : excQ 97 100 (crossR b) evenL = 0 ∧ wcQ (cQ (crossR b) evenL) [1, 2, 3] = 116 * b := by
  obtain ⟨c0, c1, c2, c3, c4⟩ := even_c (b := b)
  have hb := pos_of h1
  constructor
  · unfold excQ
    rw [cross_ways]
    simp only [evenL, List.map_cons, List.map_nil, wc2, wc3] at c0 c1 c2 c3 c4 ⊢
    rw [c0, c1, c2, c3, c4]
    rw [maxQ_eq (v := 92 * b) (by simp; grind) (by simp; grind), minQ_eq (v := 92 * b) (by simp; grind) (by simp; grind)]
    grind
  · rw [wc3, c1, c2, c3]
    grind
theorem two_exc {b : Int} (h1 : 1 ≤ b) : excQ 97 100 (crossR b) twoL = 13 * b ∧ wcQ (cQ (crossR b) twoL) [0, 2, 4] = 70 * b := by
  obtain ⟨c0, c1, c2, c3, c4⟩ := two_c (b := b)
  have hb := pos_of h1
  constructor
  · unfold excQ
    rw [cross_ways]
    simp only [twoL, List.map_cons, List.map_nil, wc2, wc3] at c0 c1 c2 c3 c4 ⊢
    rw [c0, c1, c2, c3, c4]
    rw [maxQ_eq (v := 83 * b) (by simp; grind) (by simp; grind), minQ_eq (v := 70 * b) (by simp; grind) (by simp; grind)]
    grind
  · rw [wc3, c0, c2, c4]
    grind
theorem thr_exc {b : Int} (h1 : 1 ≤ b) : excQ 97 100 (shutR b) thrL = 0 := by
  obtain ⟨c0, c1, c2, c3⟩ := thr_c (b := b)
  have hb := pos_of h1
  unfold excQ
  rw [shut_ways]
  simp only [thrL, List.map_cons, List.map_nil, wc2, wc3] at c0 c1 c2 c3 ⊢
  rw [c0, c1, c2, c3]
  rw [maxQ_eq (v := 83 * b) (by simp; grind) (by simp; grind), minQ_eq (v := 83 * b) (by simp; grind) (by simp; grind)]
  grind
theorem fou_exc {b : Int} (h1 : 1 ≤ b) : excQ 97 100 (shutR b) fouL = 22 * b := by
  obtain ⟨c0, c1, c2, c3⟩ := fou_c (b := b)
  have hb := pos_of h1
  unfold excQ
  rw [shut_ways]
  simp only [fouL, List.map_cons, List.map_nil, wc2, wc3] at c0 c1 c2 c3 ⊢
  rw [c0, c1, c2, c3]
  rw [maxQ_eq (v := 94 * b) (by simp; grind) (by simp; grind), minQ_eq (v := 72 * b) (by simp; grind) (by simp; grind)]
  grind
end Z.U

namespace Z.U
open PySem

theorem app_ss {C : Ctx} {δ : Env} {st : Sto} {j i v : Nat} {jar jar' xs : List P} {cs cs' : List Cell} {e : E} {y : P} (hv : δ[v]? = some (some (.cel (st.ls.length + i)))) (hi : i < cs.length) (he : e.ev C δ (SS st j jar cs) = .ok (.p y) (SS st j jar' cs')) (hc : cs'[i]? = some ⟨xs, false⟩) (hl : xs.length < 16777216) :
    (S.ex (.lm .append (.v v) (.cons e .nil))).ev C δ (SS st j jar cs) = .nx δ (SS st j jar' (cs'.set i ⟨xs ++ [y], false⟩)) := by
  have w := SS_wrt (st := st) (j := j) (i := i) (jar := jar') (cs := cs') (f := lmF .append [y]) hc (lmF_app hl)
  have l := SS_lt (st := st) (j := j) (i := i) (jar := jar) hi
  rw [S.ev, E.ev, E.ev, hv]
  simp only [bind_ok, l, if_true]
  rw [Es.ev, he]
  simp only [Es.ev, bind_ok, keeps, keep_p, w, sr_ok]
theorem tup_ss {C : Ctx} {δ : Env} {st : Sto} {j i v : Nat} {jar xs : List P} {cs : List Cell} {b c : Bool} (hv : δ[v]? = some (some (.cel (st.ls.length + i)))) (hc : cs[i]? = some ⟨xs, b⟩) :
    (E.bi .tuple c (.cons (.v v) .nil)).ev C δ (SS st j jar cs) = .ok (.p (.tup xs)) (SS st j jar cs) := by
  have p := SS_peek (st := st) (j := j) (jar := jar) hc
  rw [E.ev, Es.ev, E.ev, hv]
  simp only [Ss.ev, S.ev, E.ev, Es.ev, It.ev, bind_ok, bind_exc, bind_no, sr_ok, sr_exc, sr_no, Res.two, Res.one, peek_p, keep_p, keeps, tru_b, cx_call, cx_new, cx_glo, cx_sub, cx_dun, cx_inst, cx_fuel, start, List.map_cons, List.map_nil, List.length_cons, List.length_nil, List.reduceReplicate, List.cons_append, List.nil_append, List.getElem?_cons_zero, List.getElem?_cons_succ, List.set_cons_zero, List.set_cons_succ, Nat.reduceAdd, Nat.reduceSub, Nat.reduceLT, Nat.reduceEqDiff, decide_true, decide_false, notOwn, Bool.and_true, Bool.true_and, Bool.and_false, Bool.false_and, Bool.or_true, Bool.true_or, Bool.or_false, Bool.false_or, Bool.not_true, Bool.not_false, Bool.false_eq_true, if_true, if_false, decide_eq_true_eq, omap_some, omap_none, op_add, op_sub, op_addt, cp_eq, cp_ne, cp_lt, cp_le, cp_gt, cp_ge, cp_isn, cp_notn, cp_inn, cp_nin, itemsP, ofO, Tg.put, Tg.puts, putAll, mkL_t, mkL_f, lim_0, lim_1, lim_2, lim_3, lim_4, lim_5, lim_6, lim_7, lim_8, nxP_nx, okP_ok, putS_eq, biW_int, biW_str, biW_tup, biW_lst, biW_bl, biW_non, biW_scr, biW_cel, biW_two, biG, peeks, biP, biL, int_mod, int_fdiv, List.all_cons, List.all_nil, Int.cast_ofNat_Int, Int.reduceEq, Int.reduceLT, Int.reduceLE, Int.reduceAdd, Int.reduceSub, Int.reduceNeg, eqP_int, nrP_nx, nrP_rt, leave_p, leave_nx, cut_self, p]
theorem llow_ok' {m : Nat} (hm : 2 ≤ m) {a b : Int} {st : Sto} (hb : 0 < b) (hb2 : b < 2 ^ 240) : MG.call m f_law_lowest [.p (.int a), .p (.int b)] st = .ok (.p (fr (mkRat a b.toNat))) st := by
  have e := llow_ok hm (a := a) (b := b.toNat) (st := st) (by omega) (by
    have : ((2 : Nat) ^ 240 : Nat) = ((2 ^ 240 : Int)).toNat := by decide +kernel
    omega)
  rwa [Int.toNat_of_nonneg (by omega)] at e
theorem s_a : ("a" : Str) = ⟨#[97]⟩ := by decide +kernel
theorem s_b : ("b" : Str) = ⟨#[98]⟩ := by decide +kernel
theorem s_c : ("c" : Str) = ⟨#[99]⟩ := by decide +kernel
theorem s_d : ("d" : Str) = ⟨#[100]⟩ := by decide +kernel
theorem cut_1 {α : Type} {x : α} {t : List α} : cutG (x :: t) (some 1) none = t := by
  unfold cutG HT.sIx
  simp
theorem mk_one {x : Rat} : mkRat (x.num + (x.den : Nat)) x.den = x + 1 := by
  rw [Rat.add_def']
  show mkRat (x.num + (x.den : Nat)) x.den = mkRat (x.num * ((1 : Rat).den : Nat) + (1 : Rat).num * x.den) (x.den * (1 : Rat).den)
  have h1 : (1 : Rat).den = 1 := rfl
  have h2 : (1 : Rat).num = 1 := rfl
  rw [h1, h2]
  congr 1
  · omega
  · omega
end Z.U

namespace Z.U
open PySem

/-- loads by which roads beside one another cost L -/
def xF (L : Int) (bs : List (Int × Int)) (i : Nat) : Rat := mkRat (L - (bs.getD i (0, 1)).1) (bs.getD i (0, 1)).2.toNat
theorem xF_app {L : Int} {bs : List (Int × Int)} {p : Int × Int} : parL (bs ++ [p]).length (xF L (bs ++ [p])) = parL bs.length (xF L bs) ++ [([bs.length], mkRat (L - p.1) p.2.toNat)] := by
  unfold parL
  rw [List.length_append, List.length_singleton, List.range_succ, List.map_append]
  congr 1
  · apply List.map_congr_left
    intro i hi
    have := List.mem_range.mp hi
    simp only [xF, List.getD_eq_getElem?_getD, List.getElem?_append_left this]
  · simp [xF, List.getD_eq_getElem?_getD]
def besB : Ss := (.cons (.par [10, 11] (.cons (.call f_law_dip (.cons (.v 0) (.cons (.int 10) .nil))) (.cons (.op .add (.int 1) (.call f_law_dip (.cons (.v 0) (.cons (.int 9) .nil)))) .nil))) (.cons (.ex (.lm .append (.v 6) (.cons (.tup (.cons (.str "a") (.cons (.str "b") (.cons (.v 10) (.cons (.v 11) .nil))))) .nil))) (.cons (.ex (.lm .append (.v 7) (.cons (.op .add (.tup (.cons (.tup (.cons (.v 1) .nil)) .nil)) (.call f_law_lowest (.cons (.op .sub (.v 5) (.v 10)) (.cons (.v 11) .nil)))) .nil))) .nil)))
def BsS (bs : List (Int × Int)) : Prop := ∀ p ∈ bs, 0 ≤ p.1 ∧ p.1 ≤ 9 ∧ 1 ≤ p.2 ∧ p.2 ≤ 9
theorem bes_for {n : Nat} (hn : 6 ≤ n) {st : Sto} {j : Nat} {jar : List P} (hj : Jarry jar) (hl : j < st.ls.length) {many L : Nat} (hm : many ≤ 8) :
    ∃ (bs : List (Int × Int)) (jar' : List P) (a b c : Option W), bs.length = many ∧ BsS bs ∧ Jarry jar' ∧
    forR (.n 1) (fun δ st => besB.ev (Cn n) δ st) ((List.range many).map ixs) [some (.cel j), none, none, none, some (.p (.int (many : Nat))), some (.p (.int (L : Nat))), some (.cel (st.ls.length + 0)), some (.cel (st.ls.length + 1)), none, none, none, none] (SS st j jar [⟨[], false⟩, ⟨[], false⟩]) =
      .nx [some (.cel j), a, none, none, some (.p (.int (many : Nat))), some (.p (.int (L : Nat))), some (.cel (st.ls.length + 0)), some (.cel (st.ls.length + 1)), none, none, b, c] (SS st j jar' [⟨(parR bs).map rdP, false⟩, ⟨(parL bs.length (xF L bs)).map ldP, false⟩]) := by
  obtain ⟨δ', st', e, bs, jar', a, b, c, h1, h2, h3, rfl, rfl⟩ := forR_pre (e := ixs) (tg := .n 1) (body := fun δ st => besB.ev (Cn n) δ st) (List.range many)
    (fun done δ st' => ∃ (bs : List (Int × Int)) (jar' : List P) (a b c : Option W), bs.length = done.length ∧ BsS bs ∧ Jarry jar' ∧ δ = [some (.cel j), a, none, none, some (.p (.int (many : Nat))), some (.p (.int (L : Nat))), some (.cel (st.ls.length + 0)), some (.cel (st.ls.length + 1)), none, none, b, c] ∧ SS st j jar' [⟨(parR bs).map rdP, false⟩, ⟨(parL bs.length (xF L bs)).map ldP, false⟩] = st')
    (δ := [some (.cel j), none, none, none, some (.p (.int (many : Nat))), some (.p (.int (L : Nat))), some (.cel (st.ls.length + 0)), some (.cel (st.ls.length + 1)), none, none, none, none]) (st := SS st j jar [⟨[], false⟩, ⟨[], false⟩]) ⟨[], jar, none, none, none, rfl, (fun p hp => by cases hp), hj, rfl, rfl⟩ (by
    rintro done i rest _ _ hd ⟨bs, jar1, a, b, c, h1, h2, h3, rfl, rfl⟩
    obtain ⟨hi, hdl⟩ := range_split hd
    obtain ⟨_, jar2, hj2, ⟨d1, d10, d11, rfl⟩, e1⟩ := (dip_ok (m := n) (by omega) (wide := 10) (by decide) (by decide)).ss (st := st) (j := j) (cs := [⟨(parR bs).map rdP, false⟩, ⟨(parL bs.length (xF L bs)).map ldP, false⟩]) h3 hl
    obtain ⟨_, jar3, hj3, ⟨d2, d20, d21, rfl⟩, e2⟩ := (dip_ok (m := n) (by omega) (wide := 9) (by decide) (by decide)).ss (st := st) (j := j) (cs := [⟨(parR bs).map rdP, false⟩, ⟨(parL bs.length (xF L bs)).map ldP, false⟩]) hj2 hl
    have e1 : MG.call n f_law_dip [.cel j, .p (.int 10)] _ = _ := e1
    have e2 : MG.call n f_law_dip [.cel j, .p (.int 9)] _ = _ := e2
    have e3 := llow_ok' (m := n) (by omega) (a := (L : Int) - d1) (b := 1 + d2) (st := SS st j jar3 [⟨(parR bs).map rdP ++ [rdP ⟨97, 98, d1, 1 + d2⟩], false⟩, ⟨(parL bs.length (xF L bs)).map ldP, false⟩]) (by omega) (by omega)
    have s1 : S.ev (Cn n) (.par [10, 11] (.cons (.call f_law_dip (.cons (.v 0) (.cons (.int 10) .nil))) (.cons (.op .add (.int 1) (.call f_law_dip (.cons (.v 0) (.cons (.int 9) .nil)))) .nil))) [some (.cel j), some (.p (ixs i)), none, none, some (.p (.int (many : Nat))), some (.p (.int (L : Nat))), some (.cel (st.ls.length + 0)), some (.cel (st.ls.length + 1)), none, none, b, c] (SS st j jar1 [⟨(parR bs).map rdP, false⟩, ⟨(parL bs.length (xF L bs)).map ldP, false⟩]) =
        .nx [some (.cel j), some (.p (ixs i)), none, none, some (.p (.int (many : Nat))), some (.p (.int (L : Nat))), some (.cel (st.ls.length + 0)), some (.cel (st.ls.length + 1)), none, none, some (.p (.int d1)), some (.p (.int (1 + d2)))] (SS st j jar3 [⟨(parR bs).map rdP, false⟩, ⟨(parL bs.length (xF L bs)).map ldP, false⟩]) := by
      simp only [Ss.ev, S.ev, E.ev, Es.ev, It.ev, bind_ok, bind_exc, bind_no, sr_ok, sr_exc, sr_no, Res.two, Res.one, peek_p, keep_p, keeps, tru_b, cx_call, cx_new, cx_glo, cx_sub, cx_dun, cx_inst, cx_fuel, start, List.map_cons, List.map_nil, List.length_cons, List.length_nil, List.reduceReplicate, List.cons_append, List.nil_append, List.getElem?_cons_zero, List.getElem?_cons_succ, List.set_cons_zero, List.set_cons_succ, Nat.reduceAdd, Nat.reduceSub, Nat.reduceLT, Nat.reduceEqDiff, decide_true, decide_false, notOwn, Bool.and_true, Bool.true_and, Bool.and_false, Bool.false_and, Bool.or_true, Bool.true_or, Bool.or_false, Bool.false_or, Bool.not_true, Bool.not_false, Bool.false_eq_true, if_true, if_false, decide_eq_true_eq, omap_some, omap_none, op_add, op_sub, op_addt, cp_eq, cp_ne, cp_lt, cp_le, cp_gt, cp_ge, cp_isn, cp_notn, cp_inn, cp_nin, itemsP, ofO, Tg.put, Tg.puts, putAll, mkL_t, mkL_f, lim_0, lim_1, lim_2, lim_3, lim_4, lim_5, lim_6, lim_7, lim_8, nxP_nx, okP_ok, putS_eq, biW_int, biW_str, biW_tup, biW_lst, biW_bl, biW_non, biW_scr, biW_cel, biW_two, biG, peeks, biP, biL, int_mod, int_fdiv, List.all_cons, List.all_nil, Int.cast_ofNat_Int, Int.reduceEq, Int.reduceLT, Int.reduceLE, Int.reduceAdd, Int.reduceSub, Int.reduceNeg, eqP_int, nrP_nx, nrP_rt, leave_p, leave_nx, cut_self, e1, e2]
    have s2 := app_ss (C := Cn n) (δ := [some (.cel j), some (.p (ixs i)), none, none, some (.p (.int (many : Nat))), some (.p (.int (L : Nat))), some (.cel (st.ls.length + 0)), some (.cel (st.ls.length + 1)), none, none, some (.p (.int d1)), some (.p (.int (1 + d2)))]) (st := st) (j := j) (i := 0) (v := 6) (jar := jar3) (jar' := jar3) (xs := (parR bs).map rdP) (cs := [⟨(parR bs).map rdP, false⟩, ⟨(parL bs.length (xF L bs)).map ldP, false⟩]) (cs' := [⟨(parR bs).map rdP, false⟩, ⟨(parL bs.length (xF L bs)).map ldP, false⟩]) (e := .tup (.cons (.str "a") (.cons (.str "b") (.cons (.v 10) (.cons (.v 11) .nil))))) (y := rdP ⟨97, 98, d1, 1 + d2⟩) rfl (by simp) (by
      simp only [Ss.ev, S.ev, E.ev, Es.ev, It.ev, bind_ok, bind_exc, bind_no, sr_ok, sr_exc, sr_no, Res.two, Res.one, peek_p, keep_p, keeps, tru_b, cx_call, cx_new, cx_glo, cx_sub, cx_dun, cx_inst, cx_fuel, start, List.map_cons, List.map_nil, List.length_cons, List.length_nil, List.reduceReplicate, List.cons_append, List.nil_append, List.getElem?_cons_zero, List.getElem?_cons_succ, List.set_cons_zero, List.set_cons_succ, Nat.reduceAdd, Nat.reduceSub, Nat.reduceLT, Nat.reduceEqDiff, decide_true, decide_false, notOwn, Bool.and_true, Bool.true_and, Bool.and_false, Bool.false_and, Bool.or_true, Bool.true_or, Bool.or_false, Bool.false_or, Bool.not_true, Bool.not_false, Bool.false_eq_true, if_true, if_false, decide_eq_true_eq, omap_some, omap_none, op_add, op_sub, op_addt, cp_eq, cp_ne, cp_lt, cp_le, cp_gt, cp_ge, cp_isn, cp_notn, cp_inn, cp_nin, itemsP, ofO, Tg.put, Tg.puts, putAll, mkL_t, mkL_f, lim_0, lim_1, lim_2, lim_3, lim_4, lim_5, lim_6, lim_7, lim_8, nxP_nx, okP_ok, putS_eq, biW_int, biW_str, biW_tup, biW_lst, biW_bl, biW_non, biW_scr, biW_cel, biW_two, biG, peeks, biP, biL, int_mod, int_fdiv, List.all_cons, List.all_nil, Int.cast_ofNat_Int, Int.reduceEq, Int.reduceLT, Int.reduceLE, Int.reduceAdd, Int.reduceSub, Int.reduceNeg, eqP_int, nrP_nx, nrP_rt, leave_p, leave_nx, cut_self, s_a, s_b]
      rfl) rfl (by simp [parR]; omega)
    have s3 := app_ss (C := Cn n) (δ := [some (.cel j), some (.p (ixs i)), none, none, some (.p (.int (many : Nat))), some (.p (.int (L : Nat))), some (.cel (st.ls.length + 0)), some (.cel (st.ls.length + 1)), none, none, some (.p (.int d1)), some (.p (.int (1 + d2)))]) (st := st) (j := j) (i := 1) (v := 7) (jar := jar3) (jar' := jar3) (xs := (parL bs.length (xF L bs)).map ldP) (cs := [⟨(parR bs).map rdP ++ [rdP ⟨97, 98, d1, 1 + d2⟩], false⟩, ⟨(parL bs.length (xF L bs)).map ldP, false⟩]) (cs' := [⟨(parR bs).map rdP ++ [rdP ⟨97, 98, d1, 1 + d2⟩], false⟩, ⟨(parL bs.length (xF L bs)).map ldP, false⟩]) (e := .op .add (.tup (.cons (.tup (.cons (.v 1) .nil)) .nil)) (.call f_law_lowest (.cons (.op .sub (.v 5) (.v 10)) (.cons (.v 11) .nil)))) (y := ldP ([i], mkRat ((L : Int) - d1) (1 + d2).toNat)) rfl (by simp) (by
      have o1 : opP .add (.tup [.tup [ixs i]]) (fr (mkRat ((L : Int) - d1) (1 + d2).toNat)) = some (ldP ([i], mkRat ((L : Int) - d1) (1 + d2).toNat)) := rfl
      simp only [Ss.ev, S.ev, E.ev, Es.ev, It.ev, bind_ok, bind_exc, bind_no, sr_ok, sr_exc, sr_no, Res.two, Res.one, peek_p, keep_p, keeps, tru_b, cx_call, cx_new, cx_glo, cx_sub, cx_dun, cx_inst, cx_fuel, start, List.map_cons, List.map_nil, List.length_cons, List.length_nil, List.reduceReplicate, List.cons_append, List.nil_append, List.getElem?_cons_zero, List.getElem?_cons_succ, List.set_cons_zero, List.set_cons_succ, Nat.reduceAdd, Nat.reduceSub, Nat.reduceLT, Nat.reduceEqDiff, decide_true, decide_false, notOwn, Bool.and_true, Bool.true_and, Bool.and_false, Bool.false_and, Bool.or_true, Bool.true_or, Bool.or_false, Bool.false_or, Bool.not_true, Bool.not_false, Bool.false_eq_true, if_true, if_false, decide_eq_true_eq, omap_some, omap_none, op_add, op_sub, op_addt, cp_eq, cp_ne, cp_lt, cp_le, cp_gt, cp_ge, cp_isn, cp_notn, cp_inn, cp_nin, itemsP, ofO, Tg.put, Tg.puts, putAll, mkL_t, mkL_f, lim_0, lim_1, lim_2, lim_3, lim_4, lim_5, lim_6, lim_7, lim_8, nxP_nx, okP_ok, putS_eq, biW_int, biW_str, biW_tup, biW_lst, biW_bl, biW_non, biW_scr, biW_cel, biW_two, biG, peeks, biP, biL, int_mod, int_fdiv, List.all_cons, List.all_nil, Int.cast_ofNat_Int, Int.reduceEq, Int.reduceLT, Int.reduceLE, Int.reduceAdd, Int.reduceSub, Int.reduceNeg, eqP_int, nrP_nx, nrP_rt, leave_p, leave_nx, cut_self, e3, o1]) rfl (by simp [parL]; omega)
    show (besB.ev (Cn n) [some (.cel j), some (.p (ixs i)), none, none, some (.p (.int (many : Nat))), some (.p (.int (L : Nat))), some (.cel (st.ls.length + 0)), some (.cel (st.ls.length + 1)), none, none, b, c] (SS st j jar1 [⟨(parR bs).map rdP, false⟩, ⟨(parL bs.length (xF L bs)).map ldP, false⟩])).nxP _
    rw [besB, Ss.ev, s1]
    dsimp only
    rw [Ss.ev, s2]
    dsimp only [List.set_cons_zero]
    rw [Ss.ev, s3]
    dsimp only [List.set_cons_zero, List.set_cons_succ]
    rw [Ss.ev]
    refine ⟨bs ++ [(d1, 1 + d2)], jar3, _, _, _, by simp [h1], ?_, hj3, rfl, ?_⟩
    · intro p hp
      rcases List.mem_append.mp hp with hp | hp
      · exact h2 p hp
      · simp at hp
        subst hp
        exact ⟨d10, by omega, by omega, by omega⟩
    · rw [xF_app, parR, List.map_append, List.map_append, List.map_append]
      have : i = bs.length := by omega
      subst this
      rfl)
  exact ⟨bs, jar', a, b, c, by rw [h1, List.length_range], h2, h3, e⟩
theorem xF_pos {L : Nat} (hL : 10 ≤ L) (hL2 : L ≤ 100) {bs : List (Int × Int)} (hb : BsS bs) : ∀ i, i < bs.length → 0 < xF L bs i ∧ Sz (xF L bs i) 10 := by
  intro i hi
  have e : bs.getD i (0, 1) = bs[i] := by
    rw [List.getD_eq_getElem?_getD, List.getElem?_eq_getElem hi]
    rfl
  obtain ⟨a, b, c, d⟩ := hb bs[i] (List.getElem_mem hi)
  unfold xF
  rw [e]
  have hp : 0 < bs[i].2.toNat := by omega
  constructor
  · rw [← num_pos, Rat.num_mkRat, if_neg (by omega)]
    have g : (bs[i].2.toNat).gcd ((L : Int) - bs[i].1).natAbs ∣ ((L : Int) - bs[i].1).natAbs := Nat.gcd_dvd_right _ _
    have gp : 0 < (bs[i].2.toNat).gcd ((L : Int) - bs[i].1).natAbs := Nat.gcd_pos_of_pos_left _ hp
    have h1 : 0 < (L : Int) - bs[i].1 := by omega
    apply Int.ediv_pos_of_pos_of_dvd h1 (by omega)
    exact Int.ofNat_dvd_left.mpr g
  · refine sz_mk hp ?_ ?_
    · have : (2 : Nat) ^ 10 = 1024 := by decide
      omega
    · have : (2 : Nat) ^ 10 = 1024 := by decide
      omega
theorem BsS.ok {bs : List (Int × Int)} (h : BsS bs) : BsOk bs := fun p hp => by
  obtain ⟨a, b, c, d⟩ := h p hp
  exact ⟨a, by omega, by omega, by omega⟩
theorem rat_toNat {r : Int} (h : 0 ≤ r) : ((r.toNat : Nat) : Rat) = (r : Rat) := by
  have : ((r.toNat : Nat) : Int) = r := Int.toNat_of_nonneg h
  calc ((r.toNat : Nat) : Rat) = (((r.toNat : Nat) : Int) : Rat) := by push_cast; rfl
    _ = (r : Rat) := by rw [this]
theorem bes_c {L : Nat} {bs : List (Int × Int)} (hb : BsS bs) {i : Nat} (hi : i < bs.length) : (bs[i].1 : Rat) + (bs[i].2 : Rat) * xF L bs i = (L : Rat) := by
  have e : bs.getD i (0, 1) = bs[i] := by
    rw [List.getD_eq_getElem?_getD, List.getElem?_eq_getElem hi]
    rfl
  obtain ⟨a, b, c, d⟩ := hb bs[i] (List.getElem_mem hi)
  have h0 : (bs[i].2 : Rat) ≠ 0 := by
    intro q
    have : bs[i].2 = 0 := by exact_mod_cast q
    omega
  rw [xF, e, Rat.mkRat_eq_div, rat_toNat (by omega), mul_div h0]
  push_cast
  grind
theorem bes_exc {L : Nat} {bs : List (Int × Int)} (h0 : bs ≠ []) (hb : BsS bs) : excQ 97 98 (parR bs) (parL bs.length (xF L bs)) = 0 := by
  have hp := List.length_pos_iff.mpr h0
  have all : ∀ x ∈ (List.range bs.length).map fun i => cQ (parR bs) (parL bs.length (xF L bs)) i, x = (L : Rat) := fun x hx => by
    obtain ⟨i, hi, rfl⟩ := List.mem_map.mp hx
    have hi := List.mem_range.mp hi
    rw [par_c hi, bes_c hb hi]
  have one : (L : Rat) ∈ (List.range bs.length).map fun i => cQ (parR bs) (parL bs.length (xF L bs)) i :=
    List.mem_map.mpr ⟨0, List.mem_range.mpr hp, by rw [par_c hp, bes_c hb hp]⟩
  rw [par_exc, maxQ_eq one (fun x hx => by rw [all x hx]; exact Rat.le_refl), minQ_eq one (fun x hx => by rw [all x hx]; exact Rat.le_refl)]
  exact Rat.sub_self
/-- one more on the first road -/
def xM (L : Int) (bs : List (Int × Int)) (i : Nat) : Rat := if i = 0 then xF L bs 0 + 1 else xF L bs i
theorem xM_exc {L : Nat} {bs : List (Int × Int)} (h0 : 2 ≤ bs.length) (hb : BsS bs) : excQ 97 98 (parR bs) (parL bs.length (xM L bs)) = ((bs[0]'(by omega)).2 : Rat) := by
  have hp : 0 < bs.length := by omega
  obtain ⟨a, b, c, d⟩ := hb bs[0] (List.getElem_mem hp)
  have pos : (0 : Rat) ≤ (bs[0].2 : Rat) := by exact_mod_cast (by omega : 0 ≤ bs[0].2)
  have c0 : cQ (parR bs) (parL bs.length (xM L bs)) 0 = (L : Rat) + (bs[0].2 : Rat) := by
    rw [par_c hp]
    have := bes_c (L := L) hb hp
    rw [xM, if_pos rfl]
    grind
  have ci : ∀ i, 0 < i → i < bs.length → cQ (parR bs) (parL bs.length (xM L bs)) i = (L : Rat) := fun i h1 h2 => by
    rw [par_c h2]
    have := bes_c (L := L) hb h2
    rw [xM, if_neg (by omega)]
    exact this
  have hi : ∀ x ∈ (List.range bs.length).map fun i => cQ (parR bs) (parL bs.length (xM L bs)) i, (L : Rat) ≤ x ∧ x ≤ (L : Rat) + (bs[0].2 : Rat) := fun x hx => by
    obtain ⟨i, hi, rfl⟩ := List.mem_map.mp hx
    have hi := List.mem_range.mp hi
    rcases Nat.eq_zero_or_pos i with q | q
    · subst q
      rw [c0]
      grind
    · rw [ci i q hi]
      grind
  rw [par_exc, maxQ_eq (v := (L : Rat) + (bs[0].2 : Rat)) (List.mem_map.mpr ⟨0, List.mem_range.mpr hp, c0⟩) (fun x hx => (hi x hx).2), minQ_eq (v := (L : Rat)) (List.mem_map.mpr ⟨1, List.mem_range.mpr (by omega), ci 1 (by omega) (by omega)⟩) (fun x hx => (hi x hx).1)]
  grind
theorem xM_pos {L : Nat} (hL : 10 ≤ L) (hL2 : L ≤ 100) {bs : List (Int × Int)} (hb : BsS bs) : ∀ i, i < bs.length → 0 < xM L bs i ∧ Sz (xM L bs i) 12 := by
  intro i hi
  obtain ⟨h1, h2⟩ := xF_pos hL hL2 hb i hi
  unfold xM
  split
  · rename_i e
    subst e
    exact ⟨by grind, (h2.add (sz_int (i := 1) (n := 1) (by decide) (by decide))).mono (by decide)⟩
  · exact ⟨h1, h2.mono (by decide)⟩
theorem xM_fit {L : Nat} (hL : 10 ≤ L) (hL2 : L ≤ 100) {bs : List (Int × Int)} (h0 : bs ≠ []) (h4 : bs.length ≤ 5) (hb : BsS bs) : Fit 97 98 (parR bs) (parL bs.length (xM L bs)) 12 481 522 4185 :=
  fit_of (par_web h0 (by omega) hb.ok) (par_lds h0 (by omega) (xM_pos hL hL2 hb) (by decide)) (by simp [parL]; omega)
end Z.U

namespace Z.U
open PySem

theorem parL_cons {n : Nat} {x : Nat → Rat} : parL (n + 1) x = ([0], x 0) :: (List.range n).map fun i => ([i + 1], x (i + 1)) := by
  unfold parL
  rw [List.range_succ_eq_map, List.map_cons, List.map_map]
  rfl
theorem beside_ok {m : Nat} (hm : 14 ≤ m) : JF m f_law_beside_right [] fun r => r = .bl true := by
  intro st j jar hj hat
  obtain ⟨n, rfl, hn⟩ := suc_of hm
  have hl := hat.lt
  show ∃ r jar', Jarry jar' ∧ r = P.bl true ∧ MG.call (n + 1) f_law_beside_right [.cel j] st = .ok (.p r) (stp st j jar')
  obtain ⟨_, jar1, hj1, ⟨d1, d10, d11, rfl⟩, e1⟩ := (dip_ok (m := n) (by omega) (wide := 4) (by decide) (by decide)).ss (st := st) (j := j) (cs := []) hj hl
  obtain ⟨_, jar2, hj2, ⟨d2, d20, d21, rfl⟩, e2⟩ := (dip_ok (m := n) (by omega) (wide := 50) (by decide) (by decide)).ss (st := st) (j := j) (cs := []) hj1 hl
  have e1 : MG.call n f_law_dip [.cel j, .p (.int 4)] _ = _ := e1
  have e2 : MG.call n f_law_dip [.cel j, .p (.int 50)] _ = _ := e2
  obtain ⟨many, hmany⟩ : ∃ many : Nat, (2 : Int) + d1 = (many : Nat) := ⟨(2 + d1).toNat, by omega⟩
  obtain ⟨L, hL⟩ : ∃ L : Nat, (10 : Int) + d2 = (L : Nat) := ⟨(10 + d2).toNat, by omega⟩
  obtain ⟨bs, jar3, a, b, c, hb1, hb2, hj3, loop⟩ := bes_for (n := n) (by omega) (st := st) (j := j) hj2 hl (many := many) (L := L) (by omega)
  have hb0 : bs ≠ [] := by
    intro e
    rw [e] at hb1
    simp at hb1
    omega
  have hp : 0 < bs.length := List.length_pos_iff.mpr hb0
  have h5 : bs.length ≤ 5 := by omega
  have fit1 := par_fit hb0 (by omega) hb2.ok (x := xF L bs) fun i hi => ⟨(xF_pos (by omega) (by omega) hb2 i hi).1, (xF_pos (by omega) (by omega) hb2 i hi).2.mono (by decide)⟩
  have fit2 := xM_fit (L := L) (by omega) (by omega) hb0 h5 hb2
  have x1 := bes_exc (L := L) hb0 hb2
  have x2 := xM_exc (L := L) (by omega) hb2
  have c0 : wcQ (cQ (parR bs) (parL bs.length (xF L bs))) [0] = (L : Rat) := by
    rw [wc_one, par_c hp, bes_c hb2 hp]
  have w0 : [0] ∈ waysOf 97 98 (parR bs) := by
    rw [par_ways]
    exact List.mem_map.mpr ⟨0, List.mem_range.mpr hp, rfl⟩
  refine ⟨_, jar3, hj3, rfl, ?_⟩
  rw [call_eq fd_law_beside_right rfl rfl]
  rw [show d_law_beside_right.body = b_law_beside_right from rfl, b_law_beside_right]
  rw [show start d_law_beside_right.ns [W.cel j] = [some (.cel j), none, none, none, none, none, none, none, none, none, none, none] from rfl]
  rw [show (Ss.ev (Cn n) _ [some (W.cel j), none, none, none, none, none, none, none, none, none, none, none] st) = Ss.ev (Cn n) _ [some (W.cel j), none, none, none, none, none, none, none, none, none, none, none] (SS st j jar []) by rw [← SS_start hat]]
  rw [Ss.ev, show S.ev (Cn n) (.par [4, 5] (.cons (.op .add (.int 2) (.call f_law_dip (.cons (.v 0) (.cons (.int 4) .nil)))) (.cons (.op .add (.int 10) (.call f_law_dip (.cons (.v 0) (.cons (.int 50) .nil)))) .nil))) [some (W.cel j), none, none, none, none, none, none, none, none, none, none, none] (SS st j jar []) =
      .nx [some (W.cel j), none, none, none, some (.p (.int (many : Nat))), some (.p (.int (L : Nat))), none, none, none, none, none, none] (SS st j jar2 []) by
    simp only [Ss.ev, S.ev, E.ev, Es.ev, It.ev, bind_ok, bind_exc, bind_no, sr_ok, sr_exc, sr_no, Res.two, Res.one, peek_p, keep_p, keeps, tru_b, cx_call, cx_new, cx_glo, cx_sub, cx_dun, cx_inst, cx_fuel, start, List.map_cons, List.map_nil, List.length_cons, List.length_nil, List.reduceReplicate, List.cons_append, List.nil_append, List.getElem?_cons_zero, List.getElem?_cons_succ, List.set_cons_zero, List.set_cons_succ, Nat.reduceAdd, Nat.reduceSub, Nat.reduceLT, Nat.reduceEqDiff, decide_true, decide_false, notOwn, Bool.and_true, Bool.true_and, Bool.and_false, Bool.false_and, Bool.or_true, Bool.true_or, Bool.or_false, Bool.false_or, Bool.not_true, Bool.not_false, Bool.false_eq_true, if_true, if_false, decide_eq_true_eq, omap_some, omap_none, op_add, op_sub, op_addt, cp_eq, cp_ne, cp_lt, cp_le, cp_gt, cp_ge, cp_isn, cp_notn, cp_inn, cp_nin, itemsP, ofO, Tg.put, Tg.puts, putAll, mkL_t, mkL_f, lim_0, lim_1, lim_2, lim_3, lim_4, lim_5, lim_6, lim_7, lim_8, nxP_nx, okP_ok, putS_eq, biW_int, biW_str, biW_tup, biW_lst, biW_bl, biW_non, biW_scr, biW_cel, biW_two, biG, peeks, biP, biL, int_mod, int_fdiv, List.all_cons, List.all_nil, Int.cast_ofNat_Int, Int.reduceEq, Int.reduceLT, Int.reduceLE, Int.reduceAdd, Int.reduceSub, Int.reduceNeg, eqP_int, nrP_nx, nrP_rt, leave_p, leave_nx, cut_self, e1, e2, hmany, hL]]
  dsimp only
  rw [Ss.ev, show S.ev (Cn n) (.par [6, 7] (.cons (.lst true .nil) (.cons (.lst true .nil) .nil))) [some (W.cel j), none, none, none, some (.p (.int (many : Nat))), some (.p (.int (L : Nat))), none, none, none, none, none, none] (SS st j jar2 []) =
      .nx [some (W.cel j), none, none, none, some (.p (.int (many : Nat))), some (.p (.int (L : Nat))), some (.cel (st.ls.length + 0)), some (.cel (st.ls.length + 1)), none, none, none, none] (SS st j jar2 [⟨[], false⟩, ⟨[], false⟩]) by
    simp only [Ss.ev, S.ev, E.ev, Es.ev, It.ev, bind_ok, bind_exc, bind_no, sr_ok, sr_exc, sr_no, Res.two, Res.one, peek_p, keep_p, keeps, tru_b, cx_call, cx_new, cx_glo, cx_sub, cx_dun, cx_inst, cx_fuel, start, List.map_cons, List.map_nil, List.length_cons, List.length_nil, List.reduceReplicate, List.cons_append, List.nil_append, List.getElem?_cons_zero, List.getElem?_cons_succ, List.set_cons_zero, List.set_cons_succ, Nat.reduceAdd, Nat.reduceSub, Nat.reduceLT, Nat.reduceEqDiff, decide_true, decide_false, notOwn, Bool.and_true, Bool.true_and, Bool.and_false, Bool.false_and, Bool.or_true, Bool.true_or, Bool.or_false, Bool.false_or, Bool.not_true, Bool.not_false, Bool.false_eq_true, if_true, if_false, decide_eq_true_eq, omap_some, omap_none, op_add, op_sub, op_addt, cp_eq, cp_ne, cp_lt, cp_le, cp_gt, cp_ge, cp_isn, cp_notn, cp_inn, cp_nin, itemsP, ofO, Tg.put, Tg.puts, putAll, mkL_t, mkL_f, lim_0, lim_1, lim_2, lim_3, lim_4, lim_5, lim_6, lim_7, lim_8, nxP_nx, okP_ok, putS_eq, biW_int, biW_str, biW_tup, biW_lst, biW_bl, biW_non, biW_scr, biW_cel, biW_two, biG, peeks, biP, biL, int_mod, int_fdiv, List.all_cons, List.all_nil, Int.cast_ofNat_Int, Int.reduceEq, Int.reduceLT, Int.reduceLE, Int.reduceAdd, Int.reduceSub, Int.reduceNeg, eqP_int, nrP_nx, nrP_rt, leave_p, leave_nx, cut_self, SS_new]]
  dsimp only
  rw [Ss.ev, S.ev, show It.ev (Cn n) (.rng1 (.v 4)) [some (W.cel j), none, none, none, some (.p (.int (many : Nat))), some (.p (.int (L : Nat))), some (.cel (st.ls.length + 0)), some (.cel (st.ls.length + 1)), none, none, none, none] (SS st j jar2 [⟨[], false⟩, ⟨[], false⟩]) = .ok ((List.range many).map ixs) (SS st j jar2 [⟨[], false⟩, ⟨[], false⟩]) by
    have rg := rng_nat many (by omega)
    simp only [Ss.ev, S.ev, E.ev, Es.ev, It.ev, bind_ok, bind_exc, bind_no, sr_ok, sr_exc, sr_no, Res.two, Res.one, peek_p, keep_p, keeps, tru_b, cx_call, cx_new, cx_glo, cx_sub, cx_dun, cx_inst, cx_fuel, start, List.map_cons, List.map_nil, List.length_cons, List.length_nil, List.reduceReplicate, List.cons_append, List.nil_append, List.getElem?_cons_zero, List.getElem?_cons_succ, List.set_cons_zero, List.set_cons_succ, Nat.reduceAdd, Nat.reduceSub, Nat.reduceLT, Nat.reduceEqDiff, decide_true, decide_false, notOwn, Bool.and_true, Bool.true_and, Bool.and_false, Bool.false_and, Bool.or_true, Bool.true_or, Bool.or_false, Bool.false_or, Bool.not_true, Bool.not_false, Bool.false_eq_true, if_true, if_false, decide_eq_true_eq, omap_some, omap_none, op_add, op_sub, op_addt, cp_eq, cp_ne, cp_lt, cp_le, cp_gt, cp_ge, cp_isn, cp_notn, cp_inn, cp_nin, itemsP, ofO, Tg.put, Tg.puts, putAll, mkL_t, mkL_f, lim_0, lim_1, lim_2, lim_3, lim_4, lim_5, lim_6, lim_7, lim_8, nxP_nx, okP_ok, putS_eq, biW_int, biW_str, biW_tup, biW_lst, biW_bl, biW_non, biW_scr, biW_cel, biW_two, biG, peeks, biP, biL, int_mod, int_fdiv, List.all_cons, List.all_nil, Int.cast_ofNat_Int, Int.reduceEq, Int.reduceLT, Int.reduceLE, Int.reduceAdd, Int.reduceSub, Int.reduceNeg, eqP_int, nrP_nx, nrP_rt, leave_p, leave_nx, cut_self, rg]
    rfl]
  simp only [sr_ok]
  unfold besB at loop
  rw [loop]
  dsimp only
  generalize hS : SS st j jar3 [⟨(parR bs).map rdP, false⟩, ⟨(parL bs.length (xF L bs)).map ldP, false⟩] = s3
  have pk0 : peek s3 (.cel (st.ls.length + 0)) = some (.lst ((parR bs).map rdP)) := by rw [← hS]; exact SS_peek rfl
  have pk1 : peek s3 (.cel (st.ls.length + 1)) = some (.lst ((parL bs.length (xF L bs)).map ldP)) := by rw [← hS]; exact SS_peek rfl
  have nw := web_new (m := n) (by omega) fit1.web (st := s3)
  have nw : MG.new n k_Web f_Web____init__ [.p (.str ⟨#[97]⟩), .p (.str ⟨#[98]⟩), .p (.tup ((parR bs).map rdP))] s3 = _ := nw
  have nf : (webF 97 98 (parR bs)).length = 3 := rfl
  have wp : P.ins k_Web (webF 97 98 (parR bs)) = webP 97 98 (parR bs) := rfl
  have st1 := is_steady_ok (m := n) (by omega) fit1 (st := s3)
  rw [x1] at st1
  have st1 : MG.call n f_is_steady [.p (webP 97 98 (parR bs)), .p (.tup ((parL bs.length (xF L bs)).map ldP))] s3 = .ok (.p (.bl true)) s3 := by
    rw [show P.tup ((parL bs.length (xF L bs)).map ldP) = ldsP (parL bs.length (xF L bs)) from rfl, st1]
    rfl
  have wc1 := way_cost_ok (m := n) (by omega) fit1 w0 (st := s3)
  rw [c0] at wc1
  have wc1 : MG.call n f_way_cost [.p (webP 97 98 (parR bs)), .p (.tup ((parL bs.length (xF L bs)).map ldP)), .p (.tup [.int 0])] s3 = .ok (.p (fr (L : Rat))) s3 := wc1
  have frL : P.tup [.int (L : Nat), .int 1] = fr (L : Rat) := by
    have : ((L : Nat) : Rat) = (((L : Nat) : Int) : Rat) := by push_cast; rfl
    rw [this]
    rfl
  have eqL : eqP (fr (L : Rat)) (fr (L : Rat)) = some true := by rw [eqP_fr]; simp
  -- the web
  rw [Ss.ev, show S.ev (Cn n) (.set (.n 2) (.new k_Web f_Web____init__ 3 (.cons (.str "a") (.cons (.str "b") (.cons (.bi .tuple false (.cons (.v 6) .nil)) .nil))))) [some (W.cel j), a, none, none, some (.p (.int (many : Nat))), some (.p (.int (L : Nat))), some (.cel (st.ls.length + 0)), some (.cel (st.ls.length + 1)), none, none, b, c] s3 =
      .nx [some (W.cel j), a, some (.p (webP 97 98 (parR bs))), none, some (.p (.int (many : Nat))), some (.p (.int (L : Nat))), some (.cel (st.ls.length + 0)), some (.cel (st.ls.length + 1)), none, none, b, c] s3 by
    simp only [Ss.ev, S.ev, E.ev, Es.ev, It.ev, bind_ok, bind_exc, bind_no, sr_ok, sr_exc, sr_no, Res.two, Res.one, peek_p, keep_p, keeps, tru_b, cx_call, cx_new, cx_glo, cx_sub, cx_dun, cx_inst, cx_fuel, start, List.map_cons, List.map_nil, List.length_cons, List.length_nil, List.reduceReplicate, List.cons_append, List.nil_append, List.getElem?_cons_zero, List.getElem?_cons_succ, List.set_cons_zero, List.set_cons_succ, Nat.reduceAdd, Nat.reduceSub, Nat.reduceLT, Nat.reduceEqDiff, decide_true, decide_false, notOwn, Bool.and_true, Bool.true_and, Bool.and_false, Bool.false_and, Bool.or_true, Bool.true_or, Bool.or_false, Bool.false_or, Bool.not_true, Bool.not_false, Bool.false_eq_true, if_true, if_false, decide_eq_true_eq, omap_some, omap_none, op_add, op_sub, op_addt, cp_eq, cp_ne, cp_lt, cp_le, cp_gt, cp_ge, cp_isn, cp_notn, cp_inn, cp_nin, itemsP, ofO, Tg.put, Tg.puts, putAll, mkL_t, mkL_f, lim_0, lim_1, lim_2, lim_3, lim_4, lim_5, lim_6, lim_7, lim_8, nxP_nx, okP_ok, putS_eq, biW_int, biW_str, biW_tup, biW_lst, biW_bl, biW_non, biW_scr, biW_cel, biW_two, biG, peeks, biP, biL, int_mod, int_fdiv, List.all_cons, List.all_nil, Int.cast_ofNat_Int, Int.reduceEq, Int.reduceLT, Int.reduceLE, Int.reduceAdd, Int.reduceSub, Int.reduceNeg, eqP_int, nrP_nx, nrP_rt, leave_p, leave_nx, cut_self, s_a, s_b, pk0, nw, nf, beq_self_eq_true, wp]]
  dsimp only
  rw [Ss.ev, show S.ev (Cn n) (.ife (.or (.not (.call f_is_steady (.cons (.v 2) (.cons (.bi .tuple false (.cons (.v 7) .nil)) .nil)))) (.cmp .ne (.call f_way_cost (.cons (.v 2) (.cons (.bi .tuple false (.cons (.v 7) .nil)) (.cons (.tup (.cons (.int 0) .nil)) .nil)))) (.tup (.cons (.v 5) (.cons (.int 1) .nil))))) (.cons (.ret (.bl false)) .nil) .nil) [some (W.cel j), a, some (.p (webP 97 98 (parR bs))), none, some (.p (.int (many : Nat))), some (.p (.int (L : Nat))), some (.cel (st.ls.length + 0)), some (.cel (st.ls.length + 1)), none, none, b, c] s3 =
      .nx [some (W.cel j), a, some (.p (webP 97 98 (parR bs))), none, some (.p (.int (many : Nat))), some (.p (.int (L : Nat))), some (.cel (st.ls.length + 0)), some (.cel (st.ls.length + 1)), none, none, b, c] s3 by
    simp only [Ss.ev, S.ev, E.ev, Es.ev, It.ev, bind_ok, bind_exc, bind_no, sr_ok, sr_exc, sr_no, Res.two, Res.one, peek_p, keep_p, keeps, tru_b, cx_call, cx_new, cx_glo, cx_sub, cx_dun, cx_inst, cx_fuel, start, List.map_cons, List.map_nil, List.length_cons, List.length_nil, List.reduceReplicate, List.cons_append, List.nil_append, List.getElem?_cons_zero, List.getElem?_cons_succ, List.set_cons_zero, List.set_cons_succ, Nat.reduceAdd, Nat.reduceSub, Nat.reduceLT, Nat.reduceEqDiff, decide_true, decide_false, notOwn, Bool.and_true, Bool.true_and, Bool.and_false, Bool.false_and, Bool.or_true, Bool.true_or, Bool.or_false, Bool.false_or, Bool.not_true, Bool.not_false, Bool.false_eq_true, if_true, if_false, decide_eq_true_eq, omap_some, omap_none, op_add, op_sub, op_addt, cp_eq, cp_ne, cp_lt, cp_le, cp_gt, cp_ge, cp_isn, cp_notn, cp_inn, cp_nin, itemsP, ofO, Tg.put, Tg.puts, putAll, mkL_t, mkL_f, lim_0, lim_1, lim_2, lim_3, lim_4, lim_5, lim_6, lim_7, lim_8, nxP_nx, okP_ok, putS_eq, biW_int, biW_str, biW_tup, biW_lst, biW_bl, biW_non, biW_scr, biW_cel, biW_two, biG, peeks, biP, biL, int_mod, int_fdiv, List.all_cons, List.all_nil, Int.cast_ofNat_Int, Int.reduceEq, Int.reduceLT, Int.reduceLE, Int.reduceAdd, Int.reduceSub, Int.reduceNeg, eqP_int, nrP_nx, nrP_rt, leave_p, leave_nx, cut_self, pk1, st1, wc1, frL, eqL]]
  dsimp only
  -- number and under
  obtain ⟨k, hk⟩ : ∃ k, bs.length = k + 1 := ⟨bs.length - 1, by omega⟩
  have pk1c : peek s3 (.cel (st.ls.length + 1)) = some (.lst (ldP ([0], xF L bs 0) :: ((List.range k).map fun i => (([i + 1], xF L bs (i + 1)) : Ld)).map ldP)) := by
    rw [pk1, hk, parL_cons]
    rfl
  have ix0 : ixP (.lst (ldP ([0], xF L bs 0) :: ((List.range k).map fun i => (([i + 1], xF L bs (i + 1)) : Ld)).map ldP)) (.int 0) = some (ldP ([0], xF L bs 0)) := by
    show L2.atI _ ((0 : Nat) : Int) = _
    exact atI_nat rfl
  have sl0 : slP (ldP ([0], xF L bs 0)) (some 1) none = some (.tup [.int (xF L bs 0).num, .int ((xF L bs 0).den : Nat)]) := by
    show some (P.tup (cutG _ _ _)) = _
    rw [cut_1]
  have p1 : prtP .non = some none := rfl
  have p2 : prtP (.int 1) = some (some 1) := rfl
  rw [Ss.ev, show S.ev (Cn n) (.set (.t [(.n 8), (.n 9)]) (.sl (.ix (.v 7) (.int 0)) (.int 1) .non)) [some (W.cel j), a, some (.p (webP 97 98 (parR bs))), none, some (.p (.int (many : Nat))), some (.p (.int (L : Nat))), some (.cel (st.ls.length + 0)), some (.cel (st.ls.length + 1)), none, none, b, c] s3 =
      .nx [some (W.cel j), a, some (.p (webP 97 98 (parR bs))), none, some (.p (.int (many : Nat))), some (.p (.int (L : Nat))), some (.cel (st.ls.length + 0)), some (.cel (st.ls.length + 1)), some (.p (.int (xF L bs 0).num)), some (.p (.int ((xF L bs 0).den : Nat))), b, c] s3 by
    have e : (E.sl (.ix (.v 7) (.int 0)) (.int 1) .non).ev (Cn n) [some (W.cel j), a, some (.p (webP 97 98 (parR bs))), none, some (.p (.int (many : Nat))), some (.p (.int (L : Nat))), some (.cel (st.ls.length + 0)), some (.cel (st.ls.length + 1)), none, none, b, c] s3 = .ok (.p (.tup [.int (xF L bs 0).num, .int ((xF L bs 0).den : Nat)])) s3 := by
      simp only [Ss.ev, S.ev, E.ev, Es.ev, It.ev, bind_ok, bind_exc, bind_no, sr_ok, sr_exc, sr_no, Res.two, Res.one, peek_p, keep_p, keeps, tru_b, cx_call, cx_new, cx_glo, cx_sub, cx_dun, cx_inst, cx_fuel, start, List.map_cons, List.map_nil, List.length_cons, List.length_nil, List.reduceReplicate, List.cons_append, List.nil_append, List.getElem?_cons_zero, List.getElem?_cons_succ, List.set_cons_zero, List.set_cons_succ, Nat.reduceAdd, Nat.reduceSub, Nat.reduceLT, Nat.reduceEqDiff, decide_true, decide_false, notOwn, Bool.and_true, Bool.true_and, Bool.and_false, Bool.false_and, Bool.or_true, Bool.true_or, Bool.or_false, Bool.false_or, Bool.not_true, Bool.not_false, Bool.false_eq_true, if_true, if_false, decide_eq_true_eq, omap_some, omap_none, op_add, op_sub, op_addt, cp_eq, cp_ne, cp_lt, cp_le, cp_gt, cp_ge, cp_isn, cp_notn, cp_inn, cp_nin, itemsP, ofO, Tg.put, Tg.puts, putAll, mkL_t, mkL_f, lim_0, lim_1, lim_2, lim_3, lim_4, lim_5, lim_6, lim_7, lim_8, nxP_nx, okP_ok, putS_eq, biW_int, biW_str, biW_tup, biW_lst, biW_bl, biW_non, biW_scr, biW_cel, biW_two, biG, peeks, biP, biL, int_mod, int_fdiv, List.all_cons, List.all_nil, Int.cast_ofNat_Int, Int.reduceEq, Int.reduceLT, Int.reduceLE, Int.reduceAdd, Int.reduceSub, Int.reduceNeg, eqP_int, nrP_nx, nrP_rt, leave_p, leave_nx, cut_self, pk1c, ix0, p1, p2, sl0]
    rw [S.ev, e]
    rfl]
  dsimp only
  -- more
  have sz0 := (xF_pos (L := L) (by omega) (by omega) hb2 0 hp).2
  have lo1 := llow_ok (m := n) (by omega) (a := (xF L bs 0).num + ((xF L bs 0).den : Nat)) (b := (xF L bs 0).den) (st := s3) (xF L bs 0).den_pos (Nat.lt_of_lt_of_le sz0.den (Nat.pow_le_pow_right (by decide) (by decide)))
  rw [mk_one] at lo1
  have o1 : opP .add (.tup [.tup [.int 0]]) (fr (xF L bs 0 + 1)) = some (ldP ([0], xF L bs 0 + 1)) := rfl
  have sl1 : slP (.lst (ldP ([0], xF L bs 0) :: ((List.range k).map fun i => (([i + 1], xF L bs (i + 1)) : Ld)).map ldP)) (some 1) none = some (.lst (((List.range k).map fun i => (([i + 1], xF L bs (i + 1)) : Ld)).map ldP)) := by
    show some (P.lst (cutG _ _ _)) = _
    rw [cut_1]
  have o2 : opP .add (.lst [ldP ([0], xF L bs 0 + 1)]) (.lst (((List.range k).map fun i => (([i + 1], xF L bs (i + 1)) : Ld)).map ldP)) = some (.lst ((parL bs.length (xM L bs)).map ldP)) := by
    show (if lim _ then some (P.lst _) else none) = _
    rw [if_pos (lim_of (by simp; omega)), hk, parL_cons]
    rfl
  rw [Ss.ev, show S.ev (Cn n) (.set (.n 3) (.op .add (.lst false (.cons (.op .add (.tup (.cons (.tup (.cons (.int 0) .nil)) .nil)) (.call f_law_lowest (.cons (.op .add (.v 8) (.v 9)) (.cons (.v 9) .nil)))) .nil)) (.sl (.v 7) (.int 1) .non))) [some (W.cel j), a, some (.p (webP 97 98 (parR bs))), none, some (.p (.int (many : Nat))), some (.p (.int (L : Nat))), some (.cel (st.ls.length + 0)), some (.cel (st.ls.length + 1)), some (.p (.int (xF L bs 0).num)), some (.p (.int ((xF L bs 0).den : Nat))), b, c] s3 =
      .nx [some (W.cel j), a, some (.p (webP 97 98 (parR bs))), some (.p (.lst ((parL bs.length (xM L bs)).map ldP))), some (.p (.int (many : Nat))), some (.p (.int (L : Nat))), some (.cel (st.ls.length + 0)), some (.cel (st.ls.length + 1)), some (.p (.int (xF L bs 0).num)), some (.p (.int ((xF L bs 0).den : Nat))), b, c] s3 by
    simp only [Ss.ev, S.ev, E.ev, Es.ev, It.ev, bind_ok, bind_exc, bind_no, sr_ok, sr_exc, sr_no, Res.two, Res.one, peek_p, keep_p, keeps, tru_b, cx_call, cx_new, cx_glo, cx_sub, cx_dun, cx_inst, cx_fuel, start, List.map_cons, List.map_nil, List.length_cons, List.length_nil, List.reduceReplicate, List.cons_append, List.nil_append, List.getElem?_cons_zero, List.getElem?_cons_succ, List.set_cons_zero, List.set_cons_succ, Nat.reduceAdd, Nat.reduceSub, Nat.reduceLT, Nat.reduceEqDiff, decide_true, decide_false, notOwn, Bool.and_true, Bool.true_and, Bool.and_false, Bool.false_and, Bool.or_true, Bool.true_or, Bool.or_false, Bool.false_or, Bool.not_true, Bool.not_false, Bool.false_eq_true, if_true, if_false, decide_eq_true_eq, omap_some, omap_none, op_add, op_sub, op_addt, cp_eq, cp_ne, cp_lt, cp_le, cp_gt, cp_ge, cp_isn, cp_notn, cp_inn, cp_nin, itemsP, ofO, Tg.put, Tg.puts, putAll, mkL_t, mkL_f, lim_0, lim_1, lim_2, lim_3, lim_4, lim_5, lim_6, lim_7, lim_8, nxP_nx, okP_ok, putS_eq, biW_int, biW_str, biW_tup, biW_lst, biW_bl, biW_non, biW_scr, biW_cel, biW_two, biG, peeks, biP, biL, int_mod, int_fdiv, List.all_cons, List.all_nil, Int.cast_ofNat_Int, Int.reduceEq, Int.reduceLT, Int.reduceLE, Int.reduceAdd, Int.reduceSub, Int.reduceNeg, eqP_int, nrP_nx, nrP_rt, leave_p, leave_nx, cut_self, lo1, o1, pk1c, p1, p2, sl1, o2]]
  dsimp only
  have st2 := is_steady_ok (m := n) (by omega) fit2 (st := s3)
  have ex2 := excess_ok (m := n) (by omega) fit2 (st := s3)
  rw [x2] at st2 ex2
  obtain ⟨q1, q2, q3, q4⟩ := hb2 bs[0] (List.getElem_mem hp)
  have ne0 : ¬ ((bs[0].2 : Rat) = 0) := fun q => by
    have : bs[0].2 = 0 := by exact_mod_cast q
    omega
  rw [decide_eq_false ne0] at st2
  have st2 : MG.call n f_is_steady [.p (webP 97 98 (parR bs)), .p (.tup ((parL bs.length (xM L bs)).map ldP))] s3 = _ := st2
  have ex2 : MG.call n f_excess [.p (webP 97 98 (parR bs)), .p (.tup ((parL bs.length (xM L bs)).map ldP))] s3 = _ := ex2
  have rx0 : ixP (.lst ((parR bs).map rdP)) (.int 0) = some (rdP ⟨97, 98, bs[0].1, bs[0].2⟩) := by
    show L2.atI _ ((0 : Nat) : Int) = _
    apply atI_nat
    rw [List.getElem?_map, par_get hp]
    rfl
  have rx3 : ixP (rdP ⟨97, 98, bs[0].1, bs[0].2⟩) (.int 3) = some (.int bs[0].2) := rfl
  have frR : P.tup [.int bs[0].2, .int 1] = fr (bs[0].2 : Rat) := rfl
  have eqR : eqP (fr (bs[0].2 : Rat)) (fr (bs[0].2 : Rat)) = some true := by rw [eqP_fr]; simp
  simp only [Ss.ev, S.ev, E.ev, Es.ev, It.ev, bind_ok, bind_exc, bind_no, sr_ok, sr_exc, sr_no, Res.two, Res.one, peek_p, keep_p, keeps, tru_b, cx_call, cx_new, cx_glo, cx_sub, cx_dun, cx_inst, cx_fuel, start, List.map_cons, List.map_nil, List.length_cons, List.length_nil, List.reduceReplicate, List.cons_append, List.nil_append, List.getElem?_cons_zero, List.getElem?_cons_succ, List.set_cons_zero, List.set_cons_succ, Nat.reduceAdd, Nat.reduceSub, Nat.reduceLT, Nat.reduceEqDiff, decide_true, decide_false, notOwn, Bool.and_true, Bool.true_and, Bool.and_false, Bool.false_and, Bool.or_true, Bool.true_or, Bool.or_false, Bool.false_or, Bool.not_true, Bool.not_false, Bool.false_eq_true, if_true, if_false, decide_eq_true_eq, omap_some, omap_none, op_add, op_sub, op_addt, cp_eq, cp_ne, cp_lt, cp_le, cp_gt, cp_ge, cp_isn, cp_notn, cp_inn, cp_nin, itemsP, ofO, Tg.put, Tg.puts, putAll, mkL_t, mkL_f, lim_0, lim_1, lim_2, lim_3, lim_4, lim_5, lim_6, lim_7, lim_8, nxP_nx, okP_ok, putS_eq, biW_int, biW_str, biW_tup, biW_lst, biW_bl, biW_non, biW_scr, biW_cel, biW_two, biG, peeks, biP, biL, int_mod, int_fdiv, List.all_cons, List.all_nil, Int.cast_ofNat_Int, Int.reduceEq, Int.reduceLT, Int.reduceLE, Int.reduceAdd, Int.reduceSub, Int.reduceNeg, eqP_int, nrP_nx, nrP_rt, leave_p, leave_nx, cut_self, st2, ex2, pk0, rx0, rx3, frR, eqR]
  rw [← hS, SS_cut]
end Z.U

namespace Z.U
open PySem

theorem nine : ("abcdefghi" : Str).cps.toList = [97, 98, 99, 100, 101, 102, 103, 104, 105] := by decide +kernel
theorem nine_len : ("abcdefghi" : Str).length = 9 := by decide +kernel
theorem nine_ix {k : Nat} (hk : k ≤ 8) : ixP (.str "abcdefghi") (ixs k) = some (plc (97 + k)) := by
  have l9 : lim 9 = true := rfl
  show (if lim ("abcdefghi" : Str).length then (match L2.atI ("abcdefghi" : Str).cps.toList (k : Int) with
    | some c => some (P.str ⟨#[c]⟩)
    | none => none) else none) = _
  rw [nine_len, if_pos l9, nine]
  have : ([97, 98, 99, 100, 101, 102, 103, 104, 105] : List Nat)[k]? = some (97 + k) := by
    have : ∀ k, k ≤ 8 → ([97, 98, 99, 100, 101, 102, 103, 104, 105] : List Nat)[k]? = some (97 + k) := by decide
    exact this k hk
  rw [atI_nat this]
  rfl
def BsT (bs : List (Int × Int)) : Prop := ∀ p ∈ bs, 0 ≤ p.1 ∧ p.1 ≤ 99 ∧ 0 ≤ p.2 ∧ p.2 ≤ 99
def totQ (x : Rat) (bs : List (Int × Int)) : Rat := sumQ (bs.map fun p => (p.1 : Rat) + (p.2 : Rat) * x)
theorem part_sz {x : Rat} (hx : Sz x 8) {p : Int × Int} (h : 0 ≤ p.1 ∧ p.1 ≤ 99 ∧ 0 ≤ p.2 ∧ p.2 ≤ 99) : Sz (p.1 : Rat) 7 ∧ Sz ((p.2 : Rat) * x) 15 ∧ Sz ((p.1 : Rat) + (p.2 : Rat) * x) 23 := by
  have e : (2 : Nat) ^ 7 = 128 := by decide
  have s1 : Sz (p.1 : Rat) 7 := sz_int (by omega) (by decide)
  have s2 : Sz (p.2 : Rat) 7 := sz_int (by omega) (by decide)
  exact ⟨s1, (s2.mul hx).mono (by decide), (s1.add (s2.mul hx)).mono (by decide)⟩
theorem tot_sz {x : Rat} (hx : Sz x 8) {bs : List (Int × Int)} (h : BsT bs) (h8 : bs.length ≤ 8) : Sz (totQ x bs) 193 := by
  have := sz_sum (l := bs.map fun p => (p.1 : Rat) + (p.2 : Rat) * x) (n := 23) (by
    intro y hy
    obtain ⟨p, hp, rfl⟩ := List.mem_map.mp hy
    exact (part_sz hx (h p hp)).2.2)
  rw [List.length_map] at this
  exact this.mono (by omega)
def behB : Ss := (.cons (.par [9, 10] (.cons (.call f_law_dip (.cons (.v 0) (.cons (.int 100) .nil))) (.cons (.call f_law_dip (.cons (.v 0) (.cons (.int 100) .nil))) .nil))) (.cons (.ex (.lm .append (.v 3) (.cons (.tup (.cons (.ix (.str "abcdefghi") (.v 1)) (.cons (.ix (.str "abcdefghi") (.op .add (.v 1) (.int 1))) (.cons (.v 9) (.cons (.v 10) .nil))))) .nil))) (.cons (.set (.n 4) (.call f_law_plus (.cons (.v 4) (.cons (.call f_law_plus (.cons (.tup (.cons (.v 9) (.cons (.int 1) .nil))) (.cons (.call f_law_lowest (.cons (.op .mul (.v 10) (.v 5)) (.cons (.v 6) .nil))) .nil))) .nil)))) .nil)))
theorem beh_for {n : Nat} (hn : 6 ≤ n) {st : Sto} {j : Nat} {jar : List P} (hj : Jarry jar) (hl : j < st.ls.length) {many : Nat} (hm : many ≤ 8) {x : Rat} (hx : Sz x 8) :
    ∃ (bs : List (Int × Int)) (jar' : List P) (a b c : Option W), bs.length = many ∧ BsT bs ∧ Jarry jar' ∧
    forR (.n 1) (fun δ st => behB.ev (Cn n) δ st) ((List.range many).map ixs) [some (.cel j), none, some (.p (.int (many : Nat))), some (.cel (st.ls.length + 0)), some (.p (fr 0)), some (.p (.int x.num)), some (.p (.int (x.den : Nat))), none, none, none, none] (SS st j jar [⟨[], false⟩]) =
      .nx [some (.cel j), a, some (.p (.int (many : Nat))), some (.cel (st.ls.length + 0)), some (.p (fr (totQ x bs))), some (.p (.int x.num)), some (.p (.int (x.den : Nat))), none, none, b, c] (SS st j jar' [⟨(rowF 0 bs).map rdP, false⟩]) := by
  obtain ⟨δ', st', e, bs, jar', a, b, c, h1, h2, h3, rfl, rfl⟩ := forR_pre (e := ixs) (tg := .n 1) (body := fun δ st => behB.ev (Cn n) δ st) (List.range many)
    (fun done δ st' => ∃ (bs : List (Int × Int)) (jar' : List P) (a b c : Option W), bs.length = done.length ∧ BsT bs ∧ Jarry jar' ∧ δ = [some (.cel j), a, some (.p (.int (many : Nat))), some (.cel (st.ls.length + 0)), some (.p (fr (totQ x bs))), some (.p (.int x.num)), some (.p (.int (x.den : Nat))), none, none, b, c] ∧ SS st j jar' [⟨(rowF 0 bs).map rdP, false⟩] = st')
    (δ := [some (.cel j), none, some (.p (.int (many : Nat))), some (.cel (st.ls.length + 0)), some (.p (fr 0)), some (.p (.int x.num)), some (.p (.int (x.den : Nat))), none, none, none, none]) (st := SS st j jar [⟨[], false⟩]) ⟨[], jar, none, none, none, rfl, (fun p hp => by cases hp), hj, rfl, rfl⟩ (by
    rintro done i rest _ _ hd ⟨bs, jar1, a, b, c, h1, h2, h3, rfl, rfl⟩
    obtain ⟨hi, hdl⟩ := range_split hd
    obtain ⟨_, jar2, hj2, ⟨d1, d10, d11, rfl⟩, e1⟩ := (dip_ok (m := n) (by omega) (wide := 100) (by decide) (by decide)).ss (st := st) (j := j) (cs := [⟨(rowF 0 bs).map rdP, false⟩]) h3 hl
    obtain ⟨_, jar3, hj3, ⟨d2, d20, d21, rfl⟩, e2⟩ := (dip_ok (m := n) (by omega) (wide := 100) (by decide) (by decide)).ss (st := st) (j := j) (cs := [⟨(rowF 0 bs).map rdP, false⟩]) hj2 hl
    have e1 : MG.call n f_law_dip [.cel j, .p (.int 100)] (SS st j jar1 [⟨(rowF 0 bs).map rdP, false⟩]) = _ := e1
    have e2 : MG.call n f_law_dip [.cel j, .p (.int 100)] (SS st j jar2 [⟨(rowF 0 bs).map rdP, false⟩]) = _ := e2
    have hi8 : i ≤ 7 := by omega
    have n1 := nine_ix (k := i) (by omega)
    have n2 := nine_ix (k := i + 1) (by omega)
    have o1 : opP .add (ixs i) (.int 1) = some (ixs (i + 1)) := by
      show some (P.int ((i : Int) + 1)) = _
      congr 2
    have s1 : S.ev (Cn n) (.par [9, 10] (.cons (.call f_law_dip (.cons (.v 0) (.cons (.int 100) .nil))) (.cons (.call f_law_dip (.cons (.v 0) (.cons (.int 100) .nil))) .nil))) [some (.cel j), some (.p (ixs i)), some (.p (.int (many : Nat))), some (.cel (st.ls.length + 0)), some (.p (fr (totQ x bs))), some (.p (.int x.num)), some (.p (.int (x.den : Nat))), none, none, b, c] (SS st j jar1 [⟨(rowF 0 bs).map rdP, false⟩]) =
        .nx [some (.cel j), some (.p (ixs i)), some (.p (.int (many : Nat))), some (.cel (st.ls.length + 0)), some (.p (fr (totQ x bs))), some (.p (.int x.num)), some (.p (.int (x.den : Nat))), none, none, some (.p (.int d1)), some (.p (.int d2))] (SS st j jar3 [⟨(rowF 0 bs).map rdP, false⟩]) := by
      simp only [Ss.ev, S.ev, E.ev, Es.ev, It.ev, bind_ok, bind_exc, bind_no, sr_ok, sr_exc, sr_no, Res.two, Res.one, peek_p, keep_p, keeps, tru_b, cx_call, cx_new, cx_glo, cx_sub, cx_dun, cx_inst, cx_fuel, start, List.map_cons, List.map_nil, List.length_cons, List.length_nil, List.reduceReplicate, List.cons_append, List.nil_append, List.getElem?_cons_zero, List.getElem?_cons_succ, List.set_cons_zero, List.set_cons_succ, Nat.reduceAdd, Nat.reduceSub, Nat.reduceLT, Nat.reduceEqDiff, decide_true, decide_false, notOwn, Bool.and_true, Bool.true_and, Bool.and_false, Bool.false_and, Bool.or_true, Bool.true_or, Bool.or_false, Bool.false_or, Bool.not_true, Bool.not_false, Bool.false_eq_true, if_true, if_false, decide_eq_true_eq, omap_some, omap_none, op_add, op_sub, op_addt, cp_eq, cp_ne, cp_lt, cp_le, cp_gt, cp_ge, cp_isn, cp_notn, cp_inn, cp_nin, itemsP, ofO, Tg.put, Tg.puts, putAll, mkL_t, mkL_f, lim_0, lim_1, lim_2, lim_3, lim_4, lim_5, lim_6, lim_7, lim_8, nxP_nx, okP_ok, putS_eq, biW_int, biW_str, biW_tup, biW_lst, biW_bl, biW_non, biW_scr, biW_cel, biW_two, biG, peeks, biP, biL, int_mod, int_fdiv, List.all_cons, List.all_nil, Int.cast_ofNat_Int, Int.reduceEq, Int.reduceLT, Int.reduceLE, Int.reduceAdd, Int.reduceSub, Int.reduceNeg, eqP_int, nrP_nx, nrP_rt, leave_p, leave_nx, cut_self, e1, e2]
    have s2 := app_ss (C := Cn n) (δ := [some (.cel j), some (.p (ixs i)), some (.p (.int (many : Nat))), some (.cel (st.ls.length + 0)), some (.p (fr (totQ x bs))), some (.p (.int x.num)), some (.p (.int (x.den : Nat))), none, none, some (.p (.int d1)), some (.p (.int d2))]) (st := st) (j := j) (i := 0) (v := 3) (jar := jar3) (jar' := jar3) (xs := (rowF 0 bs).map rdP) (cs := [⟨(rowF 0 bs).map rdP, false⟩]) (cs' := [⟨(rowF 0 bs).map rdP, false⟩]) (e := .tup (.cons (.ix (.str "abcdefghi") (.v 1)) (.cons (.ix (.str "abcdefghi") (.op .add (.v 1) (.int 1))) (.cons (.v 9) (.cons (.v 10) .nil))))) (y := rdP ⟨97 + i, 97 + (i + 1), d1, d2⟩) rfl (by simp) (by
      simp only [Ss.ev, S.ev, E.ev, Es.ev, It.ev, bind_ok, bind_exc, bind_no, sr_ok, sr_exc, sr_no, Res.two, Res.one, peek_p, keep_p, keeps, tru_b, cx_call, cx_new, cx_glo, cx_sub, cx_dun, cx_inst, cx_fuel, start, List.map_cons, List.map_nil, List.length_cons, List.length_nil, List.reduceReplicate, List.cons_append, List.nil_append, List.getElem?_cons_zero, List.getElem?_cons_succ, List.set_cons_zero, List.set_cons_succ, Nat.reduceAdd, Nat.reduceSub, Nat.reduceLT, Nat.reduceEqDiff, decide_true, decide_false, notOwn, Bool.and_true, Bool.true_and, Bool.and_false, Bool.false_and, Bool.or_true, Bool.true_or, Bool.or_false, Bool.false_or, Bool.not_true, Bool.not_false, Bool.false_eq_true, if_true, if_false, decide_eq_true_eq, omap_some, omap_none, op_add, op_sub, op_addt, cp_eq, cp_ne, cp_lt, cp_le, cp_gt, cp_ge, cp_isn, cp_notn, cp_inn, cp_nin, itemsP, ofO, Tg.put, Tg.puts, putAll, mkL_t, mkL_f, lim_0, lim_1, lim_2, lim_3, lim_4, lim_5, lim_6, lim_7, lim_8, nxP_nx, okP_ok, putS_eq, biW_int, biW_str, biW_tup, biW_lst, biW_bl, biW_non, biW_scr, biW_cel, biW_two, biG, peeks, biP, biL, int_mod, int_fdiv, List.all_cons, List.all_nil, Int.cast_ofNat_Int, Int.reduceEq, Int.reduceLT, Int.reduceLE, Int.reduceAdd, Int.reduceSub, Int.reduceNeg, eqP_int, nrP_nx, nrP_rt, leave_p, leave_nx, cut_self, n1, n2, o1]
      rfl) rfl (by rw [List.length_map, rowF_len]; omega)
    obtain ⟨z1, z2, z3⟩ := part_sz hx (p := (d1, d2)) ⟨d10, by omega, d20, by omega⟩
    have tz := tot_sz hx h2 (by omega)
    have l1 := llow_ok (m := n) (by omega) (a := d2 * x.num) (b := x.den) (st := SS st j jar3 [⟨(rowF 0 bs).map rdP ++ [rdP ⟨97 + i, 97 + (i + 1), d1, d2⟩], false⟩]) x.den_pos (Nat.lt_of_lt_of_le hx.den (Nat.pow_le_pow_right (by decide) (by decide)))
    rw [mk_mul] at l1
    have p1 := lplus_ok (m := n) (by omega) (st := SS st j jar3 [⟨(rowF 0 bs).map rdP ++ [rdP ⟨97 + i, 97 + (i + 1), d1, d2⟩], false⟩]) z1 z2 (by decide)
    have p2 := lplus_ok (m := n) (by omega) (st := SS st j jar3 [⟨(rowF 0 bs).map rdP ++ [rdP ⟨97 + i, 97 + (i + 1), d1, d2⟩], false⟩]) tz z3 (by decide)
    have sm : smallI d2 = true := smallI_of (by omega)
    have fi : P.tup [.int d1, .int 1] = fr (d1 : Rat) := rfl
    have s3 : S.ev (Cn n) (.set (.n 4) (.call f_law_plus (.cons (.v 4) (.cons (.call f_law_plus (.cons (.tup (.cons (.v 9) (.cons (.int 1) .nil))) (.cons (.call f_law_lowest (.cons (.op .mul (.v 10) (.v 5)) (.cons (.v 6) .nil))) .nil))) .nil)))) [some (.cel j), some (.p (ixs i)), some (.p (.int (many : Nat))), some (.cel (st.ls.length + 0)), some (.p (fr (totQ x bs))), some (.p (.int x.num)), some (.p (.int (x.den : Nat))), none, none, some (.p (.int d1)), some (.p (.int d2))] (SS st j jar3 [⟨(rowF 0 bs).map rdP ++ [rdP ⟨97 + i, 97 + (i + 1), d1, d2⟩], false⟩]) =
        .nx [some (.cel j), some (.p (ixs i)), some (.p (.int (many : Nat))), some (.cel (st.ls.length + 0)), some (.p (fr (totQ x bs + ((d1 : Rat) + (d2 : Rat) * x)))), some (.p (.int x.num)), some (.p (.int (x.den : Nat))), none, none, some (.p (.int d1)), some (.p (.int d2))] (SS st j jar3 [⟨(rowF 0 bs).map rdP ++ [rdP ⟨97 + i, 97 + (i + 1), d1, d2⟩], false⟩]) := by
      simp only [Ss.ev, S.ev, E.ev, Es.ev, It.ev, bind_ok, bind_exc, bind_no, sr_ok, sr_exc, sr_no, Res.two, Res.one, peek_p, keep_p, keeps, tru_b, cx_call, cx_new, cx_glo, cx_sub, cx_dun, cx_inst, cx_fuel, start, List.map_cons, List.map_nil, List.length_cons, List.length_nil, List.reduceReplicate, List.cons_append, List.nil_append, List.getElem?_cons_zero, List.getElem?_cons_succ, List.set_cons_zero, List.set_cons_succ, Nat.reduceAdd, Nat.reduceSub, Nat.reduceLT, Nat.reduceEqDiff, decide_true, decide_false, notOwn, Bool.and_true, Bool.true_and, Bool.and_false, Bool.false_and, Bool.or_true, Bool.true_or, Bool.or_false, Bool.false_or, Bool.not_true, Bool.not_false, Bool.false_eq_true, if_true, if_false, decide_eq_true_eq, omap_some, omap_none, op_add, op_sub, op_addt, cp_eq, cp_ne, cp_lt, cp_le, cp_gt, cp_ge, cp_isn, cp_notn, cp_inn, cp_nin, itemsP, ofO, Tg.put, Tg.puts, putAll, mkL_t, mkL_f, lim_0, lim_1, lim_2, lim_3, lim_4, lim_5, lim_6, lim_7, lim_8, nxP_nx, okP_ok, putS_eq, biW_int, biW_str, biW_tup, biW_lst, biW_bl, biW_non, biW_scr, biW_cel, biW_two, biG, peeks, biP, biL, int_mod, int_fdiv, List.all_cons, List.all_nil, Int.cast_ofNat_Int, Int.reduceEq, Int.reduceLT, Int.reduceLE, Int.reduceAdd, Int.reduceSub, Int.reduceNeg, eqP_int, nrP_nx, nrP_rt, leave_p, leave_nx, cut_self, int_muls sm, l1, fi, p1, p2]
    show (behB.ev (Cn n) [some (.cel j), some (.p (ixs i)), some (.p (.int (many : Nat))), some (.cel (st.ls.length + 0)), some (.p (fr (totQ x bs))), some (.p (.int x.num)), some (.p (.int (x.den : Nat))), none, none, b, c] (SS st j jar1 [⟨(rowF 0 bs).map rdP, false⟩])).nxP _
    rw [behB, Ss.ev, s1]
    dsimp only
    rw [Ss.ev, s2]
    dsimp only [List.set_cons_zero]
    rw [Ss.ev, s3]
    dsimp only
    rw [Ss.ev]
    refine ⟨bs ++ [(d1, d2)], jar3, some (.p (ixs i)), some (.p (.int d1)), some (.p (.int d2)), by simp [h1], ?_, hj3, ?_, ?_⟩
    · intro p hp
      rcases List.mem_append.mp hp with hp | hp
      · exact h2 p hp
      · simp at hp
        subst hp
        exact ⟨d10, by omega, by omega, by omega⟩
    · have : totQ x (bs ++ [(d1, d2)]) = totQ x bs + ((d1 : Rat) + (d2 : Rat) * x) := by
        unfold totQ
        rw [List.map_append, sumQ_app]
        simp [sumQ, Rat.add_zero]
      rw [this]
    · rw [rowF_app, List.map_append]
      have : i = bs.length := by omega
      subst this
      have e2 : 97 + (0 + bs.length) = 97 + bs.length := by omega
      have e3 : 98 + (0 + bs.length) = 97 + (bs.length + 1) := by omega
      rw [e2, e3]
      rfl)
  exact ⟨bs, jar', a, b, c, by rw [h1, List.length_range], h2, h3, e⟩
theorem behind_ok {m : Nat} (hm : 14 ≤ m) : JF m f_law_behind_right [] fun r => r = .bl true := by
  intro st j jar hj hat
  obtain ⟨n, rfl, hn⟩ := suc_of hm
  have hl := hat.lt
  show ∃ r jar', Jarry jar' ∧ r = P.bl true ∧ MG.call (n + 1) f_law_behind_right [.cel j] st = .ok (.p r) (stp st j jar')
  obtain ⟨_, jar1, hj1, ⟨d1, d10, d11, rfl⟩, e1⟩ := (dip_ok (m := n) (by omega) (wide := 8) (by decide) (by decide)).ss (st := st) (j := j) (cs := []) hj hl
  obtain ⟨_, jar2, hj2, ⟨d2, d20, d21, rfl⟩, e2⟩ := (dip_ok (m := n) (by omega) (wide := 99) (by decide) (by decide)).ss (st := st) (j := j) (cs := [⟨[], false⟩]) hj1 hl
  obtain ⟨_, jar3, hj3, ⟨d3, d30, d31, rfl⟩, e3⟩ := (dip_ok (m := n) (by omega) (wide := 20) (by decide) (by decide)).ss (st := st) (j := j) (cs := [⟨[], false⟩]) hj2 hl
  have e1 : MG.call n f_law_dip [.cel j, .p (.int 8)] _ = _ := e1
  have e2 : MG.call n f_law_dip [.cel j, .p (.int 99)] _ = _ := e2
  have e3 : MG.call n f_law_dip [.cel j, .p (.int 20)] _ = _ := e3
  obtain ⟨many, hmany⟩ : ∃ many : Nat, (1 : Int) + d1 = (many : Nat) := ⟨(1 + d1).toNat, by omega⟩
  have l1 := llow_ok' (m := n) (by omega) (a := 1 + d2) (b := 1 + d3) (st := SS st j jar3 [⟨[], false⟩]) (by omega) (by omega)
  have dp : 0 < (1 + d3).toNat := by omega
  generalize hx : mkRat (1 + d2) (1 + d3).toNat = x at l1
  have x8 : Sz x 8 := by
    rw [← hx]
    have : (2 : Nat) ^ 8 = 256 := by decide
    exact sz_mk dp (by omega) (by omega)
  have xpos : 0 < x := by
    rw [← hx, ← num_pos, Rat.num_mkRat, if_neg (by omega)]
    have g : ((1 + d3).toNat).gcd (1 + d2).natAbs ∣ (1 + d2).natAbs := Nat.gcd_dvd_right _ _
    have gp : 0 < ((1 + d3).toNat).gcd (1 + d2).natAbs := Nat.gcd_pos_of_pos_left _ dp
    exact Int.ediv_pos_of_pos_of_dvd (by omega) (by omega) (Int.ofNat_dvd_left.mpr g)
  obtain ⟨bs, jar4, a, b, c, hb1, hb2, hj4, loop⟩ := beh_for (n := n) (by omega) (st := st) (j := j) hj3 hl (many := many) (by omega) x8
  have hb0 : bs ≠ [] := by
    intro e
    rw [e] at hb1
    simp at hb1
    omega
  have h8 : bs.length ≤ 8 := by omega
  have hbo : BsOk bs := fun p hp => by
    obtain ⟨a, b, c, d⟩ := hb2 p hp
    exact ⟨a, by omega, by omega, by omega⟩
  have fit := row_fit hb0 h8 hbo xpos (x8.mono (by decide))
  have x1 := row_exc (x := x) hb0 h8
  have w0 : List.range bs.length ∈ waysOf 97 (97 + bs.length) (rowF 0 bs) := by
    rw [row_ways hb0 h8]
    simp
  refine ⟨_, jar4, hj4, rfl, ?_⟩
  rw [call_eq fd_law_behind_right rfl rfl]
  rw [show d_law_behind_right.body = b_law_behind_right from rfl, b_law_behind_right]
  rw [show start d_law_behind_right.ns [W.cel j] = [some (.cel j), none, none, none, none, none, none, none, none, none, none] from rfl]
  rw [show (Ss.ev (Cn n) _ [some (W.cel j), none, none, none, none, none, none, none, none, none, none] st) = Ss.ev (Cn n) _ [some (W.cel j), none, none, none, none, none, none, none, none, none, none] (SS st j jar []) by rw [← SS_start hat]]
  have z0 : P.tup [.int 0, .int 1] = fr 0 := rfl
  rw [Ss.ev, show S.ev (Cn n) (.par [2, 3, 4] (.cons (.op .add (.int 1) (.call f_law_dip (.cons (.v 0) (.cons (.int 8) .nil)))) (.cons (.lst true .nil) (.cons (.tup (.cons (.int 0) (.cons (.int 1) .nil))) .nil)))) [some (W.cel j), none, none, none, none, none, none, none, none, none, none] (SS st j jar []) =
      .nx [some (W.cel j), none, some (.p (.int (many : Nat))), some (.cel (st.ls.length + 0)), some (.p (fr 0)), none, none, none, none, none, none] (SS st j jar1 [⟨[], false⟩]) by
    simp only [Ss.ev, S.ev, E.ev, Es.ev, It.ev, bind_ok, bind_exc, bind_no, sr_ok, sr_exc, sr_no, Res.two, Res.one, peek_p, keep_p, keeps, tru_b, cx_call, cx_new, cx_glo, cx_sub, cx_dun, cx_inst, cx_fuel, start, List.map_cons, List.map_nil, List.length_cons, List.length_nil, List.reduceReplicate, List.cons_append, List.nil_append, List.getElem?_cons_zero, List.getElem?_cons_succ, List.set_cons_zero, List.set_cons_succ, Nat.reduceAdd, Nat.reduceSub, Nat.reduceLT, Nat.reduceEqDiff, decide_true, decide_false, notOwn, Bool.and_true, Bool.true_and, Bool.and_false, Bool.false_and, Bool.or_true, Bool.true_or, Bool.or_false, Bool.false_or, Bool.not_true, Bool.not_false, Bool.false_eq_true, if_true, if_false, decide_eq_true_eq, omap_some, omap_none, op_add, op_sub, op_addt, cp_eq, cp_ne, cp_lt, cp_le, cp_gt, cp_ge, cp_isn, cp_notn, cp_inn, cp_nin, itemsP, ofO, Tg.put, Tg.puts, putAll, mkL_t, mkL_f, lim_0, lim_1, lim_2, lim_3, lim_4, lim_5, lim_6, lim_7, lim_8, nxP_nx, okP_ok, putS_eq, biW_int, biW_str, biW_tup, biW_lst, biW_bl, biW_non, biW_scr, biW_cel, biW_two, biG, peeks, biP, biL, int_mod, int_fdiv, List.all_cons, List.all_nil, Int.cast_ofNat_Int, Int.reduceEq, Int.reduceLT, Int.reduceLE, Int.reduceAdd, Int.reduceSub, Int.reduceNeg, eqP_int, nrP_nx, nrP_rt, leave_p, leave_nx, cut_self, e1, hmany, SS_new, z0]]
  dsimp only
  rw [Ss.ev, show S.ev (Cn n) (.set (.t [(.n 5), (.n 6)]) (.call f_law_lowest (.cons (.op .add (.int 1) (.call f_law_dip (.cons (.v 0) (.cons (.int 99) .nil)))) (.cons (.op .add (.int 1) (.call f_law_dip (.cons (.v 0) (.cons (.int 20) .nil)))) .nil)))) [some (W.cel j), none, some (.p (.int (many : Nat))), some (.cel (st.ls.length + 0)), some (.p (fr 0)), none, none, none, none, none, none] (SS st j jar1 [⟨[], false⟩]) =
      .nx [some (W.cel j), none, some (.p (.int (many : Nat))), some (.cel (st.ls.length + 0)), some (.p (fr 0)), some (.p (.int x.num)), some (.p (.int (x.den : Nat))), none, none, none, none] (SS st j jar3 [⟨[], false⟩]) by
    have e : (E.call f_law_lowest (.cons (.op .add (.int 1) (.call f_law_dip (.cons (.v 0) (.cons (.int 99) .nil)))) (.cons (.op .add (.int 1) (.call f_law_dip (.cons (.v 0) (.cons (.int 20) .nil)))) .nil))).ev (Cn n) [some (W.cel j), none, some (.p (.int (many : Nat))), some (.cel (st.ls.length + 0)), some (.p (fr 0)), none, none, none, none, none, none] (SS st j jar1 [⟨[], false⟩]) = .ok (.p (fr x)) (SS st j jar3 [⟨[], false⟩]) := by
      simp only [Ss.ev, S.ev, E.ev, Es.ev, It.ev, bind_ok, bind_exc, bind_no, sr_ok, sr_exc, sr_no, Res.two, Res.one, peek_p, keep_p, keeps, tru_b, cx_call, cx_new, cx_glo, cx_sub, cx_dun, cx_inst, cx_fuel, start, List.map_cons, List.map_nil, List.length_cons, List.length_nil, List.reduceReplicate, List.cons_append, List.nil_append, List.getElem?_cons_zero, List.getElem?_cons_succ, List.set_cons_zero, List.set_cons_succ, Nat.reduceAdd, Nat.reduceSub, Nat.reduceLT, Nat.reduceEqDiff, decide_true, decide_false, notOwn, Bool.and_true, Bool.true_and, Bool.and_false, Bool.false_and, Bool.or_true, Bool.true_or, Bool.or_false, Bool.false_or, Bool.not_true, Bool.not_false, Bool.false_eq_true, if_true, if_false, decide_eq_true_eq, omap_some, omap_none, op_add, op_sub, op_addt, cp_eq, cp_ne, cp_lt, cp_le, cp_gt, cp_ge, cp_isn, cp_notn, cp_inn, cp_nin, itemsP, ofO, Tg.put, Tg.puts, putAll, mkL_t, mkL_f, lim_0, lim_1, lim_2, lim_3, lim_4, lim_5, lim_6, lim_7, lim_8, nxP_nx, okP_ok, putS_eq, biW_int, biW_str, biW_tup, biW_lst, biW_bl, biW_non, biW_scr, biW_cel, biW_two, biG, peeks, biP, biL, int_mod, int_fdiv, List.all_cons, List.all_nil, Int.cast_ofNat_Int, Int.reduceEq, Int.reduceLT, Int.reduceLE, Int.reduceAdd, Int.reduceSub, Int.reduceNeg, eqP_int, nrP_nx, nrP_rt, leave_p, leave_nx, cut_self, e2, e3, l1]
    rw [S.ev, e]
    rfl]
  dsimp only
  rw [Ss.ev, S.ev, show It.ev (Cn n) (.rng1 (.v 2)) [some (W.cel j), none, some (.p (.int (many : Nat))), some (.cel (st.ls.length + 0)), some (.p (fr 0)), some (.p (.int x.num)), some (.p (.int (x.den : Nat))), none, none, none, none] (SS st j jar3 [⟨[], false⟩]) = .ok ((List.range many).map ixs) (SS st j jar3 [⟨[], false⟩]) by
    have rg := rng_nat many (by omega)
    simp only [Ss.ev, S.ev, E.ev, Es.ev, It.ev, bind_ok, bind_exc, bind_no, sr_ok, sr_exc, sr_no, Res.two, Res.one, peek_p, keep_p, keeps, tru_b, cx_call, cx_new, cx_glo, cx_sub, cx_dun, cx_inst, cx_fuel, start, List.map_cons, List.map_nil, List.length_cons, List.length_nil, List.reduceReplicate, List.cons_append, List.nil_append, List.getElem?_cons_zero, List.getElem?_cons_succ, List.set_cons_zero, List.set_cons_succ, Nat.reduceAdd, Nat.reduceSub, Nat.reduceLT, Nat.reduceEqDiff, decide_true, decide_false, notOwn, Bool.and_true, Bool.true_and, Bool.and_false, Bool.false_and, Bool.or_true, Bool.true_or, Bool.or_false, Bool.false_or, Bool.not_true, Bool.not_false, Bool.false_eq_true, if_true, if_false, decide_eq_true_eq, omap_some, omap_none, op_add, op_sub, op_addt, cp_eq, cp_ne, cp_lt, cp_le, cp_gt, cp_ge, cp_isn, cp_notn, cp_inn, cp_nin, itemsP, ofO, Tg.put, Tg.puts, putAll, mkL_t, mkL_f, lim_0, lim_1, lim_2, lim_3, lim_4, lim_5, lim_6, lim_7, lim_8, nxP_nx, okP_ok, putS_eq, biW_int, biW_str, biW_tup, biW_lst, biW_bl, biW_non, biW_scr, biW_cel, biW_two, biG, peeks, biP, biL, int_mod, int_fdiv, List.all_cons, List.all_nil, Int.cast_ofNat_Int, Int.reduceEq, Int.reduceLT, Int.reduceLE, Int.reduceAdd, Int.reduceSub, Int.reduceNeg, eqP_int, nrP_nx, nrP_rt, leave_p, leave_nx, cut_self, rg]
    rfl]
  simp only [sr_ok]
  unfold behB at loop
  rw [loop]
  dsimp only
  subst hb1
  generalize hS : SS st j jar4 [⟨(rowF 0 bs).map rdP, false⟩] = s3
  have pk0 : peek s3 (.cel (st.ls.length + 0)) = some (.lst ((rowF 0 bs).map rdP)) := by rw [← hS]; exact SS_peek rfl
  have nw := web_new (m := n) (by omega) fit.web (st := s3)
  have nw : MG.new n k_Web f_Web____init__ [.p (.str ⟨#[97]⟩), .p (plc (97 + bs.length)), .p (.tup ((rowF 0 bs).map rdP))] s3 = _ := nw
  have nf : (webF 97 (97 + bs.length) (rowF 0 bs)).length = 3 := rfl
  have wp : P.ins k_Web (webF 97 (97 + bs.length) (rowF 0 bs)) = webP 97 (97 + bs.length) (rowF 0 bs) := rfl
  have n1 := nine_ix (k := bs.length) (by omega)
  have n1 : ixP (.str "abcdefghi") (.int (bs.length : Nat)) = some (plc (97 + bs.length)) := n1
  have rt : rgtR false false (.p (.int (bs.length : Nat))) s3 = .ok (.p (wyP (List.range bs.length))) s3 := by
    have rg := rng_nat bs.length (by omega)
    have lm : lim ((List.range bs.length).map fun k => P.int (k : Nat)).length = true := lim_of (by simp; omega)
    unfold rgtR
    simp only [rg, lm, if_true, Bool.false_eq_true, if_false]
    rfl
  rw [Ss.ev, show S.ev (Cn n) (.par [7, 8] (.cons (.new k_Web f_Web____init__ 3 (.cons (.str "a") (.cons (.ix (.str "abcdefghi") (.v 2)) (.cons (.bi .tuple false (.cons (.v 3) .nil)) .nil)))) (.cons (.rgt false false (.v 2)) .nil))) [some (W.cel j), a, some (.p (.int (bs.length : Nat))), some (.cel (st.ls.length + 0)), some (.p (fr (totQ x bs))), some (.p (.int x.num)), some (.p (.int (x.den : Nat))), none, none, b, c] s3 =
      .nx [some (W.cel j), a, some (.p (.int (bs.length : Nat))), some (.cel (st.ls.length + 0)), some (.p (fr (totQ x bs))), some (.p (.int x.num)), some (.p (.int (x.den : Nat))), some (.p (webP 97 (97 + bs.length) (rowF 0 bs))), some (.p (wyP (List.range bs.length))), b, c] s3 by
    simp only [Ss.ev, S.ev, E.ev, Es.ev, It.ev, bind_ok, bind_exc, bind_no, sr_ok, sr_exc, sr_no, Res.two, Res.one, peek_p, keep_p, keeps, tru_b, cx_call, cx_new, cx_glo, cx_sub, cx_dun, cx_inst, cx_fuel, start, List.map_cons, List.map_nil, List.length_cons, List.length_nil, List.reduceReplicate, List.cons_append, List.nil_append, List.getElem?_cons_zero, List.getElem?_cons_succ, List.set_cons_zero, List.set_cons_succ, Nat.reduceAdd, Nat.reduceSub, Nat.reduceLT, Nat.reduceEqDiff, decide_true, decide_false, notOwn, Bool.and_true, Bool.true_and, Bool.and_false, Bool.false_and, Bool.or_true, Bool.true_or, Bool.or_false, Bool.false_or, Bool.not_true, Bool.not_false, Bool.false_eq_true, if_true, if_false, decide_eq_true_eq, omap_some, omap_none, op_add, op_sub, op_addt, cp_eq, cp_ne, cp_lt, cp_le, cp_gt, cp_ge, cp_isn, cp_notn, cp_inn, cp_nin, itemsP, ofO, Tg.put, Tg.puts, putAll, mkL_t, mkL_f, lim_0, lim_1, lim_2, lim_3, lim_4, lim_5, lim_6, lim_7, lim_8, nxP_nx, okP_ok, putS_eq, biW_int, biW_str, biW_tup, biW_lst, biW_bl, biW_non, biW_scr, biW_cel, biW_two, biG, peeks, biP, biL, int_mod, int_fdiv, List.all_cons, List.all_nil, Int.cast_ofNat_Int, Int.reduceEq, Int.reduceLT, Int.reduceLE, Int.reduceAdd, Int.reduceSub, Int.reduceNeg, eqP_int, nrP_nx, nrP_rt, leave_p, leave_nx, cut_self, s_a, n1, pk0, nw, nf, beq_self_eq_true, wp, rt]]
  dsimp only
  have st1 := is_steady_ok (m := n) (by omega) fit (st := s3)
  rw [x1] at st1
  have st1 : MG.call n f_is_steady [.p (webP 97 (97 + bs.length) (rowF 0 bs)), .p (.tup [.tup [wyP (List.range bs.length), .int x.num, .int (x.den : Nat)]])] s3 = .ok (.p (.bl true)) s3 := by
    rw [show P.tup [.tup [wyP (List.range bs.length), .int x.num, .int (x.den : Nat)]] = ldsP [(List.range bs.length, x)] from rfl, st1]
    rfl
  have wc1 := way_cost_ok (m := n) (by omega) fit w0 (st := s3)
  rw [row_wc] at wc1
  have wc1 : MG.call n f_way_cost [.p (webP 97 (97 + bs.length) (rowF 0 bs)), .p (.tup [.tup [wyP (List.range bs.length), .int x.num, .int (x.den : Nat)]]), .p (wyP (List.range bs.length))] s3 = .ok (.p (fr (totQ x bs))) s3 := wc1
  have eqL : eqP (fr (totQ x bs)) (fr (totQ x bs)) = some true := by rw [eqP_fr]; simp
  simp only [Ss.ev, S.ev, E.ev, Es.ev, It.ev, bind_ok, bind_exc, bind_no, sr_ok, sr_exc, sr_no, Res.two, Res.one, peek_p, keep_p, keeps, tru_b, cx_call, cx_new, cx_glo, cx_sub, cx_dun, cx_inst, cx_fuel, start, List.map_cons, List.map_nil, List.length_cons, List.length_nil, List.reduceReplicate, List.cons_append, List.nil_append, List.getElem?_cons_zero, List.getElem?_cons_succ, List.set_cons_zero, List.set_cons_succ, Nat.reduceAdd, Nat.reduceSub, Nat.reduceLT, Nat.reduceEqDiff, decide_true, decide_false, notOwn, Bool.and_true, Bool.true_and, Bool.and_false, Bool.false_and, Bool.or_true, Bool.true_or, Bool.or_false, Bool.false_or, Bool.not_true, Bool.not_false, Bool.false_eq_true, if_true, if_false, decide_eq_true_eq, omap_some, omap_none, op_add, op_sub, op_addt, cp_eq, cp_ne, cp_lt, cp_le, cp_gt, cp_ge, cp_isn, cp_notn, cp_inn, cp_nin, itemsP, ofO, Tg.put, Tg.puts, putAll, mkL_t, mkL_f, lim_0, lim_1, lim_2, lim_3, lim_4, lim_5, lim_6, lim_7, lim_8, nxP_nx, okP_ok, putS_eq, biW_int, biW_str, biW_tup, biW_lst, biW_bl, biW_non, biW_scr, biW_cel, biW_two, biG, peeks, biP, biL, int_mod, int_fdiv, List.all_cons, List.all_nil, Int.cast_ofNat_Int, Int.reduceEq, Int.reduceLT, Int.reduceLE, Int.reduceAdd, Int.reduceSub, Int.reduceNeg, eqP_int, nrP_nx, nrP_rt, leave_p, leave_nx, cut_self, st1, wc1, eqL]
  rw [← hS, SS_cut]
end Z.U

namespace Z.U
open PySem

theorem right_ok {n : Nat} (hn : 14 ≤ n) : Right (n + 1) f_law_right := by
  intro st j jar hj hat
  have hl := hat.lt
  have hs := SS_start hat
  obtain ⟨_, jar1, hj1, rfl, e1⟩ := (beside_ok (m := n) (by omega)).ss (st := st) (j := j) (cs := []) hj hl
  obtain ⟨_, jar2, hj2, rfl, e2⟩ := (behind_ok (m := n) (by omega)).ss (st := st) (j := j) (cs := []) hj1 hl
  obtain ⟨_, jar3, hj3, ⟨d, d0, d1, rfl⟩, e3⟩ := (dip_ok (m := n) (by omega) (wide := 1000) (by decide) (by decide)).ss (st := st) (j := j) (cs := []) hj2 hl
  have e1 : MG.call n f_law_beside_right [.cel j] (SS st j jar []) = _ := e1
  have e2 : MG.call n f_law_behind_right [.cel j] (SS st j jar1 []) = _ := e2
  have e3 : MG.call n f_law_dip [.cel j, .p (.int 1000)] (SS st j jar2 []) = _ := e3
  generalize hb : 1 + d = b at *
  have b1 : 1 ≤ b := by omega
  have b2 : b ≤ 1000 := by omega
  generalize hS : SS st j jar3 [] = s3 at *
  have m10 : opP .mul (.int 10) (.int b) = some (.int (10 * b)) := int_muls rfl
  have m50 : opP .mul (.int 50) (.int b) = some (.int (50 * b)) := int_muls rfl
  have m116 : opP .mul (.int 116) (.int b) = some (.int (116 * b)) := int_muls rfl
  have m13 : opP .mul (.int 13) (.int b) = some (.int (13 * b)) := int_muls rfl
  have m70 : opP .mul (.int 70) (.int b) = some (.int (70 * b)) := int_muls rfl
  have fe := even_fit b1 b2
  have ft := two_fit b1 b2
  have fh := thr_fit b1 b2
  have ff := fou_fit b1 b2
  obtain ⟨xe, we⟩ := even_exc b1
  obtain ⟨xt, wt⟩ := two_exc b1
  have xh := thr_exc b1
  have xf := fou_exc b1
  have nz : ∀ k : Rat, 0 < k → ¬ (k * (b : Rat) = 0) := fun k hk e => by
    have hb := pos_of b1
    have := Rat.mul_pos hk hb
    grind
  have nw : MG.new n k_Web f_Web____init__ [.p (plc 97), .p (plc 100), .p (rdsP (crossR b))] s3 = .ok (webF 97 100 (crossR b)) s3 := web_new (m := n) (by omega) fe.web
  have nw : MG.new n k_Web f_Web____init__ [.p (.str ⟨#[97]⟩), .p (.str ⟨#[100]⟩), .p (.tup [.tup [.str ⟨#[97]⟩, .str ⟨#[98]⟩, .int 0, .int (10 * b)], .tup [.str ⟨#[97]⟩, .str ⟨#[99]⟩, .int (50 * b), .int b], .tup [.str ⟨#[98]⟩, .str ⟨#[99]⟩, .int (10 * b), .int b], .tup [.str ⟨#[98]⟩, .str ⟨#[100]⟩, .int (50 * b), .int b], .tup [.str ⟨#[99]⟩, .str ⟨#[100]⟩, .int 0, .int (10 * b)]])] s3 = _ := nw
  have nf : (webF 97 100 (crossR b)).length = 3 := rfl
  have wp : P.ins k_Web (webF 97 100 (crossR b)) = webP 97 100 (crossR b) := rfl
  have s1 := is_steady_ok (m := n) (by omega) fe (st := s3)
  rw [xe] at s1
  have s1 : MG.call n f_is_steady [.p (webP 97 100 (crossR b)), .p (.tup [.tup [.tup [.int 0, .int 2, .int 4], .int 2, .int 1], .tup [.tup [.int 0, .int 3], .int 2, .int 1], .tup [.tup [.int 1, .int 4], .int 2, .int 1]])] s3 = .ok (.p (.bl true)) s3 := s1
  have c1 := way_cost_ok (m := n) (by omega) fe (w := [1, 2, 3]) (by rw [cross_ways]; simp) (st := s3)
  rw [we] at c1
  have c1 : MG.call n f_way_cost [.p (webP 97 100 (crossR b)), .p (.tup [.tup [.tup [.int 0, .int 2, .int 4], .int 2, .int 1], .tup [.tup [.int 0, .int 3], .int 2, .int 1], .tup [.tup [.int 1, .int 4], .int 2, .int 1]]), .p (.tup [.int 1, .int 2, .int 3])] s3 = .ok (.p (fr (116 * (b : Rat)))) s3 := c1
  have s2 := is_steady_ok (m := n) (by omega) ft (st := s3)
  rw [xt, decide_eq_false (nz 13 (by decide))] at s2
  have s2 : MG.call n f_is_steady [.p (webP 97 100 (crossR b)), .p (.tup [.tup [.tup [.int 0, .int 3], .int 3, .int 1], .tup [.tup [.int 1, .int 4], .int 3, .int 1]])] s3 = .ok (.p (.bl false)) s3 := s2
  have x2 := excess_ok (m := n) (by omega) ft (st := s3)
  rw [xt] at x2
  have x2 : MG.call n f_excess [.p (webP 97 100 (crossR b)), .p (.tup [.tup [.tup [.int 0, .int 3], .int 3, .int 1], .tup [.tup [.int 1, .int 4], .int 3, .int 1]])] s3 = .ok (.p (fr (13 * (b : Rat)))) s3 := x2
  have c2 := way_cost_ok (m := n) (by omega) ft (w := [0, 2, 4]) (by rw [cross_ways]; simp) (st := s3)
  rw [wt] at c2
  have c2 : MG.call n f_way_cost [.p (webP 97 100 (crossR b)), .p (.tup [.tup [.tup [.int 0, .int 3], .int 3, .int 1], .tup [.tup [.int 1, .int 4], .int 3, .int 1]]), .p (.tup [.int 0, .int 2, .int 4])] s3 = .ok (.p (fr (70 * (b : Rat)))) s3 := c2
  have cl := closed_ok (m := n) (by omega) fe.web (ix := [2]) (by decide) (by intro i hi; simp at hi; subst hi; show 2 < 5; decide) (by simp) (fun w hw => by
    have := way_len fe.web.ne hw
    have := fe.web.r8
    omega) (by rw [cross_ways, shut_kept]; simp) (by rw [shut_left]; exact fh.web) (st := s3)
  rw [shut_left] at cl
  have cl : MG.call n f_Web__closed [.p (webP 97 100 (crossR b)), .p (.tup [.int 2])] s3 = .ok (.p (webP 97 100 (shutR b))) s3 := cl
  have s3h := is_steady_ok (m := n) (by omega) fh (st := s3)
  rw [xh] at s3h
  have s3h : MG.call n f_is_steady [.p (webP 97 100 (shutR b)), .p (.tup [.tup [.tup [.int 0, .int 2], .int 3, .int 1], .tup [.tup [.int 1, .int 3], .int 3, .int 1]])] s3 = .ok (.p (.bl true)) s3 := s3h
  have s4 := is_steady_ok (m := n) (by omega) ff (st := s3)
  rw [xf, decide_eq_false (nz 22 (by decide))] at s4
  have s4 : MG.call n f_is_steady [.p (webP 97 100 (shutR b)), .p (.tup [.tup [.tup [.int 0, .int 2], .int 4, .int 1], .tup [.tup [.int 1, .int 3], .int 2, .int 1]])] s3 = .ok (.p (.bl false)) s3 := s4
  have f1 : ∀ k : Int, fr ((k : Rat) * (b : Rat)) = .tup [.int (k * b), .int 1] := fun k => by
    rw [← cast_mul]
    rfl
  have g116 : fr (116 * (b : Rat)) = .tup [.int (116 * b), .int 1] := f1 116
  have g13 : fr (13 * (b : Rat)) = .tup [.int (13 * b), .int 1] := f1 13
  have g70 : fr (70 * (b : Rat)) = .tup [.int (70 * b), .int 1] := f1 70
  have eqs : ∀ k : Int, eqP (.tup [.int (k * b), .int 1]) (.tup [.int (k * b), .int 1]) = some true := fun k => eqP_same (n := 1) rfl
  refine ⟨(SS st j jar3 []).cut st.ls.length, ?_⟩
  rw [call_eq fd_law_right rfl rfl]
  rw [show d_law_right.body = b_law_right from rfl, b_law_right]
  rw [show start d_law_right.ns [W.cel j] = [some (.cel j), none, none, none, none, none, none] from rfl]
  rw [show (Ss.ev (Cn n) _ [some (W.cel j), none, none, none, none, none, none] st) = Ss.ev (Cn n) _ [some (W.cel j), none, none, none, none, none, none] (SS st j jar []) by rw [← hs]]
  rw [Ss.ev, show S.ev (Cn n) (.ife (.or (.not (.call f_law_beside_right (.cons (.v 0) .nil))) (.not (.call f_law_behind_right (.cons (.v 0) .nil)))) (.cons (.ret (.bl false)) .nil) .nil) [some (W.cel j), none, none, none, none, none, none] (SS st j jar []) = .nx [some (W.cel j), none, none, none, none, none, none] (SS st j jar2 []) by
    simp only [Ss.ev, S.ev, E.ev, Es.ev, It.ev, bind_ok, bind_exc, bind_no, sr_ok, sr_exc, sr_no, Res.two, Res.one, peek_p, keep_p, keeps, tru_b, cx_call, cx_new, cx_glo, cx_sub, cx_dun, cx_inst, cx_fuel, start, List.map_cons, List.map_nil, List.length_cons, List.length_nil, List.reduceReplicate, List.cons_append, List.nil_append, List.getElem?_cons_zero, List.getElem?_cons_succ, List.set_cons_zero, List.set_cons_succ, Nat.reduceAdd, Nat.reduceSub, Nat.reduceLT, Nat.reduceEqDiff, decide_true, decide_false, notOwn, Bool.and_true, Bool.true_and, Bool.and_false, Bool.false_and, Bool.or_true, Bool.true_or, Bool.or_false, Bool.false_or, Bool.not_true, Bool.not_false, Bool.false_eq_true, if_true, if_false, decide_eq_true_eq, omap_some, omap_none, op_add, op_sub, op_addt, cp_eq, cp_ne, cp_lt, cp_le, cp_gt, cp_ge, cp_isn, cp_notn, cp_inn, cp_nin, itemsP, ofO, Tg.put, Tg.puts, putAll, mkL_t, mkL_f, lim_0, lim_1, lim_2, lim_3, lim_4, lim_5, lim_6, lim_7, lim_8, nxP_nx, okP_ok, putS_eq, biW_int, biW_str, biW_tup, biW_lst, biW_bl, biW_non, biW_scr, biW_cel, biW_two, biG, peeks, biP, biL, int_mod, int_fdiv, List.all_cons, List.all_nil, Int.cast_ofNat_Int, Int.reduceEq, Int.reduceLT, Int.reduceLE, Int.reduceAdd, Int.reduceSub, Int.reduceNeg, eqP_int, nrP_nx, nrP_rt, leave_p, leave_nx, cut_self, e1, e2]]
  dsimp only
  rw [Ss.ev, show S.ev (Cn n) (.set (.n 1) (.op .add (.int 1) (.call f_law_dip (.cons (.v 0) (.cons (.int 1000) .nil))))) [some (W.cel j), none, none, none, none, none, none] (SS st j jar2 []) = .nx [some (W.cel j), some (.p (.int b)), none, none, none, none, none] s3 by
    simp only [Ss.ev, S.ev, E.ev, Es.ev, It.ev, bind_ok, bind_exc, bind_no, sr_ok, sr_exc, sr_no, Res.two, Res.one, peek_p, keep_p, keeps, tru_b, cx_call, cx_new, cx_glo, cx_sub, cx_dun, cx_inst, cx_fuel, start, List.map_cons, List.map_nil, List.length_cons, List.length_nil, List.reduceReplicate, List.cons_append, List.nil_append, List.getElem?_cons_zero, List.getElem?_cons_succ, List.set_cons_zero, List.set_cons_succ, Nat.reduceAdd, Nat.reduceSub, Nat.reduceLT, Nat.reduceEqDiff, decide_true, decide_false, notOwn, Bool.and_true, Bool.true_and, Bool.and_false, Bool.false_and, Bool.or_true, Bool.true_or, Bool.or_false, Bool.false_or, Bool.not_true, Bool.not_false, Bool.false_eq_true, if_true, if_false, decide_eq_true_eq, omap_some, omap_none, op_add, op_sub, op_addt, cp_eq, cp_ne, cp_lt, cp_le, cp_gt, cp_ge, cp_isn, cp_notn, cp_inn, cp_nin, itemsP, ofO, Tg.put, Tg.puts, putAll, mkL_t, mkL_f, lim_0, lim_1, lim_2, lim_3, lim_4, lim_5, lim_6, lim_7, lim_8, nxP_nx, okP_ok, putS_eq, biW_int, biW_str, biW_tup, biW_lst, biW_bl, biW_non, biW_scr, biW_cel, biW_two, biG, peeks, biP, biL, int_mod, int_fdiv, List.all_cons, List.all_nil, Int.cast_ofNat_Int, Int.reduceEq, Int.reduceLT, Int.reduceLE, Int.reduceAdd, Int.reduceSub, Int.reduceNeg, eqP_int, nrP_nx, nrP_rt, leave_p, leave_nx, cut_self, e3, hb]]
  dsimp only
  rw [Ss.ev]
  rw [show ∀ e, S.ev (Cn n) (.set (.n 2) e) [some (W.cel j), some (.p (.int b)), none, none, none, none, none] s3 = (e.ev (Cn n) [some (W.cel j), some (.p (.int b)), none, none, none, none, none] s3).sr [some (W.cel j), some (.p (.int b)), none, none, none, none, none] fun w st => if 2 < 7 && notOwn w then .nx (List.set [some (W.cel j), some (.p (.int b)), none, none, none, none, none] 2 (some w)) st else .no from fun e => by rw [S.ev]; rfl]
  simp only [Ss.ev, S.ev, E.ev, Es.ev, It.ev, bind_ok, bind_exc, bind_no, sr_ok, sr_exc, sr_no, Res.two, Res.one, peek_p, keep_p, keeps, tru_b, cx_call, cx_new, cx_glo, cx_sub, cx_dun, cx_inst, cx_fuel, start, List.map_cons, List.map_nil, List.length_cons, List.length_nil, List.reduceReplicate, List.cons_append, List.nil_append, List.getElem?_cons_zero, List.getElem?_cons_succ, List.set_cons_zero, List.set_cons_succ, Nat.reduceAdd, Nat.reduceSub, Nat.reduceLT, Nat.reduceEqDiff, decide_true, decide_false, notOwn, Bool.and_true, Bool.true_and, Bool.and_false, Bool.false_and, Bool.or_true, Bool.true_or, Bool.or_false, Bool.false_or, Bool.not_true, Bool.not_false, Bool.false_eq_true, if_true, if_false, decide_eq_true_eq, omap_some, omap_none, op_add, op_sub, op_addt, cp_eq, cp_ne, cp_lt, cp_le, cp_gt, cp_ge, cp_isn, cp_notn, cp_inn, cp_nin, itemsP, ofO, Tg.put, Tg.puts, putAll, mkL_t, mkL_f, lim_0, lim_1, lim_2, lim_3, lim_4, lim_5, lim_6, lim_7, lim_8, nxP_nx, okP_ok, putS_eq, biW_int, biW_str, biW_tup, biW_lst, biW_bl, biW_non, biW_scr, biW_cel, biW_two, biG, peeks, biP, biL, int_mod, int_fdiv, List.all_cons, List.all_nil, Int.cast_ofNat_Int, Int.reduceEq, Int.reduceLT, Int.reduceLE, Int.reduceAdd, Int.reduceSub, Int.reduceNeg, eqP_int, nrP_nx, nrP_rt, leave_p, leave_nx, cut_self, s_a, s_b, s_c, s_d, m10, m50]
  have oa : opP .add (.tup [.tup [.str ⟨#[97]⟩, .str ⟨#[98]⟩, .int 0, .int (10 * b)], .tup [.str ⟨#[97]⟩, .str ⟨#[99]⟩, .int (50 * b), .int b], .tup [.str ⟨#[98]⟩, .str ⟨#[99]⟩, .int (10 * b), .int b], .tup [.str ⟨#[98]⟩, .str ⟨#[100]⟩, .int (50 * b), .int b]]) (.tup [.tup [.str ⟨#[99]⟩, .str ⟨#[100]⟩, .int 0, .int (10 * b)]]) = some (.tup [.tup [.str ⟨#[97]⟩, .str ⟨#[98]⟩, .int 0, .int (10 * b)], .tup [.str ⟨#[97]⟩, .str ⟨#[99]⟩, .int (50 * b), .int b], .tup [.str ⟨#[98]⟩, .str ⟨#[99]⟩, .int (10 * b), .int b], .tup [.str ⟨#[98]⟩, .str ⟨#[100]⟩, .int (50 * b), .int b], .tup [.str ⟨#[99]⟩, .str ⟨#[100]⟩, .int 0, .int (10 * b)]]) := rfl
  simp only [oa, nw, nf, wp, s1, c1, s2, x2, c2, g116, g13, g70, m116, m13, m70, eqs, beq_self_eq_true, Ss.ev, S.ev, E.ev, Es.ev, It.ev, bind_ok, bind_exc, bind_no, sr_ok, sr_exc, sr_no, Res.two, Res.one, peek_p, keep_p, keeps, tru_b, cx_call, cx_new, cx_glo, cx_sub, cx_dun, cx_inst, cx_fuel, start, List.map_cons, List.map_nil, List.length_cons, List.length_nil, List.reduceReplicate, List.cons_append, List.nil_append, List.getElem?_cons_zero, List.getElem?_cons_succ, List.set_cons_zero, List.set_cons_succ, Nat.reduceAdd, Nat.reduceSub, Nat.reduceLT, Nat.reduceEqDiff, decide_true, decide_false, notOwn, Bool.and_true, Bool.true_and, Bool.and_false, Bool.false_and, Bool.or_true, Bool.true_or, Bool.or_false, Bool.false_or, Bool.not_true, Bool.not_false, Bool.false_eq_true, if_true, if_false, decide_eq_true_eq, omap_some, omap_none, op_add, op_sub, op_addt, cp_eq, cp_ne, cp_lt, cp_le, cp_gt, cp_ge, cp_isn, cp_notn, cp_inn, cp_nin, itemsP, ofO, Tg.put, Tg.puts, putAll, mkL_t, mkL_f, lim_0, lim_1, lim_2, lim_3, lim_4, lim_5, lim_6, lim_7, lim_8, nxP_nx, okP_ok, putS_eq, biW_int, biW_str, biW_tup, biW_lst, biW_bl, biW_non, biW_scr, biW_cel, biW_two, biG, peeks, biP, biL, int_mod, int_fdiv, List.all_cons, List.all_nil, Int.cast_ofNat_Int, Int.reduceEq, Int.reduceLT, Int.reduceLE, Int.reduceAdd, Int.reduceSub, Int.reduceNeg, eqP_int, nrP_nx, nrP_rt, leave_p, leave_nx, cut_self]
  have wq : webP 97 100 (crossR b) = P.ins k_Web (webF 97 100 (crossR b)) := rfl
  rw [wq] at cl ⊢
  simp only [beq_self_eq_true, cl, s3h, s4, Ss.ev, S.ev, E.ev, Es.ev, It.ev, bind_ok, bind_exc, bind_no, sr_ok, sr_exc, sr_no, Res.two, Res.one, peek_p, keep_p, keeps, tru_b, cx_call, cx_new, cx_glo, cx_sub, cx_dun, cx_inst, cx_fuel, start, List.map_cons, List.map_nil, List.length_cons, List.length_nil, List.reduceReplicate, List.cons_append, List.nil_append, List.getElem?_cons_zero, List.getElem?_cons_succ, List.set_cons_zero, List.set_cons_succ, Nat.reduceAdd, Nat.reduceSub, Nat.reduceLT, Nat.reduceEqDiff, decide_true, decide_false, notOwn, Bool.and_true, Bool.true_and, Bool.and_false, Bool.false_and, Bool.or_true, Bool.true_or, Bool.or_false, Bool.false_or, Bool.not_true, Bool.not_false, Bool.false_eq_true, if_true, if_false, decide_eq_true_eq, omap_some, omap_none, op_add, op_sub, op_addt, cp_eq, cp_ne, cp_lt, cp_le, cp_gt, cp_ge, cp_isn, cp_notn, cp_inn, cp_nin, itemsP, ofO, Tg.put, Tg.puts, putAll, mkL_t, mkL_f, lim_0, lim_1, lim_2, lim_3, lim_4, lim_5, lim_6, lim_7, lim_8, nxP_nx, okP_ok, putS_eq, biW_int, biW_str, biW_tup, biW_lst, biW_bl, biW_non, biW_scr, biW_cel, biW_two, biG, peeks, biP, biL, int_mod, int_fdiv, List.all_cons, List.all_nil, Int.cast_ofNat_Int, Int.reduceEq, Int.reduceLT, Int.reduceLE, Int.reduceAdd, Int.reduceSub, Int.reduceNeg, eqP_int, nrP_nx, nrP_rt, leave_p, leave_nx, cut_self]
  rw [← hS]
theorem law_ok : ∀ ns : List Int, ns.length ≤ 63 → (∀ i ∈ ns, Builtin.Int.intBits i ≤ 1048576) → ∃ st', L0.G.call 20 f_law [.p (scriptP ns)] ⟨[], []⟩ = .ok (.p (.bl true)) st' := fun ns _ _ => law_loop (n := 18) (f := f_law) (fr := f_law_right) (m := 4) (by decide) (by decide) rfl (right_ok (by decide))
end Z.U

namespace LW
open PySem PySem.Spec PyProof.Rows L2 Z
theorem bd_is_integer (kV doc pm : Value) (an : Option Addr) (cdv ct : Value) (us : List Value) (hl : us.length = r_is_integer.ps.length) : bindArgs (PySem.W.fnOf r_is_integer.name r_is_integer.qual (defArgs r_is_integer.st) (defBody r_is_integer.st) (defScope r_is_integer.st) .none kV doc pm an cdv ct) ⟨us, []⟩ = pure (r_is_integer.ps.zip us) := by
  match us, hl with
  | [_], _ => kernel_rfl
theorem bd_is_within (kV doc pm : Value) (an : Option Addr) (cdv ct : Value) (us : List Value) (hl : us.length = r_is_within.ps.length) : bindArgs (PySem.W.fnOf r_is_within.name r_is_within.qual (defArgs r_is_within.st) (defBody r_is_within.st) (defScope r_is_within.st) .none kV doc pm an cdv ct) ⟨us, []⟩ = pure (r_is_within.ps.zip us) := by
  match us, hl with
  | [_, _, _], _ => kernel_rfl
theorem bd_common (kV doc pm : Value) (an : Option Addr) (cdv ct : Value) (us : List Value) (hl : us.length = r_common.ps.length) : bindArgs (PySem.W.fnOf r_common.name r_common.qual (defArgs r_common.st) (defBody r_common.st) (defScope r_common.st) .none kV doc pm an cdv ct) ⟨us, []⟩ = pure (r_common.ps.zip us) := by
  match us, hl with
  | [_, _], _ => kernel_rfl
theorem bd_lowest (kV doc pm : Value) (an : Option Addr) (cdv ct : Value) (us : List Value) (hl : us.length = r_lowest.ps.length) : bindArgs (PySem.W.fnOf r_lowest.name r_lowest.qual (defArgs r_lowest.st) (defBody r_lowest.st) (defScope r_lowest.st) .none kV doc pm an cdv ct) ⟨us, []⟩ = pure (r_lowest.ps.zip us) := by
  match us, hl with
  | [_, _], _ => kernel_rfl
theorem bd_are_fraction (kV doc pm : Value) (an : Option Addr) (cdv ct : Value) (us : List Value) (hl : us.length = r_are_fraction.ps.length) : bindArgs (PySem.W.fnOf r_are_fraction.name r_are_fraction.qual (defArgs r_are_fraction.st) (defBody r_are_fraction.st) (defScope r_are_fraction.st) .none kV doc pm an cdv ct) ⟨us, []⟩ = pure (r_are_fraction.ps.zip us) := by
  match us, hl with
  | [_, _], _ => kernel_rfl
theorem bd_plus (kV doc pm : Value) (an : Option Addr) (cdv ct : Value) (us : List Value) (hl : us.length = r_plus.ps.length) : bindArgs (PySem.W.fnOf r_plus.name r_plus.qual (defArgs r_plus.st) (defBody r_plus.st) (defScope r_plus.st) .none kV doc pm an cdv ct) ⟨us, []⟩ = pure (r_plus.ps.zip us) := by
  match us, hl with
  | [_, _], _ => kernel_rfl
theorem bd_less (kV doc pm : Value) (an : Option Addr) (cdv ct : Value) (us : List Value) (hl : us.length = r_less.ps.length) : bindArgs (PySem.W.fnOf r_less.name r_less.qual (defArgs r_less.st) (defBody r_less.st) (defScope r_less.st) .none kV doc pm an cdv ct) ⟨us, []⟩ = pure (r_less.ps.zip us) := by
  match us, hl with
  | [_, _], _ => kernel_rfl
theorem bd_is_below (kV doc pm : Value) (an : Option Addr) (cdv ct : Value) (us : List Value) (hl : us.length = r_is_below.ps.length) : bindArgs (PySem.W.fnOf r_is_below.name r_is_below.qual (defArgs r_is_below.st) (defBody r_is_below.st) (defScope r_is_below.st) .none kV doc pm an cdv ct) ⟨us, []⟩ = pure (r_is_below.ps.zip us) := by
  match us, hl with
  | [_, _], _ => kernel_rfl
theorem bd_sum_of (kV doc pm : Value) (an : Option Addr) (cdv ct : Value) (us : List Value) (hl : us.length = r_sum_of.ps.length) : bindArgs (PySem.W.fnOf r_sum_of.name r_sum_of.qual (defArgs r_sum_of.st) (defBody r_sum_of.st) (defScope r_sum_of.st) .none kV doc pm an cdv ct) ⟨us, []⟩ = pure (r_sum_of.ps.zip us) := by
  match us, hl with
  | [_], _ => kernel_rfl
theorem bd_greatest_of (kV doc pm : Value) (an : Option Addr) (cdv ct : Value) (us : List Value) (hl : us.length = r_greatest_of.ps.length) : bindArgs (PySem.W.fnOf r_greatest_of.name r_greatest_of.qual (defArgs r_greatest_of.st) (defBody r_greatest_of.st) (defScope r_greatest_of.st) .none kV doc pm an cdv ct) ⟨us, []⟩ = pure (r_greatest_of.ps.zip us) := by
  match us, hl with
  | [_], _ => kernel_rfl
theorem bd_least_of (kV doc pm : Value) (an : Option Addr) (cdv ct : Value) (us : List Value) (hl : us.length = r_least_of.ps.length) : bindArgs (PySem.W.fnOf r_least_of.name r_least_of.qual (defArgs r_least_of.st) (defBody r_least_of.st) (defScope r_least_of.st) .none kV doc pm an cdv ct) ⟨us, []⟩ = pure (r_least_of.ps.zip us) := by
  match us, hl with
  | [_], _ => kernel_rfl
theorem bd_is_place (kV doc pm : Value) (an : Option Addr) (cdv ct : Value) (us : List Value) (hl : us.length = r_is_place.ps.length) : bindArgs (PySem.W.fnOf r_is_place.name r_is_place.qual (defArgs r_is_place.st) (defBody r_is_place.st) (defScope r_is_place.st) .none kV doc pm an cdv ct) ⟨us, []⟩ = pure (r_is_place.ps.zip us) := by
  match us, hl with
  | [_], _ => kernel_rfl
theorem bd_is_cost (kV doc pm : Value) (an : Option Addr) (cdv ct : Value) (us : List Value) (hl : us.length = r_is_cost.ps.length) : bindArgs (PySem.W.fnOf r_is_cost.name r_is_cost.qual (defArgs r_is_cost.st) (defBody r_is_cost.st) (defScope r_is_cost.st) .none kV doc pm an cdv ct) ⟨us, []⟩ = pure (r_is_cost.ps.zip us) := by
  match us, hl with
  | [_], _ => kernel_rfl
theorem bd_is_road (kV doc pm : Value) (an : Option Addr) (cdv ct : Value) (us : List Value) (hl : us.length = r_is_road.ps.length) : bindArgs (PySem.W.fnOf r_is_road.name r_is_road.qual (defArgs r_is_road.st) (defBody r_is_road.st) (defScope r_is_road.st) .none kV doc pm an cdv ct) ⟨us, []⟩ = pure (r_is_road.ps.zip us) := by
  match us, hl with
  | [_], _ => kernel_rfl
theorem bd_far_end (kV doc pm : Value) (an : Option Addr) (cdv ct : Value) (us : List Value) (hl : us.length = r_far_end.ps.length) : bindArgs (PySem.W.fnOf r_far_end.name r_far_end.qual (defArgs r_far_end.st) (defBody r_far_end.st) (defScope r_far_end.st) .none kV doc pm an cdv ct) ⟨us, []⟩ = pure (r_far_end.ps.zip us) := by
  match us, hl with
  | [_, _], _ => kernel_rfl
theorem bd_ways_of (kV doc pm : Value) (an : Option Addr) (cdv ct : Value) (us : List Value) (hl : us.length = r_ways_of.ps.length) : bindArgs (PySem.W.fnOf r_ways_of.name r_ways_of.qual (defArgs r_ways_of.st) (defBody r_ways_of.st) (defScope r_ways_of.st) .none kV doc pm an cdv ct) ⟨us, []⟩ = pure (r_ways_of.ps.zip us) := by
  match us, hl with
  | [_, _, _], _ => kernel_rfl
theorem bd_check_roads (kV doc pm : Value) (an : Option Addr) (cdv ct : Value) (us : List Value) (hl : us.length = r_check_roads.ps.length) : bindArgs (PySem.W.fnOf r_check_roads.name r_check_roads.qual (defArgs r_check_roads.st) (defBody r_check_roads.st) (defScope r_check_roads.st) .none kV doc pm an cdv ct) ⟨us, []⟩ = pure (r_check_roads.ps.zip us) := by
  match us, hl with
  | [_], _ => kernel_rfl
theorem bd_Web____init__ (kV doc pm : Value) (an : Option Addr) (cdv ct : Value) (us : List Value) (hl : us.length = r_Web____init__.ps.length) : bindArgs (PySem.W.fnOf r_Web____init__.name r_Web____init__.qual (defArgs r_Web____init__.st) (defBody r_Web____init__.st) (defScope r_Web____init__.st) .none kV doc pm an cdv ct) ⟨us, []⟩ = pure (r_Web____init__.ps.zip us) := by
  match us, hl with
  | [_, _, _, _], _ => kernel_rfl
theorem bd_Web__origin (kV doc pm : Value) (an : Option Addr) (cdv ct : Value) (us : List Value) (hl : us.length = r_Web__origin.ps.length) : bindArgs (PySem.W.fnOf r_Web__origin.name r_Web__origin.qual (defArgs r_Web__origin.st) (defBody r_Web__origin.st) (defScope r_Web__origin.st) .none kV doc pm an cdv ct) ⟨us, []⟩ = pure (r_Web__origin.ps.zip us) := by
  match us, hl with
  | [_], _ => kernel_rfl
theorem bd_Web__goal (kV doc pm : Value) (an : Option Addr) (cdv ct : Value) (us : List Value) (hl : us.length = r_Web__goal.ps.length) : bindArgs (PySem.W.fnOf r_Web__goal.name r_Web__goal.qual (defArgs r_Web__goal.st) (defBody r_Web__goal.st) (defScope r_Web__goal.st) .none kV doc pm an cdv ct) ⟨us, []⟩ = pure (r_Web__goal.ps.zip us) := by
  match us, hl with
  | [_], _ => kernel_rfl
theorem bd_Web__roads (kV doc pm : Value) (an : Option Addr) (cdv ct : Value) (us : List Value) (hl : us.length = r_Web__roads.ps.length) : bindArgs (PySem.W.fnOf r_Web__roads.name r_Web__roads.qual (defArgs r_Web__roads.st) (defBody r_Web__roads.st) (defScope r_Web__roads.st) .none kV doc pm an cdv ct) ⟨us, []⟩ = pure (r_Web__roads.ps.zip us) := by
  match us, hl with
  | [_], _ => kernel_rfl
theorem bd_Web__places (kV doc pm : Value) (an : Option Addr) (cdv ct : Value) (us : List Value) (hl : us.length = r_Web__places.ps.length) : bindArgs (PySem.W.fnOf r_Web__places.name r_Web__places.qual (defArgs r_Web__places.st) (defBody r_Web__places.st) (defScope r_Web__places.st) .none kV doc pm an cdv ct) ⟨us, []⟩ = pure (r_Web__places.ps.zip us) := by
  match us, hl with
  | [_], _ => kernel_rfl
theorem bd_Web____len__ (kV doc pm : Value) (an : Option Addr) (cdv ct : Value) (us : List Value) (hl : us.length = r_Web____len__.ps.length) : bindArgs (PySem.W.fnOf r_Web____len__.name r_Web____len__.qual (defArgs r_Web____len__.st) (defBody r_Web____len__.st) (defScope r_Web____len__.st) .none kV doc pm an cdv ct) ⟨us, []⟩ = pure (r_Web____len__.ps.zip us) := by
  match us, hl with
  | [_], _ => kernel_rfl
theorem bd_Web____bool__ (kV doc pm : Value) (an : Option Addr) (cdv ct : Value) (us : List Value) (hl : us.length = r_Web____bool__.ps.length) : bindArgs (PySem.W.fnOf r_Web____bool__.name r_Web____bool__.qual (defArgs r_Web____bool__.st) (defBody r_Web____bool__.st) (defScope r_Web____bool__.st) .none kV doc pm an cdv ct) ⟨us, []⟩ = pure (r_Web____bool__.ps.zip us) := by
  match us, hl with
  | [_], _ => kernel_rfl
theorem bd_Web____eq__ (kV doc pm : Value) (an : Option Addr) (cdv ct : Value) (us : List Value) (hl : us.length = r_Web____eq__.ps.length) : bindArgs (PySem.W.fnOf r_Web____eq__.name r_Web____eq__.qual (defArgs r_Web____eq__.st) (defBody r_Web____eq__.st) (defScope r_Web____eq__.st) .none kV doc pm an cdv ct) ⟨us, []⟩ = pure (r_Web____eq__.ps.zip us) := by
  match us, hl with
  | [_, _], _ => kernel_rfl
theorem bd_Web____str__ (kV doc pm : Value) (an : Option Addr) (cdv ct : Value) (us : List Value) (hl : us.length = r_Web____str__.ps.length) : bindArgs (PySem.W.fnOf r_Web____str__.name r_Web____str__.qual (defArgs r_Web____str__.st) (defBody r_Web____str__.st) (defScope r_Web____str__.st) .none kV doc pm an cdv ct) ⟨us, []⟩ = pure (r_Web____str__.ps.zip us) := by
  match us, hl with
  | [_], _ => kernel_rfl
theorem bd_Web__costing (kV doc pm : Value) (an : Option Addr) (cdv ct : Value) (us : List Value) (hl : us.length = r_Web__costing.ps.length) : bindArgs (PySem.W.fnOf r_Web__costing.name r_Web__costing.qual (defArgs r_Web__costing.st) (defBody r_Web__costing.st) (defScope r_Web__costing.st) .none kV doc pm an cdv ct) ⟨us, []⟩ = pure (r_Web__costing.ps.zip us) := by
  match us, hl with
  | [_, _, _, _], _ => kernel_rfl
theorem bd_Web__closed (kV doc pm : Value) (an : Option Addr) (cdv ct : Value) (us : List Value) (hl : us.length = r_Web__closed.ps.length) : bindArgs (PySem.W.fnOf r_Web__closed.name r_Web__closed.qual (defArgs r_Web__closed.st) (defBody r_Web__closed.st) (defScope r_Web__closed.st) .none kV doc pm an cdv ct) ⟨us, []⟩ = pure (r_Web__closed.ps.zip us) := by
  match us, hl with
  | [_, _], _ => kernel_rfl
theorem bd_Web__turned (kV doc pm : Value) (an : Option Addr) (cdv ct : Value) (us : List Value) (hl : us.length = r_Web__turned.ps.length) : bindArgs (PySem.W.fnOf r_Web__turned.name r_Web__turned.qual (defArgs r_Web__turned.st) (defBody r_Web__turned.st) (defScope r_Web__turned.st) .none kV doc pm an cdv ct) ⟨us, []⟩ = pure (r_Web__turned.ps.zip us) := by
  match us, hl with
  | [_], _ => kernel_rfl
theorem bd_Web__widened (kV doc pm : Value) (an : Option Addr) (cdv ct : Value) (us : List Value) (hl : us.length = r_Web__widened.ps.length) : bindArgs (PySem.W.fnOf r_Web__widened.name r_Web__widened.qual (defArgs r_Web__widened.st) (defBody r_Web__widened.st) (defScope r_Web__widened.st) .none kV doc pm an cdv ct) ⟨us, []⟩ = pure (r_Web__widened.ps.zip us) := by
  match us, hl with
  | [_, _], _ => kernel_rfl
theorem bd_without (kV doc pm : Value) (an : Option Addr) (cdv ct : Value) (us : List Value) (hl : us.length = r_without.ps.length) : bindArgs (PySem.W.fnOf r_without.name r_without.qual (defArgs r_without.st) (defBody r_without.st) (defScope r_without.st) .none kV doc pm an cdv ct) ⟨us, []⟩ = pure (r_without.ps.zip us) := by
  match us, hl with
  | [_, _], _ => kernel_rfl
theorem bd_check_web (kV doc pm : Value) (an : Option Addr) (cdv ct : Value) (us : List Value) (hl : us.length = r_check_web.ps.length) : bindArgs (PySem.W.fnOf r_check_web.name r_check_web.qual (defArgs r_check_web.st) (defBody r_check_web.st) (defScope r_check_web.st) .none kV doc pm an cdv ct) ⟨us, []⟩ = pure (r_check_web.ps.zip us) := by
  match us, hl with
  | [_], _ => kernel_rfl
theorem bd_check_indexes (kV doc pm : Value) (an : Option Addr) (cdv ct : Value) (us : List Value) (hl : us.length = r_check_indexes.ps.length) : bindArgs (PySem.W.fnOf r_check_indexes.name r_check_indexes.qual (defArgs r_check_indexes.st) (defBody r_check_indexes.st) (defScope r_check_indexes.st) .none kV doc pm an cdv ct) ⟨us, []⟩ = pure (r_check_indexes.ps.zip us) := by
  match us, hl with
  | [_, _], _ => kernel_rfl
theorem bd_is_way (kV doc pm : Value) (an : Option Addr) (cdv ct : Value) (us : List Value) (hl : us.length = r_is_way.ps.length) : bindArgs (PySem.W.fnOf r_is_way.name r_is_way.qual (defArgs r_is_way.st) (defBody r_is_way.st) (defScope r_is_way.st) .none kV doc pm an cdv ct) ⟨us, []⟩ = pure (r_is_way.ps.zip us) := by
  match us, hl with
  | [_, _], _ => kernel_rfl
theorem bd_check_way (kV doc pm : Value) (an : Option Addr) (cdv ct : Value) (us : List Value) (hl : us.length = r_check_way.ps.length) : bindArgs (PySem.W.fnOf r_check_way.name r_check_way.qual (defArgs r_check_way.st) (defBody r_check_way.st) (defScope r_check_way.st) .none kV doc pm an cdv ct) ⟨us, []⟩ = pure (r_check_way.ps.zip us) := by
  match us, hl with
  | [_, _], _ => kernel_rfl
theorem bd_is_load (kV doc pm : Value) (an : Option Addr) (cdv ct : Value) (us : List Value) (hl : us.length = r_is_load.ps.length) : bindArgs (PySem.W.fnOf r_is_load.name r_is_load.qual (defArgs r_is_load.st) (defBody r_is_load.st) (defScope r_is_load.st) .none kV doc pm an cdv ct) ⟨us, []⟩ = pure (r_is_load.ps.zip us) := by
  match us, hl with
  | [_, _], _ => kernel_rfl
theorem bd_check_loads (kV doc pm : Value) (an : Option Addr) (cdv ct : Value) (us : List Value) (hl : us.length = r_check_loads.ps.length) : bindArgs (PySem.W.fnOf r_check_loads.name r_check_loads.qual (defArgs r_check_loads.st) (defBody r_check_loads.st) (defScope r_check_loads.st) .none kV doc pm an cdv ct) ⟨us, []⟩ = pure (r_check_loads.ps.zip us) := by
  match us, hl with
  | [_, _], _ => kernel_rfl
theorem bd_carried_by (kV doc pm : Value) (an : Option Addr) (cdv ct : Value) (us : List Value) (hl : us.length = r_carried_by.ps.length) : bindArgs (PySem.W.fnOf r_carried_by.name r_carried_by.qual (defArgs r_carried_by.st) (defBody r_carried_by.st) (defScope r_carried_by.st) .none kV doc pm an cdv ct) ⟨us, []⟩ = pure (r_carried_by.ps.zip us) := by
  match us, hl with
  | [_], _ => kernel_rfl
theorem bd_road_loads_of (kV doc pm : Value) (an : Option Addr) (cdv ct : Value) (us : List Value) (hl : us.length = r_road_loads_of.ps.length) : bindArgs (PySem.W.fnOf r_road_loads_of.name r_road_loads_of.qual (defArgs r_road_loads_of.st) (defBody r_road_loads_of.st) (defScope r_road_loads_of.st) .none kV doc pm an cdv ct) ⟨us, []⟩ = pure (r_road_loads_of.ps.zip us) := by
  match us, hl with
  | [_, _], _ => kernel_rfl
theorem bd_costs_at (kV doc pm : Value) (an : Option Addr) (cdv ct : Value) (us : List Value) (hl : us.length = r_costs_at.ps.length) : bindArgs (PySem.W.fnOf r_costs_at.name r_costs_at.qual (defArgs r_costs_at.st) (defBody r_costs_at.st) (defScope r_costs_at.st) .none kV doc pm an cdv ct) ⟨us, []⟩ = pure (r_costs_at.ps.zip us) := by
  match us, hl with
  | [_, _], _ => kernel_rfl
theorem bd_road_costs_of (kV doc pm : Value) (an : Option Addr) (cdv ct : Value) (us : List Value) (hl : us.length = r_road_costs_of.ps.length) : bindArgs (PySem.W.fnOf r_road_costs_of.name r_road_costs_of.qual (defArgs r_road_costs_of.st) (defBody r_road_costs_of.st) (defScope r_road_costs_of.st) .none kV doc pm an cdv ct) ⟨us, []⟩ = pure (r_road_costs_of.ps.zip us) := by
  match us, hl with
  | [_, _], _ => kernel_rfl
theorem bd_cost_of_way (kV doc pm : Value) (an : Option Addr) (cdv ct : Value) (us : List Value) (hl : us.length = r_cost_of_way.ps.length) : bindArgs (PySem.W.fnOf r_cost_of_way.name r_cost_of_way.qual (defArgs r_cost_of_way.st) (defBody r_cost_of_way.st) (defScope r_cost_of_way.st) .none kV doc pm an cdv ct) ⟨us, []⟩ = pure (r_cost_of_way.ps.zip us) := by
  match us, hl with
  | [_, _], _ => kernel_rfl
theorem bd_way_cost (kV doc pm : Value) (an : Option Addr) (cdv ct : Value) (us : List Value) (hl : us.length = r_way_cost.ps.length) : bindArgs (PySem.W.fnOf r_way_cost.name r_way_cost.qual (defArgs r_way_cost.st) (defBody r_way_cost.st) (defScope r_way_cost.st) .none kV doc pm an cdv ct) ⟨us, []⟩ = pure (r_way_cost.ps.zip us) := by
  match us, hl with
  | [_, _, _], _ => kernel_rfl
theorem bd_least_cost (kV doc pm : Value) (an : Option Addr) (cdv ct : Value) (us : List Value) (hl : us.length = r_least_cost.ps.length) : bindArgs (PySem.W.fnOf r_least_cost.name r_least_cost.qual (defArgs r_least_cost.st) (defBody r_least_cost.st) (defScope r_least_cost.st) .none kV doc pm an cdv ct) ⟨us, []⟩ = pure (r_least_cost.ps.zip us) := by
  match us, hl with
  | [_, _], _ => kernel_rfl
theorem bd_excess_of (kV doc pm : Value) (an : Option Addr) (cdv ct : Value) (us : List Value) (hl : us.length = r_excess_of.ps.length) : bindArgs (PySem.W.fnOf r_excess_of.name r_excess_of.qual (defArgs r_excess_of.st) (defBody r_excess_of.st) (defScope r_excess_of.st) .none kV doc pm an cdv ct) ⟨us, []⟩ = pure (r_excess_of.ps.zip us) := by
  match us, hl with
  | [_, _], _ => kernel_rfl
theorem bd_excess (kV doc pm : Value) (an : Option Addr) (cdv ct : Value) (us : List Value) (hl : us.length = r_excess.ps.length) : bindArgs (PySem.W.fnOf r_excess.name r_excess.qual (defArgs r_excess.st) (defBody r_excess.st) (defScope r_excess.st) .none kV doc pm an cdv ct) ⟨us, []⟩ = pure (r_excess.ps.zip us) := by
  match us, hl with
  | [_, _], _ => kernel_rfl
theorem bd_is_steady (kV doc pm : Value) (an : Option Addr) (cdv ct : Value) (us : List Value) (hl : us.length = r_is_steady.ps.length) : bindArgs (PySem.W.fnOf r_is_steady.name r_is_steady.qual (defArgs r_is_steady.st) (defBody r_is_steady.st) (defScope r_is_steady.st) .none kV doc pm an cdv ct) ⟨us, []⟩ = pure (r_is_steady.ps.zip us) := by
  match us, hl with
  | [_, _], _ => kernel_rfl
theorem bd_law_jar (kV doc pm : Value) (an : Option Addr) (cdv ct : Value) (us : List Value) (hl : us.length = r_law_jar.ps.length) : bindArgs (PySem.W.fnOf r_law_jar.name r_law_jar.qual (defArgs r_law_jar.st) (defBody r_law_jar.st) (defScope r_law_jar.st) .none kV doc pm an cdv ct) ⟨us, []⟩ = pure (r_law_jar.ps.zip us) := by
  match us, hl with
  | [_, _], _ => kernel_rfl
theorem bd_law_dip (kV doc pm : Value) (an : Option Addr) (cdv ct : Value) (us : List Value) (hl : us.length = r_law_dip.ps.length) : bindArgs (PySem.W.fnOf r_law_dip.name r_law_dip.qual (defArgs r_law_dip.st) (defBody r_law_dip.st) (defScope r_law_dip.st) .none kV doc pm an cdv ct) ⟨us, []⟩ = pure (r_law_dip.ps.zip us) := by
  match us, hl with
  | [_, _], _ => kernel_rfl
theorem bd_law_pick (kV doc pm : Value) (an : Option Addr) (cdv ct : Value) (us : List Value) (hl : us.length = r_law_pick.ps.length) : bindArgs (PySem.W.fnOf r_law_pick.name r_law_pick.qual (defArgs r_law_pick.st) (defBody r_law_pick.st) (defScope r_law_pick.st) .none kV doc pm an cdv ct) ⟨us, []⟩ = pure (r_law_pick.ps.zip us) := by
  match us, hl with
  | [_, _], _ => kernel_rfl
theorem bd_law_common (kV doc pm : Value) (an : Option Addr) (cdv ct : Value) (us : List Value) (hl : us.length = r_law_common.ps.length) : bindArgs (PySem.W.fnOf r_law_common.name r_law_common.qual (defArgs r_law_common.st) (defBody r_law_common.st) (defScope r_law_common.st) .none kV doc pm an cdv ct) ⟨us, []⟩ = pure (r_law_common.ps.zip us) := by
  match us, hl with
  | [_, _], _ => kernel_rfl
theorem bd_law_lowest (kV doc pm : Value) (an : Option Addr) (cdv ct : Value) (us : List Value) (hl : us.length = r_law_lowest.ps.length) : bindArgs (PySem.W.fnOf r_law_lowest.name r_law_lowest.qual (defArgs r_law_lowest.st) (defBody r_law_lowest.st) (defScope r_law_lowest.st) .none kV doc pm an cdv ct) ⟨us, []⟩ = pure (r_law_lowest.ps.zip us) := by
  match us, hl with
  | [_, _], _ => kernel_rfl
theorem bd_law_plus (kV doc pm : Value) (an : Option Addr) (cdv ct : Value) (us : List Value) (hl : us.length = r_law_plus.ps.length) : bindArgs (PySem.W.fnOf r_law_plus.name r_law_plus.qual (defArgs r_law_plus.st) (defBody r_law_plus.st) (defScope r_law_plus.st) .none kV doc pm an cdv ct) ⟨us, []⟩ = pure (r_law_plus.ps.zip us) := by
  match us, hl with
  | [_, _], _ => kernel_rfl
theorem bd_law_beside_right (kV doc pm : Value) (an : Option Addr) (cdv ct : Value) (us : List Value) (hl : us.length = r_law_beside_right.ps.length) : bindArgs (PySem.W.fnOf r_law_beside_right.name r_law_beside_right.qual (defArgs r_law_beside_right.st) (defBody r_law_beside_right.st) (defScope r_law_beside_right.st) .none kV doc pm an cdv ct) ⟨us, []⟩ = pure (r_law_beside_right.ps.zip us) := by
  match us, hl with
  | [_], _ => kernel_rfl
theorem bd_law_behind_right (kV doc pm : Value) (an : Option Addr) (cdv ct : Value) (us : List Value) (hl : us.length = r_law_behind_right.ps.length) : bindArgs (PySem.W.fnOf r_law_behind_right.name r_law_behind_right.qual (defArgs r_law_behind_right.st) (defBody r_law_behind_right.st) (defScope r_law_behind_right.st) .none kV doc pm an cdv ct) ⟨us, []⟩ = pure (r_law_behind_right.ps.zip us) := by
  match us, hl with
  | [_], _ => kernel_rfl
theorem bd_law_right (kV doc pm : Value) (an : Option Addr) (cdv ct : Value) (us : List Value) (hl : us.length = r_law_right.ps.length) : bindArgs (PySem.W.fnOf r_law_right.name r_law_right.qual (defArgs r_law_right.st) (defBody r_law_right.st) (defScope r_law_right.st) .none kV doc pm an cdv ct) ⟨us, []⟩ = pure (r_law_right.ps.zip us) := by
  match us, hl with
  | [_], _ => kernel_rfl
theorem bd_law (kV doc pm : Value) (an : Option Addr) (cdv ct : Value) (us : List Value) (hl : us.length = r_law.ps.length) : bindArgs (PySem.W.fnOf r_law.name r_law.qual (defArgs r_law.st) (defBody r_law.st) (defScope r_law.st) .none kV doc pm an cdv ct) ⟨us, []⟩ = pure (r_law.ps.zip us) := by
  match us, hl with
  | [_], _ => kernel_rfl
theorem bds {K : PySem.W.Frag} : ∀ (i : Nat) (r : Z.Fr), L0.fr[i]? = some r → ∀ fd f, FunD K r.name r.qual (defArgs r.st) (defBody r.st) (defScope r.st) [] [] f fd → Binds K fd r.ps [] := fun i r e fd f F => by
  have hm := List.mem_of_getElem? e
  have hm : r ∈ (([r_is_integer, r_is_within, r_common, r_lowest, r_are_fraction, r_plus, r_less, r_is_below, r_sum_of, r_greatest_of, r_least_of, r_is_place, r_is_cost, r_is_road, r_far_end, r_ways_of, r_check_roads, r_Web____init__, r_Web__origin, r_Web__goal, r_Web__roads, r_Web__places, r_Web____len__, r_Web____bool__, r_Web____eq__, r_Web____str__, r_Web__costing, r_Web__closed, r_Web__turned, r_Web__widened] : List Z.Fr) ++ ([r_without, r_check_web, r_check_indexes, r_is_way, r_check_way, r_is_load, r_check_loads, r_carried_by, r_road_loads_of, r_costs_at, r_road_costs_of, r_cost_of_way, r_way_cost, r_least_cost, r_excess_of, r_excess, r_is_steady, r_law_jar, r_law_dip, r_law_pick, r_law_common, r_law_lowest, r_law_plus, r_law_beside_right, r_law_behind_right, r_law_right, r_law] : List Z.Fr)) := hm
  simp only [List.cons_append, List.nil_append, List.mem_cons, List.not_mem_nil, or_false] at hm
  rcases hm with rfl | rfl | rfl | rfl | rfl | rfl | rfl | rfl | rfl | rfl | rfl | rfl | rfl | rfl | rfl | rfl | rfl | rfl | rfl | rfl | rfl | rfl | rfl | rfl | rfl | rfl | rfl | rfl | rfl | rfl | rfl | rfl | rfl | rfl | rfl | rfl | rfl | rfl | rfl | rfl | rfl | rfl | rfl | rfl | rfl | rfl | rfl | rfl | rfl | rfl | rfl | rfl | rfl | rfl | rfl | rfl | rfl
  · exact F.bindsN bd_is_integer
  · exact F.bindsN bd_is_within
  · exact F.bindsN bd_common
  · exact F.bindsN bd_lowest
  · exact F.bindsN bd_are_fraction
  · exact F.bindsN bd_plus
  · exact F.bindsN bd_less
  · exact F.bindsN bd_is_below
  · exact F.bindsN bd_sum_of
  · exact F.bindsN bd_greatest_of
  · exact F.bindsN bd_least_of
  · exact F.bindsN bd_is_place
  · exact F.bindsN bd_is_cost
  · exact F.bindsN bd_is_road
  · exact F.bindsN bd_far_end
  · exact F.bindsN bd_ways_of
  · exact F.bindsN bd_check_roads
  · exact F.bindsN bd_Web____init__
  · exact F.bindsN bd_Web__origin
  · exact F.bindsN bd_Web__goal
  · exact F.bindsN bd_Web__roads
  · exact F.bindsN bd_Web__places
  · exact F.bindsN bd_Web____len__
  · exact F.bindsN bd_Web____bool__
  · exact F.bindsN bd_Web____eq__
  · exact F.bindsN bd_Web____str__
  · exact F.bindsN bd_Web__costing
  · exact F.bindsN bd_Web__closed
  · exact F.bindsN bd_Web__turned
  · exact F.bindsN bd_Web__widened
  · exact F.bindsN bd_without
  · exact F.bindsN bd_check_web
  · exact F.bindsN bd_check_indexes
  · exact F.bindsN bd_is_way
  · exact F.bindsN bd_check_way
  · exact F.bindsN bd_is_load
  · exact F.bindsN bd_check_loads
  · exact F.bindsN bd_carried_by
  · exact F.bindsN bd_road_loads_of
  · exact F.bindsN bd_costs_at
  · exact F.bindsN bd_road_costs_of
  · exact F.bindsN bd_cost_of_way
  · exact F.bindsN bd_way_cost
  · exact F.bindsN bd_least_cost
  · exact F.bindsN bd_excess_of
  · exact F.bindsN bd_excess
  · exact F.bindsN bd_is_steady
  · exact F.bindsN bd_law_jar
  · exact F.bindsN bd_law_dip
  · exact F.bindsN bd_law_pick
  · exact F.bindsN bd_law_common
  · exact F.bindsN bd_law_lowest
  · exact F.bindsN bd_law_plus
  · exact F.bindsN bd_law_beside_right
  · exact F.bindsN bd_law_behind_right
  · exact F.bindsN bd_law_right
  · exact F.bindsN bd_law
theorem okS : L0.okS = true := by kernel_rfl
end LW

namespace LW
open PySem PySem.Spec PyProof.Rows L2 Z
def names0 : List PySem.Str := ["_wall", "WrongValue", "InvalidPlace", "InvalidWay", "NotAWeb", "InvalidRoads", "InvalidLoads", "InvalidIndexes", "NotPossible", "NoWay", "is_integer", "is_within", "common", "lowest", "are_fraction", "plus", "less", "is_below", "sum_of", "greatest_of", "least_of", "MOST_ROADS", "MOST_COST", "LETTERS", "is_place", "is_cost", "is_road", "far_end", "ways_of", "check_roads"]
def names1 : List PySem.Str := ["Web", "without", "check_web", "check_indexes", "is_way", "check_way", "is_load", "check_loads", "carried_by", "road_loads_of", "costs_at", "road_costs_of", "cost_of_way", "way_cost", "least_cost", "excess_of", "excess", "is_steady", "_law_jar", "_law_dip", "_law_pick", "_law_common", "_law_lowest", "_law_plus", "_law_beside_right", "_law_behind_right", "_law_right"]
def names : List PySem.Str := names0 ++ names1
abbrev R : PySem.W.OpenRow := PySem.W.OpenLaw.row PySem.Challenge.rw_closedroads_k20_whole_steady_by_hand
theorem run (w : World) : HandSHeadRun.RunEq R (PySem.W.view R.prog [63]) (L0.hook 6) (L0.ob 6) 12000 names w := by
  intro os
  kernel_rfl
theorem facts {l : Program} {w : World} {mg : Str → Option Value} {h : Heap} {fa : Addr} (Y : L0.says h) (Gn : h.Ns mainGlobals mg) (named : mg ("law" : Str) = some (.ref fa)) (law : ∀ ns : List Int, ns.length ≤ 63 → (∀ i ∈ ns, Builtin.Int.intBits i ≤ 1048576) → ∃ st', L0.G.call 20 f_law [.p (scriptP ns)] ⟨[], []⟩ = .ok (.p (.bl true)) st') :
    ∃ (T : Top) (fd : FuncData) (f : Nat) (call : Nat → List W → Sto → Res W), T.K.In h ∧ T.fa f = fa ∧ (∀ (s : Shared) (u : Value), BindsTo s fd ⟨[u], []⟩ [("script", u)]) ∧
      (∀ ns : List Int, ns.length ≤ 63 → (∀ i ∈ ns, Builtin.Int.intBits i ≤ 1048576) → ∃ st', call f [.p (scriptP ns)] ⟨[], []⟩ = .ok (.p (.bl true)) st') ∧
      ∀ base : Heap, T.K.In base → base.Ns mainGlobals mg → FnG l w T.K mg base 40 (T.fa f) fd ["script"] (spC T call f) := by
  obtain ⟨K, inK, c⟩ := Y
  obtain ⟨ok, defs⟩ := Lw.facts c
  have p := Lw.pf inK Gn okS ok defs bds
  obtain ⟨fd, F⟩ := defs f_law r_law rfl
  have e : mg ("law" : Str) = some (.ref ((L0.top K).fa f_law)) := (p.fn "law" f_law (by decide +kernel)).1
  have ea : (L0.top K).fa f_law = fa := by
    rw [named] at e
    cases e
    rfl
  refine ⟨L0.top K, fd, f_law, L0.G.call 20, inK, ea, fun s u => F.bindsA bd_law s [u] rfl, law, fun base _ _ => ?_⟩
  have D : DfOk (L0.top K) L0.I f_law d_law fd r_law.N r_law.ps (defBody r_law.st) (defScope r_law.st) := by
    have q := List.all_eq_true.mp okS r_law (List.mem_of_getElem? (show L0.fr[f_law]? = some r_law from rfl))
    obtain ⟨o1, o2, o3, o4⟩ := and4 (show (scB r_law.N r_law.ps (defScope r_law.st) && decide (r_law.N.length = r_law.d.ns) && decide (r_law.ps.length = r_law.d.np) && mSs L0.I r_law.N (defScope r_law.st) r_law.d.body (defBody r_law.st)) = true from q)
    exact ⟨⟨_, _, _, _, _, F⟩, scB_ok o1, F.bindsN bd_law, of_decide_eq_true o2, of_decide_eq_true o3, o4⟩
  exact (levels p 20 f_law d_law fd r_law.N r_law.ps _ _ rfl D).1
end LW

open PySem PySem.W PyProof.Rows HandSHeadRun L2
theorem PySem.Challenge.cw_closedroads_k20_whole_steady_by_hand_holds : PySem.Challenge.rw_closedroads_k20_whole_steady_by_hand.Holds := by
  w_on; o_law
  refine HandSHeadRun.head_any (r := LW.R) (q := view LW.R.prog [63]) (H := Z.L0.hook 6) (ob := Z.L0.ob 6) (M := 12000) (loose := LW.names) (d := HandSHeadRun.topDef LW.R.prog 63) (kwd := []) (Z.L0.ob_eq 6)
    (by kernel_rfl) (fun s => by kernel_rfl) LW.run (by kernel_rfl) (by kernel_rfl) (by kernel_rfl) (by rfl) (by first | assumption | decide +kernel) (by decide +kernel) ⟨rfl, rfl, rfl, rfl, rfl, by decide +kernel⟩ ?hw ?hc
  case hw => w_witness2
  case hc =>
    refine Z.walk_law (l := PySem.Challenge.rw_closedroads_k20_whole_steady_by_hand) (n := 63) (k := 40) (x := "script") rfl (by decide) (by kernel_rfl) ⟨rfl, by decide, by decide⟩ fun w mg fa h Y G named0 => ?_
    have named : mg ("law" : PySem.Str) = some (.ref fa) := by
      have e : (HandSHeadRun.topDef LW.R.prog 63).name = ("law" : PySem.Str) := by kernel_rfl
      rw [← e]
      exact named0
    exact LW.facts Y G named Z.U.law_ok
