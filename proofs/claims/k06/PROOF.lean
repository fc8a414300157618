import PyProof.Rows.All
import Wide.All
import OpenK.AllK
import Wide.FinOn
import HandS.ForMost
import HandS.ForExc
import HandS.Wide
import HandS.TupAny
import HandS.IsInst
import HandS.Deep
import HandS.SetBool
import HandS.SetKeys
import PySem.Challenge.RW_wordkeepers_k06_whole_whose_form
set_option Elab.async false
set_option linter.all false
set_option autoImplicit false
set_option maxRecDepth 100000
set_option maxHeartbeats 4000000
/-! Wk, the pure part: deep values, a small language, its evaluator. -/
namespace Wk
/-- deep values -/
inductive D where
  | non
  | bl (b : Bool)
  | int (i : Int)
  | str (s : List Nat)
  | tup (l : List D)
  | lst (l : List D)
  | dct (ks vs : List D)
  | ins (c : Nat) (l : List D)
  | dice
  | scr (l : List Int)
  deriving Inhabited

/-- an exception: its class, its field -/
structure Exc where
  c : Nat
  fld : Option D

/-- the state that calls change: the dice -/
structure Sta where
  dice : Int × Int

inductive Res (A : Type) where
  | ok (a : A) (s : Sta)
  | exc (x : Exc) (s : Sta)
  | bad

def Res.bind {A B : Type} (r : Res A) (f : A → Sta → Res B) : Res B :=
  match r with
  | .ok a s => f a s
  | .exc x s => .exc x s
  | .bad => .bad

inductive Bop where
  | add | sub | mul | mod | fdiv | pow
inductive Cop where
  | lt | le | gt | ge | eq | ne | isn | notn | inn | nin
/-- built-in types, for isinstance -/
inductive Ty where
  | int | bool | str | tup | lst | lstTup | cls (c : Nat)
/-- one-place built-ins -/
inductive Bi where
  | len | all | any | sum | str | int | tuple | list | setlen | neg
/-- targets -/
inductive Tg where
  | nm (i : Nat)
  | tp (t : Tg)
  | nil
  | cons (a b : Tg)

/-- expressions, argument lists, iterables -/
inductive E where
  | nil
  | cons (a b : E)
  | var (i : Nat)
  | cst (d : D)
  | glb (g : Nat) (d : D)
  | bin (o : Bop) (a b : E)
  | cmp (o : Cop) (a b : E)
  | chain (o p : Cop) (a b c : E)
  | and (a b : E)
  | or (a b : E)
  | not (a : E)
  | ite (c a b : E)
  | tup (a : E)
  | lst (a : E)
  | ix (a b : E)
  | sl (a lo hi : E)
  | isi (a : E) (t : Ty)
  | bi (b : Bi) (a : E)
  | mn (a b : E)
  | mx (a b : E)
  | call (f : Nat) (a : E)
  | lc (vs : List Nat) (t : Tg) (it c e : E)
  | slen (vs : List Nat) (t : Tg) (it c e : E)
  | rng (a : E)
  | rng2 (a b : E)

abbrev En := List (Option D)
abbrev CallT := Nat → List D → Sta → Res D

def most : Nat := 100000

def D.scal : D → Bool
  | .non | .bl _ | .int _ | .str _ => true
  | _ => false

/-- place of a Python index -/
def ixAt (n : Nat) (i : Int) : Option Nat := if 0 ≤ i then (if i < n then some i.toNat else none) else if -(n : Int) ≤ i then some (i + n).toNat else none
def getI {A : Type} (l : List A) (i : Int) : Option A := match ixAt l.length i with
  | some j => l[j]?
  | none => none
def sIx (n d : Nat) : Option Int → Nat
  | none => d
  | some v => if v < 0 then (v + (n : Int)).toNat else min v.toNat n
def cut {A : Type} (l : List A) (lo hi : Option Int) : List A := (l.drop (sIx l.length 0 lo)).take (sIx l.length l.length hi - sIx l.length 0 lo)

mutual
/-- Python's == over plain data -/
def eqD : D → D → Bool
  | .non, .non => true
  | .bl a, .bl b => a == b
  | .bl a, .int j => (if a then 1 else 0) == j
  | .int i, .bl b => i == (if b then 1 else 0)
  | .int i, .int j => i == j
  | .str x, .str y => x == y
  | .lst xs, .lst ys => eqL xs ys
  | .tup xs, .tup ys => eqL xs ys
  | _, _ => false
def eqL : List D → List D → Bool
  | [], [] => true
  | x :: xs, y :: ys => eqD x y && eqL xs ys
  | _, _ => false
end

mutual
/-- plain data (no dict, no instance, no dice), at most so deep -/
def okD : D → Nat → Bool
  | .non, _ | .bl _, _ | .int _, _ | .str _, _ => true
  | .tup l, n => (match n with
    | 0 => false
    | n + 1 => okL l n)
  | .lst l, n => (match n with
    | 0 => false
    | n + 1 => okL l n)
  | _, _ => false
def okL : List D → Nat → Bool
  | [], _ => true
  | x :: xs, n => okD x n && okL xs n
end
def dataOk (d : D) : Bool := okD d 20

def big64 : Int := 18446744073709551616
def bigW : Int := 115792089237316195423570985008687907853269984665640564039457584007913129639936
def mulOk (i j : Int) : Bool := (decide (-big64 < i) && decide (i < big64)) || (decide (-big64 < j) && decide (j < big64)) ||
  (decide (i.natAbs < bigW.natAbs) && decide (j.natAbs < bigW.natAbs))

def binD : Bop → D → D → Option D
  | .add, .int i, .int j => some (.int (i + j))
  | .add, .str a, .str b => if a.length + b.length ≤ most then some (.str (a ++ b)) else none
  | .add, .lst a, .lst b => if a.length + b.length ≤ most then some (.lst (a ++ b)) else none
  | .add, .tup a, .tup b => if a.length + b.length ≤ most then some (.tup (a ++ b)) else none
  | .sub, .int i, .int j => some (.int (i - j))
  | .mul, .int i, .int j => if mulOk i j then some (.int (i * j)) else none
  | .mod, .int i, .int j => if 0 < j then some (.int (i % j)) else none
  | .fdiv, .int i, .int j => if 0 < j ∧ j < bigW then some (.int (i / j)) else none
  | .pow, .int i, .int j => if 0 ≤ j ∧ j ≤ 1000 ∧ -big64 < i ∧ i < big64 then some (.int (i ^ j.toNat)) else none
  | _, _, _ => none

def inL (x : D) (l : List D) : Bool := l.any fun y => eqD y x
/-- ==, the script with the empty list too -/
def eqC (a b : D) : Option Bool := match a, b with
  | .scr l, .lst [] => some l.isEmpty
  | a, b => if dataOk a && dataOk b then some (eqD a b) else none
def cmpD : Cop → D → D → Option Bool
  | .lt, .int i, .int j => some (decide (i < j))
  | .le, .int i, .int j => some (decide (i ≤ j))
  | .gt, .int i, .int j => some (decide (j < i))
  | .ge, .int i, .int j => some (decide (j ≤ i))
  | .eq, a, b => eqC a b
  | .ne, a, b => if dataOk a && dataOk b then some (!eqD a b) else none
  | .isn, a, .non => match a with
    | .non => some true
    | _ => some false
  | .notn, a, .non => match a with
    | .non => some false
    | _ => some true
  | .inn, .str [c], .str s => some (s.contains c)
  | .nin, .str [c], .str s => some (!s.contains c)
  | .inn, a, .lst l => if dataOk a && dataOk (.lst l) then some (inL a l) else none
  | .nin, a, .lst l => if dataOk a && dataOk (.lst l) then some (!inL a l) else none
  | .inn, a, .tup l => if dataOk a && dataOk (.tup l) then some (inL a l) else none
  | .nin, a, .tup l => if dataOk a && dataOk (.tup l) then some (!inL a l) else none
  | _, _, _ => none

def isiD : Ty → D → Option Bool
  | .int, .int _ => some true
  | .int, .bl _ => some true
  | .bool, .bl _ => some true
  | .str, .str _ => some true
  | .tup, .tup _ => some true
  | .lst, .lst _ => some true
  | .lstTup, .lst _ => some true
  | .lstTup, .tup _ => some true
  | .cls _, .ins _ _ => none
  | _, .dct _ _ => none
  | _, .ins _ _ => none
  | _, .dice => none
  | _, .scr _ => none
  | _, _ => some false

def allBl : List D → Option Bool
  | [] => some true
  | .bl b :: r => match allBl r with
    | some c => some (b && c)
    | none => none
  | _ => none
def anyBl : List D → Option Bool
  | [] => some false
  | .bl b :: r => match anyBl r with
    | some c => some (b || c)
    | none => none
  | _ => none
def sumI : List D → Option Int
  | [] => some 0
  | .int i :: r => match sumI r with
    | some c => some (i + c)
    | none => none
  | _ => none
/-- how many unlike texts -/
def unlike : List (List Nat) → Nat
  | [] => 0
  | x :: r => if r.contains x then unlike r else unlike r + 1
def textsOf : List D → Option (List (List Nat))
  | [] => some []
  | .str x :: r => match textsOf r with
    | some c => some (x :: c)
    | none => none
  | _ => none

def biD : Bi → D → Option D
  | .len, .str s => if s.length ≤ most then some (.int s.length) else none
  | .len, .lst l => some (.int l.length)
  | .len, .tup l => some (.int l.length)
  | .len, .dct l _ => some (.int l.length)
  | .len, .scr l => some (.int l.length)
  | .all, .lst l => match allBl l with
    | some b => some (.bl b)
    | none => none
  | .any, .lst l => match anyBl l with
    | some b => some (.bl b)
    | none => none
  | .sum, .lst l => match sumI l with
    | some b => some (.int b)
    | none => none
  | .int, .bl b => some (.int (if b then 1 else 0))
  | .int, .int b => some (.int b)
  | .neg, .int b => some (.int (-b))
  | .tuple, .lst l => some (.tup l)
  | .tuple, .tup l => some (.tup l)
  | .list, .lst l => some (.lst l)
  | .list, .tup l => some (.lst l)
  | _, _ => none

def ixD : D → D → Option D
  | .lst l, .int i => getI l i
  | .tup l, .int i => getI l i
  | .scr l, .int i => (match getI l i with
    | some j => some (.int j)
    | none => none)
  | .str s, .int i => if s.length ≤ most then (match getI s i with
    | some c => some (.str [c])
    | none => none) else none
  | _, _ => none
def ixS (s : Sta) (x y : D) : Option D := match x with
  | .dice => (match y with
    | .int 0 => some (.int s.dice.1)
    | .int 1 => some (.int s.dice.2)
    | _ => none)
  | _ => ixD x y
def slD (a : D) (lo hi : Option Int) : Option D := match a with
  | .lst l => some (.lst (cut l lo hi))
  | .tup l => some (.tup (cut l lo hi))
  | .str s => if s.length ≤ most then some (.str (cut s lo hi)) else none
  | _ => none

mutual
/-- a target is bound -/
def bindT : Tg → D → En → Option En
  | .nm i, d, r => some (r.set i (some d))
  | .tp t, .tup l, r => bindTs t l r
  | _, _, _ => none
def bindTs : Tg → List D → En → Option En
  | .nil, [], r => some r
  | .cons a b, d :: l, r => match bindT a d r with
    | some r' => bindTs b l r'
    | none => none
  | _, _, _ => none
end

def wipeE (r : En) : List Nat → En
  | [] => r
  | v :: vs => (wipeE r vs).set v none

/-- the turns of a comprehension: items, what is made so far -/
def lcRun (f : D → Sta → Res (Option D)) : List D → List D → Sta → Res (List D)
  | [], acc, s => .ok acc s
  | x :: xs, acc, s => match f x s with
    | .ok none s' => lcRun f xs acc s'
    | .ok (some d) s' => if acc.length < most then lcRun f xs (acc ++ [d]) s' else .bad
    | _ => .bad

def ofO {A : Type} (s : Sta) : Option A → Res A
  | some d => .ok d s
  | none => .bad

def upTo (lo : Int) : Nat → List D
  | 0 => []
  | n + 1 => .int lo :: upTo (lo + 1) n

/-- what a thing walked yields -/
def itemsD : D → Option (List D)
  | .lst l => some l
  | .tup l => some l
  | .str z => if z.length ≤ most then some (z.map fun c => .str [c]) else none
  | _ => none
def partD : D → Option (Option Int)
  | .int i => some (some i)
  | _ => none
def isNonC : E → Bool
  | .cst .non => true
  | _ => false
def listD : D → Option (List D)
  | .lst l => some l
  | _ => none
def rngD : D → Option D
  | .int j => if -(most : Int) ≤ j ∧ j ≤ most then some (.lst (upTo 0 j.toNat)) else none
  | _ => none
def rng2D : D → D → Option D
  | .int i, .int j => if -(most : Int) ≤ i ∧ i ≤ most ∧ -(most : Int) ≤ j ∧ j ≤ most then some (.lst (upTo i (j - i).toNat)) else none
  | _, _ => none
def mnD : D → D → Option D
  | .int i, .int j => some (.int (if j < i then j else i))
  | _, _ => none
def mxD : D → D → Option D
  | .int i, .int j => some (.int (if j > i then j else i))
  | _, _ => none
def tupD : D → Option D
  | .lst l => if l.length ≤ most then some (.tup l) else none
  | _ => none
def lstD : D → Option D
  | .lst l => if l.length ≤ most then some (.lst l) else none
  | _ => none
def consD (x : D) : D → Option D
  | .lst l => some (.lst (x :: l))
  | _ => none
def blD : D → Option Bool
  | .bl b => some b
  | _ => none

/-- how many unlike texts stand in a list -/
def slenD (l : List D) : Option D := match textsOf l with
  | some ts => if ts.length ≤ 1000 then some (.int (unlike ts)) else none
  | none => none

/-- the evaluator: a list of arguments comes as a list, a range as a list of its upTo -/
def evE (cl : CallT) : E → En → Sta → Res D
  | .nil, _, s => .ok (.lst []) s
  | .cons a b, r, s => (evE cl a r s).bind fun x s => (evE cl b r s).bind fun l s => ofO s (consD x l)
  | .var i, r, s => match r[i]? with
    | some (some d) => .ok d s
    | _ => .bad
  | .cst d, _, s => .ok d s
  | .glb _ d, _, s => .ok d s
  | .bin o a b, r, s => (evE cl a r s).bind fun x s => (evE cl b r s).bind fun y s => ofO s (binD o x y)
  | .cmp o a b, r, s => (evE cl a r s).bind fun x s => (evE cl b r s).bind fun y s => (ofO s (cmpD o x y)).bind fun k s => .ok (.bl k) s
  | .chain o p a b c, r, s => (evE cl a r s).bind fun x s => (evE cl b r s).bind fun y s => (ofO s (cmpD o x y)).bind fun k s =>
      if k then (evE cl c r s).bind fun z s => (ofO s (cmpD p y z)).bind fun k s => .ok (.bl k) s else .ok (.bl false) s
  | .and a b, r, s => (evE cl a r s).bind fun x s => (ofO s (blD x)).bind fun k s => if k then evE cl b r s else .ok (.bl false) s
  | .or a b, r, s => (evE cl a r s).bind fun x s => (ofO s (blD x)).bind fun k s => if k then .ok (.bl true) s else evE cl b r s
  | .not a, r, s => (evE cl a r s).bind fun x s => (ofO s (blD x)).bind fun k s => .ok (.bl (!k)) s
  | .ite c a b, r, s => (evE cl c r s).bind fun x s => (ofO s (blD x)).bind fun k s => if k then evE cl a r s else evE cl b r s
  | .tup a, r, s => (evE cl a r s).bind fun l s => ofO s (tupD l)
  | .lst a, r, s => (evE cl a r s).bind fun l s => ofO s (lstD l)
  | .ix a b, r, s => (evE cl a r s).bind fun x s => (evE cl b r s).bind fun y s => ofO s (ixS s x y)
  | .sl a lo hi, r, s => (evE cl a r s).bind fun x s => (if isNonC lo then .ok none s else (evE cl lo r s).bind fun i s => ofO s (partD i)).bind fun i s =>
      (if isNonC hi then .ok none s else (evE cl hi r s).bind fun j s => ofO s (partD j)).bind fun j s => ofO s (slD x i j)
  | .isi a t, r, s => (evE cl a r s).bind fun x s => (ofO s (isiD t x)).bind fun k s => .ok (.bl k) s
  | .bi b a, r, s => (evE cl a r s).bind fun x s => ofO s (biD b x)
  | .mn a b, r, s => (evE cl a r s).bind fun x s => (evE cl b r s).bind fun y s => ofO s (mnD x y)
  | .mx a b, r, s => (evE cl a r s).bind fun x s => (evE cl b r s).bind fun y s => ofO s (mxD x y)
  | .call f a, r, s => (evE cl a r s).bind fun x s => (ofO s (listD x)).bind fun l s => cl f l s
  | .lc vs t it c e, r, s => (evE cl it r s).bind fun x s => (ofO s (itemsD x)).bind fun l s =>
      (lcRun (fun x s => (ofO s (bindT t x (wipeE r vs))).bind fun r' s =>
        (evE cl c r' s).bind fun x s => (ofO s (blD x)).bind fun k s => if k then (evE cl e r' s).bind fun d s => .ok (some d) s else .ok none s) l [] s).bind fun l s => .ok (.lst l) s
  | .slen vs t it c e, r, s => (evE cl it r s).bind fun x s => (ofO s (itemsD x)).bind fun l s =>
      (lcRun (fun x s => (ofO s (bindT t x (wipeE r vs))).bind fun r' s =>
        (evE cl c r' s).bind fun x s => (ofO s (blD x)).bind fun k s => if k then (evE cl e r' s).bind fun d s => .ok (some d) s else .ok none s) l [] s).bind fun l s => ofO s (slenD l)
  | .rng a, r, s => (evE cl a r s).bind fun x s => ofO s (rngD x)
  | .rng2 a b, r, s => (evE cl a r s).bind fun x s => (evE cl b r s).bind fun y s => ofO s (rng2D x y)

/-! ### statements -/
/-- a slot: empty, a value, a list of the frame's own that nobody else holds -/
inductive Sl where
  | no
  | sh (d : D)
  | ow (d : D)
abbrev Fr := List Sl
inductive Fl where
  | nx (r : Fr)
  | rt (d : D)
  | bk (r : Fr)
  | ct (r : Fr)
/-- statements; ts: the slots that the expressions of a statement name -/
inductive S where
  | nop
  | seq (a b : S)
  | asg (ts : List Nat) (own : Bool) (i : Nat) (e : E)
  | asgT (ts : List Nat) (t : Tg) (e : E)
  | par (ts : List Nat) (i j : Nat) (own1 own2 : Bool) (a b : E)
  | exp (ts : List Nat) (e : E)
  | ret (ts : List Nat) (e : E)
  | ret0
  | ite (ts : List Nat) (c : E) (a b : S)
  | for (ts : List Nat) (t : Tg) (it : E) (b : S)
  | whl (ts : List Nat) (c : E) (b : S)
  | rse (c : Nat)
  | rseF (ts : List Nat) (c : Nat) (e : E)
  | app (ts : List Nat) (i : Nat) (e : E)
  | setIx (ts : List Nat) (i : Nat) (k v : E)
  | brk
  | cont

def slV (b : Bool) : Sl → Option D
  | .no => none
  | .sh d => some d
  | .ow d => if b then some d else none
def slF (b : Bool) : Sl → Sl
  | .ow d => if b then .sh d else .ow d
  | x => x
def viewAt (ts : List Nat) : Nat → Fr → En
  | _, [] => []
  | i, x :: r => slV (ts.contains i) x :: viewAt ts (i + 1) r
def view (ts : List Nat) (r : Fr) : En := viewAt ts 0 r
def freezeAt (ts : List Nat) : Nat → Fr → Fr
  | _, [] => []
  | i, x :: r => slF (ts.contains i) x :: freezeAt ts (i + 1) r
def freeze (ts : List Nat) (r : Fr) : Fr := freezeAt ts 0 r
def afterE (ts : List Nat) (r : Fr) (d : D) : Fr := if d.scal then r else freeze ts r
def afterB (ts : List Nat) (r : Fr) (d e : D) : Fr := if d.scal && e.scal then r else freeze ts r

mutual
def bindF : Tg → D → Fr → Option Fr
  | .nm i, d, r => some (r.set i (.sh d))
  | .tp t, .tup l, r => bindFs t l r
  | _, _, _ => none
def bindFs : Tg → List D → Fr → Option Fr
  | .nil, [], r => some r
  | .cons a b, d :: l, r => match bindF a d r with
    | some r' => bindFs b l r'
    | none => none
  | _, _, _ => none
end

def D.cont : D → Bool
  | .lst _ | .dct _ _ => true
  | _ => false
def slotOf (own : Bool) (d : D) : Sl := if own && d.cont then .ow d else .sh d

/-- the turns of a for -/
def forRun (f : D → Fr → Sta → Res Fl) : List D → Fr → Sta → Res Fl
  | [], r, s => .ok (.nx r) s
  | x :: xs, r, s => (f x r s).bind fun fl s => match fl with
    | .nx r' => forRun f xs r' s
    | .ct r' => forRun f xs r' s
    | .bk r' => .ok (.nx r') s
    | .rt d => .ok (.rt d) s
/-- the turns of a while -/
def whlRun (c : Fr → Sta → Res Bool) (f : Fr → Sta → Res Fl) : Nat → Fr → Sta → Res Fl
  | 0, _, _ => .bad
  | n + 1, r, s => (c r s).bind fun k s => if k then (f r s).bind fun fl s => match fl with
    | .nx r' => whlRun c f n r' s
    | .ct r' => whlRun c f n r' s
    | .bk r' => .ok (.nx r') s
    | .rt d => .ok (.rt d) s
    else .ok (.nx r) s

def setL (l : List D) (k v : D) : Option D := match k with
  | .int i => (match ixAt l.length i with
    | some j => some (.lst (l.set j v))
    | none => none)
  | _ => none

def ownL : Option Sl → Bool
  | some (.ow (.lst _)) => true
  | _ => false
def isDice : Option Sl → Bool
  | some (.sh .dice) => true
  | _ => false
def appTo (r : Fr) (i : Nat) (d : D) (s : Sta) : Res Fl := match r[i]? with
  | some (.ow (.lst l)) => if l.length < most then .ok (.nx (r.set i (.ow (.lst (l ++ [d]))))) s else .bad
  | _ => .bad
def setTo (r : Fr) (i : Nat) (x y : D) (s : Sta) : Res Fl := match r[i]? with
  | some (.ow (.lst l)) => (ofO s (setL l x y)).bind fun d s => .ok (.nx (r.set i (.ow d))) s
  | some (.sh .dice) => (match x, y with
    | .int 0, .int z => .ok (.nx r) ⟨(z, s.dice.2)⟩
    | .int 1, .int z => .ok (.nx r) ⟨(s.dice.1, z)⟩
    | _, _ => .bad)
  | _ => .bad

def xec (cl : CallT) : S → Fr → Sta → Res Fl
  | .nop, r, s => .ok (.nx r) s
  | .seq a b, r, s => (xec cl a r s).bind fun fl s => match fl with
    | .nx r' => xec cl b r' s
    | x => .ok x s
  | .asg ts own i e, r, s => (evE cl e (view ts r) s).bind fun d s => .ok (.nx ((afterE ts r d).set i (slotOf own d))) s
  | .asgT ts t e, r, s => (evE cl e (view ts r) s).bind fun d s => (ofO s (bindF t d (afterE ts r d))).bind fun r' s => .ok (.nx r') s
  | .par ts i j o1 o2 a b, r, s => (evE cl a (view ts r) s).bind fun x s => (evE cl b (view ts r) s).bind fun y s =>
      .ok (.nx (((afterB ts r x y).set i (slotOf o1 x)).set j (slotOf o2 y))) s
  | .exp ts e, r, s => (evE cl e (view ts r) s).bind fun d s => .ok (.nx (afterE ts r d)) s
  | .ret ts e, r, s => (evE cl e (view ts r) s).bind fun d s => .ok (.rt d) s
  | .ret0, _, s => .ok (.rt .non) s
  | .ite ts c a b, r, s => (evE cl c (view ts r) s).bind fun x s => (ofO s (blD x)).bind fun k s => if k then xec cl a r s else xec cl b r s
  | .for ts t it b, r, s => (evE cl it (view ts r) s).bind fun x s => (ofO s (itemsD x)).bind fun l s =>
      forRun (fun x r s => (ofO s (bindF t x r)).bind fun r' s => xec cl b r' s) l (freeze ts r) s
  | .whl ts c b, r, s => whlRun (fun r s => (evE cl c (view ts r) s).bind fun x s => ofO s (blD x)) (fun r s => xec cl b r s) most r s
  | .rse c, _, s => .exc ⟨c, none⟩ s
  | .rseF ts c e, r, s => (evE cl e (view ts r) s).bind fun d s => .exc ⟨c, some d⟩ s
  | .app ts i e, r, s => if ownL r[i]? then (evE cl e (view ts r) s).bind fun d s => appTo (afterE ts r d) i d s else .bad
  | .setIx ts i k v, r, s => if ownL r[i]? || isDice r[i]? then (evE cl v (view ts r) s).bind fun y s => (evE cl k (view ts r) s).bind fun x s => setTo (afterB ts r x y) i x y s else .bad
  | .brk, r, s => .ok (.bk r) s
  | .cont, r, s => .ok (.ct r) s

structure Fn where
  np : Nat
  ns : Nat
  body : S

def endOf : Fl → Option D
  | .nx _ => some .non
  | .rt d => some d
  | _ => none
def startF (f : Fn) (l : List D) : Fr := l.map .sh ++ List.replicate (f.ns - f.np) .no
def runB (cl : CallT) (f : Fn) (l : List D) (s : Sta) : Res D :=
  if l.length = f.np ∧ f.np ≤ f.ns then (xec cl f.body (startF f l) s).bind fun fl s => ofO s (endOf fl) else .bad
def runF (P : List Fn) : Nat → CallT
  | 0 => fun _ _ _ => .bad
  | n + 1 => fun f l s => match P[f]? with
    | some fn => runB (runF P n) fn l s
    | none => .bad
end Wk
/-! Wk, soundness 1: what a deep value is in the abstract heap; how heaps grow; the weakest readings. -/
namespace Wk
open PySem PySem.Spec PyProof.Rows L2
/-- what is fixed: the written part, the classes' addresses, the classes' field names, the dice's address -/
abbrev vTail : List Value := [.type "ValueError", .type "Exception", .type "BaseException", .type "object"]
structure Bas where
  K : PySem.W.Frag
  ca : Nat → Addr
  fn : Nat → List Str
  xa : Nat → Addr
  xf : Nat → Str
  dp : Option Addr
/-- the same with another dice -/
def Bas.at (B : Bas) (dp : Option Addr) : Bas := { B with dp := dp }

mutual
/-- v is the deep value d in the frozen heap z -/
def Rp (B : Bas) (z : Hp) : D → V → Prop
  | .non, v => v = .non
  | .bl b, v => v = .bl b
  | .int i, v => v = .int i
  | .str s, v => v = .str ⟨s.toArray⟩ ∧ ∀ c ∈ s, c < 0x110000
  | .tup l, v => ∃ a vs, v = .ref a ∧ SqT B.K z a vs ∧ RpL B z l vs
  | .lst l, v => ∃ a vs, v = .ref a ∧ z a = some (.lst vs) ∧ RpL B z l vs
  | .dct _ _, _ => False
  | .ins c l, v => ∃ a dx fs, v = .ref a ∧ z a = some (.ins (B.ca c) dx fs) ∧ fs.map (·.1) = (B.fn c).take l.length ∧ RpL B z l (fs.map (·.2))
  | .dice, v => ∃ p, B.dp = some p ∧ v = .ref p
  | .scr l, v => ∃ a, v = .ref a ∧ SqL B.K z a (l.map V.int)
def RpL (B : Bas) (z : Hp) : List D → List V → Prop
  | [], vs => vs = []
  | d :: l, vs => ∃ v r, vs = v :: r ∧ Rp B z d v ∧ RpL B z l r
end

theorem Same.tup {K : PySem.W.Frag} {z z' : Hp} {a : Addr} {xs : List V} (e : Same z z') (h : SqT K z a xs) : SqT K z' a xs := by
  rcases h with (h | ⟨o, h⟩) | h
  · exact .inl (.inl (e _ _ h))
  · exact .inl (.inr ⟨o, e _ _ h⟩)
  · exact .inr h

mutual
theorem Rp.mono {B : Bas} {z z' : Hp} (e : Same z z') : ∀ {d : D} {v : V}, Rp B z d v → Rp B z' d v
  | .non, _, h => h
  | .bl _, _, h => h
  | .int _, _, h => h
  | .str _, _, h => h
  | .tup l, v, h => by
    unfold Rp at h ⊢
    obtain ⟨a, vs, rfl, h1, h2⟩ := h
    exact ⟨a, vs, rfl, Same.tup e h1, RpL.mono e h2⟩
  | .lst l, v, h => by
    unfold Rp at h ⊢
    obtain ⟨a, vs, rfl, h1, h2⟩ := h
    exact ⟨a, vs, rfl, e _ _ h1, RpL.mono e h2⟩
  | .dct _ _, v, h => by
    unfold Rp at h
    exact h.elim
  | .ins c l, v, h => by
    unfold Rp at h ⊢
    obtain ⟨a, dx, fs, rfl, h1, h2, h3⟩ := h
    exact ⟨a, dx, fs, rfl, e _ _ h1, h2, RpL.mono e h3⟩
  | .dice, _, h => by
    unfold Rp at h ⊢
    exact h
  | .scr l, _, h => by
    unfold Rp at h ⊢
    obtain ⟨a, rfl, h1⟩ := h
    exact ⟨a, rfl, e.seq h1⟩
theorem RpL.mono {B : Bas} {z z' : Hp} (e : Same z z') : ∀ {l : List D} {vs : List V}, RpL B z l vs → RpL B z' l vs
  | [], _, h => by
    unfold RpL at h ⊢
    exact h
  | d :: l, vs, h => by
    unfold RpL at h ⊢
    obtain ⟨v, r, rfl, h1, h2⟩ := h
    exact ⟨v, r, rfl, Rp.mono e h1, RpL.mono e h2⟩
end

theorem RpL.length {B : Bas} {z : Hp} : ∀ {l : List D} {vs : List V}, RpL B z l vs → vs.length = l.length
  | [], _, h => by
    unfold RpL at h
    subst h
    rfl
  | d :: l, vs, h => by
    unfold RpL at h
    obtain ⟨v, r, rfl, h1, h2⟩ := h
    simp [RpL.length h2]
theorem RpL.get {B : Bas} {z : Hp} : ∀ {l : List D} {vs : List V} {i : Nat} {d : D}, RpL B z l vs → l[i]? = some d → ∃ v, vs[i]? = some v ∧ Rp B z d v
  | [], _, _, _, _, e => by simp at e
  | d :: l, vs, 0, d', h, e => by
    unfold RpL at h
    obtain ⟨v, r, rfl, h1, h2⟩ := h
    simp at e
    subst e
    exact ⟨v, rfl, h1⟩
  | d :: l, vs, i + 1, d', h, e => by
    unfold RpL at h
    obtain ⟨v, r, rfl, h1, h2⟩ := h
    simp at e
    obtain ⟨w, hw, q⟩ := RpL.get h2 e
    exact ⟨w, by simpa using hw, q⟩
theorem RpL.append {B : Bas} {z : Hp} : ∀ {l m : List D} {vs ws : List V}, RpL B z l vs → RpL B z m ws → RpL B z (l ++ m) (vs ++ ws)
  | [], m, vs, ws, h, g => by
    unfold RpL at h
    subst h
    exact g
  | d :: l, m, vs, ws, h, g => by
    unfold RpL at h
    obtain ⟨v, r, rfl, h1, h2⟩ := h
    show RpL B z (d :: (l ++ m)) (v :: (r ++ ws))
    unfold RpL
    exact ⟨v, r ++ ws, rfl, h1, RpL.append h2 g⟩
theorem RpL.one {B : Bas} {z : Hp} {d : D} {v : V} (h : Rp B z d v) : RpL B z [d] [v] := by
  unfold RpL
  exact ⟨v, [], rfl, h, by unfold RpL; rfl⟩
theorem RpL.drop {B : Bas} {z : Hp} : ∀ {l : List D} {vs : List V} (n : Nat), RpL B z l vs → RpL B z (l.drop n) (vs.drop n)
  | l, vs, 0, h => h
  | [], vs, n + 1, h => by
    unfold RpL at h
    subst h
    unfold RpL
    rfl
  | d :: l, vs, n + 1, h => by
    unfold RpL at h
    obtain ⟨v, r, rfl, h1, h2⟩ := h
    exact RpL.drop n h2
theorem RpL.take {B : Bas} {z : Hp} : ∀ {l : List D} {vs : List V} (n : Nat), RpL B z l vs → RpL B z (l.take n) (vs.take n)
  | l, vs, 0, h => by
    show RpL B z [] []
    unfold RpL
    rfl
  | [], vs, n + 1, h => by
    unfold RpL at h
    subst h
    unfold RpL
    rfl
  | d :: l, vs, n + 1, h => by
    unfold RpL at h
    obtain ⟨v, r, rfl, h1, h2⟩ := h
    show RpL B z (d :: l.take n) (v :: r.take n)
    unfold RpL
    exact ⟨v, _, rfl, h1, RpL.take n h2⟩
theorem RpL.set {B : Bas} {z : Hp} {x : D} {w : V} (hx : Rp B z x w) : ∀ {l : List D} {vs : List V} (n : Nat), RpL B z l vs → RpL B z (l.set n x) (vs.set n w)
  | [], vs, n, h => by
    unfold RpL at h
    subst h
    unfold RpL
    rfl
  | d :: l, vs, 0, h => by
    unfold RpL at h
    obtain ⟨v, r, rfl, h1, h2⟩ := h
    show RpL B z (x :: l) (w :: r)
    unfold RpL
    exact ⟨w, r, rfl, hx, h2⟩
  | d :: l, vs, n + 1, h => by
    unfold RpL at h
    obtain ⟨v, r, rfl, h1, h2⟩ := h
    show RpL B z (d :: l.set n x) (v :: r.set n w)
    unfold RpL
    exact ⟨v, _, rfl, h1, RpL.set hx n h2⟩
/-- scalars hang on no heap -/
theorem Rp.scal {B : Bas} {z z' : Hp} {d : D} {v : V} (hs : d.scal = true) (h : Rp B z d v) : Rp B z' d v := by
  cases d <;> first | (unfold Rp at h ⊢; exact h) | cases hs

/-! ### how heaps grow -/
/-- z, h: the frozen heap and the whole one; all but the dice stays, what freezes is new -/
structure Gr (dp : Option Addr) (z h z' h' : Hp) : Prop where
  sub : Same z z'
  le : Same z' h'
  keep : ∀ a o, h a = some o → some a ≠ dp → h' a = some o
  new : ∀ a o, h a = some o → z a = Option.none → z' a = Option.none
/-- the heap bears the state -/
structure StR (dp : Option Addr) (z h : Hp) (s : Sta) : Prop where
  le : Same z h
  nz : ∀ p, dp = some p → z p = Option.none
  at_ : ∀ p, dp = some p → h p = some (.lst [.int s.dice.1, .int s.dice.2])

theorem Gr.refl {dp : Option Addr} {z h : Hp} (e : Same z h) : Gr dp z h z h := ⟨Same.refl z, e, fun _ _ q _ => q, fun _ _ _ n => n⟩
theorem Gr.trans {dp : Option Addr} {z h z1 h1 z2 h2 : Hp} (nz : ∀ p, dp = some p → h p = Option.none ∨ ∃ o, h1 p = some o) (a : Gr dp z h z1 h1) (b : Gr dp z1 h1 z2 h2) : Gr dp z h z2 h2 where
  sub := a.sub.trans b.sub
  le := b.le
  keep := fun c o q n => b.keep c o (a.keep c o q n) n
  new := fun c o q n => by
    by_cases e : some c = dp
    · rcases nz c e.symm with e1 | ⟨u, e1⟩
      · rw [q] at e1; cases e1
      · exact b.new c u e1 (a.new c o q n)
    · exact b.new c o (a.keep c o q e) (a.new c o q n)
/-- a new object, frozen at once -/
theorem Gr.alloc {dp : Option Addr} {z h : Hp} {p : Addr} {o : HO} (e : Same z h) (n : h p = Option.none) : Gr dp z h (upd z p o) (upd h p o) where
  sub := fun b u q => by rw [upd_ne (ne_of_none q (e.free n))]; exact q
  le := fun b u q => by
    by_cases hb : b = p
    · subst hb; rw [upd_same] at q ⊢; exact q
    · rw [upd_ne hb] at q ⊢; exact e b u q
  keep := fun b u q _ => by rw [upd_ne (ne_of_none q n)]; exact q
  new := fun b u q zb => by rw [upd_ne (ne_of_none q n)]; exact zb
/-- a new object, not frozen -/
theorem Gr.allocO {dp : Option Addr} {z h : Hp} {p : Addr} {o : HO} (e : Same z h) (n : h p = Option.none) : Gr dp z h z (upd h p o) where
  sub := Same.refl z
  le := fun b u q => by rw [upd_ne (ne_of_none (e b u q) n)]; exact e b u q
  keep := fun b u q _ => by rw [upd_ne (ne_of_none q n)]; exact q
  new := fun b u q zb => zb
theorem StR.grow {dp : Option Addr} {z h z' h' : Hp} {s : Sta} (t : StR dp z h s) (g : Gr dp z h z' h') (hp : ∀ p, dp = some p → h' p = h p) : StR dp z' h' s :=
  ⟨g.le, fun p e => g.new p _ (t.at_ p e) (t.nz p e), fun p e => by rw [hp p e]; exact t.at_ p e⟩
theorem StR.alloc {dp : Option Addr} {z h : Hp} {s : Sta} {p : Addr} {o : HO} (t : StR dp z h s) (n : h p = Option.none) : StR dp (upd z p o) (upd h p o) s :=
  t.grow (Gr.alloc t.le n) fun q e => upd_ne (ne_of_none (t.at_ q e) n)
theorem StR.allocO {dp : Option Addr} {z h : Hp} {s : Sta} {p : Addr} {o : HO} (t : StR dp z h s) (n : h p = Option.none) : StR dp z (upd h p o) s :=
  t.grow (Gr.allocO t.le n) fun q e => upd_ne (ne_of_none (t.at_ q e) n)
/-- growing by two steps, the state borne between them -/
theorem Gr.tr {dp : Option Addr} {z h z1 h1 z2 h2 : Hp} {s : Sta} (a : Gr dp z h z1 h1) (t : StR dp z1 h1 s) (b : Gr dp z1 h1 z2 h2) : Gr dp z h z2 h2 :=
  Gr.trans (fun p e => .inr ⟨_, t.at_ p e⟩) a b

/-! ### the weakest readings -/
def WE (X : Cx) (e : Expr) : TE := fun σ H Q => ∀ (pins : List (Addr × Obj)) (s : Shared), Inv X pins σ H s → wpAny (model X.prog X.w) X.A (eval e X.env) (EP X pins σ Q) X.xe s
def WT (X : Cx) (e : Expr) : TT := fun σ H Q => ∀ (pins : List (Addr × Obj)) (s : Shared), Inv X pins σ H s → wpAny (model X.prog X.w) X.A (isTrue e X.env (eval e X.env)) (TP X pins σ Q) X.xe s
def WA (X : Cx) (es : List Expr) : TA := fun σ H Q => ∀ (pos : Pos) (pins : List (Addr × Obj)) (s : Shared), Inv X pins σ H s → wpAny (model X.prog X.w) X.A (spliced (backTo pos (starEach es X.env))) (AP X pins σ Q) X.xe s
def WS (X : Cx) (st : Stmt) : TS := fun D σ H => ∀ (pins : List (Addr × Obj)) (s : Shared), Inv X pins σ H s → wpAny (model X.prog X.w) X.A (exec st X.env) (SP X pins D) X.xe s
def WSs (X : Cx) (st : List Stmt) : TS := fun D σ H => ∀ (pins : List (Addr × Obj)) (s : Shared), Inv X pins σ H s → wpAny (model X.prog X.w) X.A (execs st X.env) (SP X pins D) X.xe s
section
variable {X : Cx}
theorem peW {e : Expr} : PE X e (WE X e) := ⟨fun pins s _ _ _ I h => h pins s I⟩
theorem ptW {e : Expr} : PT X e (WT X e) := ⟨fun pins s _ _ _ I h => h pins s I⟩
theorem paW {es : List Expr} : PA X es (WA X es) := ⟨fun pos pins s _ _ _ I h => h pos pins s I⟩
theorem psW {st : Stmt} : PS X st (WS X st) := ⟨fun pins s _ _ _ I h => h pins s I⟩
theorem pssW {st : List Stmt} : PSs X st (WSs X st) := ⟨fun pins s _ _ _ I h => h pins s I⟩
theorem WE.of {e : Expr} {t : TE} (p : PE X e t) {σ : L2.St} {H : Hp} {Q : VK} (h : t σ H Q) : WE X e σ H Q := fun pins s I => p.run pins s σ H Q I h
theorem WT.of {e : Expr} {t : TT} (p : PT X e t) {σ : L2.St} {H : Hp} {Q : Bool → Hp → Prop} (h : t σ H Q) : WT X e σ H Q := fun pins s I => p.run pins s σ H Q I h
theorem WA.of {es : List Expr} {t : TA} (p : PA X es t) {σ : L2.St} {H : Hp} {Q : List V → Hp → Prop} (h : t σ H Q) : WA X es σ H Q := fun pos pins s I => p.run pos pins s σ H Q I h
theorem WS.of {st : Stmt} {t : TS} (p : PS X st t) {σ : L2.St} {H : Hp} {D : Ends} (h : t D σ H) : WS X st D σ H := fun pins s I => p.run pins s σ H D I h
theorem WSs.of {st : List Stmt} {t : TS} (p : PSs X st t) {σ : L2.St} {H : Hp} {D : Ends} (h : t D σ H) : WSs X st D σ H := fun pins s I => p.run pins s σ H D I h
end
end Wk
/-! Wk, soundness 2: what is wanted behind a run; operators and built-ins by values. -/
namespace Wk
open PySem PySem.Spec PyProof.Rows L2
/-- an exception x lies behind z, h: its class, its own dict -/
def ExR (B : Bas) (x : Exc) (z h : Hp) (cls : Value) (dd : Option Addr) : Prop :=
  cls = .ref (B.xa x.c) ∧ match x.fld with
    | Option.none => dd = Option.none
    | some d => ∃ a v, dd = some a ∧ h a = some (.xd [(B.xf x.c, v)]) ∧ Rp B z d v
/-- what is wanted behind a run r from z, h -/
def Po (B : Bas) {A : Type} (z h : Hp) (r : Res A) (K : A → Hp → Hp → Prop) (E : XK) : Prop :=
  match r with
  | .ok a s => ∀ z' h', Gr B.dp z h z' h' → StR B.dp z' h' s → K a z' h'
  | .exc x s => ∀ z' h', Gr B.dp z h z' h' → StR B.dp z' h' s → ∀ cls dd, ExR B x z' h' cls dd → E cls dd h'
  | .bad => False
theorem Po.shift {B : Bas} {A : Type} {z h z1 h1 : Hp} {r : Res A} {K : A → Hp → Hp → Prop} {E : XK} {s : Sta} (p : Po B z h r K E) (g : Gr B.dp z h z1 h1) (t : StR B.dp z1 h1 s) : Po B z1 h1 r K E := by
  cases r with
  | ok a s' => exact fun z' h' g' t' => p z' h' (g.tr t g') t'
  | exc x s' => exact fun z' h' g' t' => p z' h' (g.tr t g') t'
  | bad => exact p
theorem Po.here {B : Bas} {A : Type} {z h : Hp} {K : A → Hp → Hp → Prop} {E : XK} {s : Sta} {a : A} (p : Po B z h (.ok a s) K E) (t : StR B.dp z h s) : K a z h := p z h (Gr.refl t.le) t
theorem Po.bind {B : Bas} {A C : Type} {z h : Hp} {m : Res A} {f : A → Sta → Res C} {K : C → Hp → Hp → Prop} {E : XK} (p : Po B z h (m.bind f) K E) :
    (∃ a s, m = .ok a s ∧ Po B z h (f a s) K E) ∨ (∃ x s, m = .exc x s ∧ Po B z h (.exc x s : Res C) K E) := by
  cases m with
  | ok a s => exact .inl ⟨a, s, rfl, p⟩
  | exc x s => exact .inr ⟨x, s, rfl, p⟩
  | bad => exact p.elim
theorem Po.ofO {B : Bas} {A C : Type} {z h : Hp} {o : Option A} {s : Sta} {f : A → Sta → Res C} {K : C → Hp → Hp → Prop} {E : XK} (p : Po B z h ((ofO s o).bind f) K E) : ∃ a, o = some a ∧ Po B z h (f a s) K E := by
  cases o with
  | none => exact p.elim
  | some a => exact ⟨a, rfl, p⟩
theorem Po.ofO1 {B : Bas} {A : Type} {z h : Hp} {o : Option A} {s : Sta} {K : A → Hp → Hp → Prop} {E : XK} (p : Po B z h (Wk.ofO s o) K E) : ∃ a, o = some a ∧ Po B z h (.ok a s) K E := by
  cases o with
  | none => exact p.elim
  | some a => exact ⟨a, rfl, p⟩

/-- the slots bear an environment -/
structure EnR (B : Bas) (z : Hp) (r : En) (σ : L2.St) : Prop where
  len : r.length = σ.length
  at_ : ∀ (i : Nat) (d : D), r[i]? = some (some d) → ∃ v, σ[i]? = some (some v) ∧ Rp B z d v
theorem EnR.mono {B : Bas} {z z' : Hp} {r : En} {σ : L2.St} (e : EnR B z r σ) (s : Same z z') : EnR B z' r σ := ⟨e.len, fun i d q => by
  obtain ⟨v, h1, h2⟩ := e.at_ i d q
  exact ⟨v, h1, h2.mono s⟩⟩

/-- K for a value, for a list of values -/
abbrev KV1 (B : Bas) (Q : VK) : D → Hp → Hp → Prop := fun d z h => ∀ v, Rp B z d v → Q v h
abbrev KA1 (B : Bas) (Q : List V → Hp → Prop) : List D → Hp → Hp → Prop := fun l z h => ∀ vs, RpL B z l vs → Q vs h
abbrev WXs (W : WX) (σ : L2.St) : XK := fun c d h => W c d σ h

def SndE (B : Bas) (cl : CallT) (X : Cx) (W : WX) (e : Expr) (ir : E) : Prop :=
  ∀ (r : En) (s : Sta) (σ : L2.St) (z H : Hp) (Q : VK), EnR B z r σ → StR B.dp z H s → Po B z H (evE cl ir r s) (KV1 B Q) (WXs W σ) → WE X e σ H Q
def SndT (B : Bas) (cl : CallT) (X : Cx) (W : WX) (e : Expr) (ir : E) : Prop :=
  ∀ (r : En) (s : Sta) (σ : L2.St) (z H : Hp) (Q : Bool → Hp → Prop), EnR B z r σ → StR B.dp z H s → Po B z H ((evE cl ir r s).bind fun x s => ofO s (blD x)) (fun b _ h => Q b h) (WXs W σ) → WT X e σ H Q
def SndA (B : Bas) (cl : CallT) (X : Cx) (W : WX) (es : List Expr) (ir : E) : Prop :=
  ∀ (r : En) (s : Sta) (σ : L2.St) (z H : Hp) (Q : List V → Hp → Prop), EnR B z r σ → StR B.dp z H s → Po B z H ((evE cl ir r s).bind fun x s => ofO s (listD x)) (KA1 B Q) (WXs W σ) → WA X es σ H Q

section
variable {B : Bas} {cl : CallT} {X : Cx} {W : WX} {e : Expr} {ir : E} {r : En} {s : Sta} {σ : L2.St} {z H : Hp}
/-- run e, then go on -/
theorem SndE.bind {C : Type} {K : C → Hp → Hp → Prop} {f : D → Sta → Res C} {Q : VK} (ha : SndE B cl X W e ir) (en : EnR B z r σ) (st : StR B.dp z H s) (h : Po B z H ((evE cl ir r s).bind f) K (WXs W σ))
    (k : ∀ d s1 v z1 H1, Gr B.dp z H z1 H1 → StR B.dp z1 H1 s1 → Rp B z1 d v → Po B z1 H1 (f d s1) K (WXs W σ) → Q v H1) : WE X e σ H Q := by
  refine ha r s σ z H Q en st ?_
  rcases h.bind with ⟨d, s1, e1, p⟩ | ⟨x, s1, e1, p⟩
  · rw [e1]
    exact fun z1 H1 g t v q => k d s1 v z1 H1 g t q (p.shift g t)
  · rw [e1]
    exact p
theorem SndT.bind {C : Type} {K : C → Hp → Hp → Prop} {f : Bool → Sta → Res C} {Q : Bool → Hp → Prop} (ha : SndT B cl X W e ir) (en : EnR B z r σ) (st : StR B.dp z H s)
    (h : Po B z H (((evE cl ir r s).bind fun x s => ofO s (blD x)).bind f) K (WXs W σ))
    (k : ∀ b s1 z1 H1, Gr B.dp z H z1 H1 → StR B.dp z1 H1 s1 → Po B z1 H1 (f b s1) K (WXs W σ) → Q b H1) : WT X e σ H Q := by
  refine ha r s σ z H Q en st ?_
  rcases h.bind with ⟨d, s1, e1, p⟩ | ⟨x, s1, e1, p⟩
  · rw [e1]
    exact fun z1 H1 g t => k d s1 z1 H1 g t (p.shift g t)
  · rw [e1]
    exact p
theorem SndA.bind {C : Type} {K : C → Hp → Hp → Prop} {f : List D → Sta → Res C} {Q : List V → Hp → Prop} {es : List Expr} (ha : SndA B cl X W es ir) (en : EnR B z r σ) (st : StR B.dp z H s)
    (h : Po B z H (((evE cl ir r s).bind fun x s => ofO s (listD x)).bind f) K (WXs W σ))
    (k : ∀ l s1 vs z1 H1, Gr B.dp z H z1 H1 → StR B.dp z1 H1 s1 → RpL B z1 l vs → Po B z1 H1 (f l s1) K (WXs W σ) → Q vs H1) : WA X es σ H Q := by
  refine ha r s σ z H Q en st ?_
  rcases h.bind with ⟨d, s1, e1, p⟩ | ⟨x, s1, e1, p⟩
  · rw [e1]
    exact fun z1 H1 g t v q => k d s1 v z1 H1 g t q (p.shift g t)
  · rw [e1]
    exact p
end
theorem Res.bind_assoc {A C F : Type} (m : Res A) (f : A → Sta → Res C) (g : C → Sta → Res F) : (m.bind f).bind g = m.bind fun a s => (f a s).bind g := by
  cases m <;> rfl

/-! ### plain data -/
mutual
def toPy : D → PyData
  | .non => .none
  | .bl b => .bool b
  | .int i => .int i
  | .str s => .str ⟨s.toArray⟩
  | .tup l => .tuple (toPyL l)
  | .lst l => .list (toPyL l)
  | _ => .none
def toPyL : List D → List PyData
  | [] => []
  | d :: l => toPy d :: toPyL l
end
mutual
theorem dp_of {B : Bas} {z : Hp} : ∀ {d : D} {n : Nat} {v : V}, Rp B z d v → okD d n = true → Dp B.K z v (toPy d) ∧ (toPy d).canLay0 = true ∧ (toPy d).depth ≤ n
  | .non, n, v, h, _ => by
    unfold Rp at h; subst h
    exact ⟨.non, rfl, Nat.zero_le _⟩
  | .bl b, n, v, h, _ => by
    unfold Rp at h; subst h
    exact ⟨.bl b, rfl, Nat.zero_le _⟩
  | .int i, n, v, h, _ => by
    unfold Rp at h; subst h
    exact ⟨.int i, rfl, Nat.zero_le _⟩
  | .str s, n, v, h, _ => by
    unfold Rp at h
    obtain ⟨rfl, hc⟩ := h
    refine ⟨.str _, ?_, Nat.zero_le _⟩
    show PyData.strOk ⟨s.toArray⟩ = true
    unfold PyData.strOk
    rw [Array.all_eq_true']
    intro c hcm
    have : c ∈ s := by simpa using hcm
    simpa using hc c this
  | .tup l, 0, v, h, k => by simp [okD] at k
  | .tup l, n + 1, v, h, k => by
    unfold Rp at h
    obtain ⟨a, vs, rfl, h1, h2⟩ := h
    have k' : okL l n = true := by simpa [okD] using k
    obtain ⟨q1, q2, q3⟩ := dpL_of h2 k'
    refine ⟨.tup h1 q1, ?_, ?_⟩
    · show PyData.canLay0 (.tuple (toPyL l)) = true
      rw [PyData.canLay0]; exact q2
    · show PyData.depth (.tuple (toPyL l)) ≤ n + 1
      rw [PyData.depth]; omega
  | .lst l, 0, v, h, k => by simp [okD] at k
  | .lst l, n + 1, v, h, k => by
    unfold Rp at h
    obtain ⟨a, vs, rfl, h1, h2⟩ := h
    have k' : okL l n = true := by simpa [okD] using k
    obtain ⟨q1, q2, q3⟩ := dpL_of h2 k'
    refine ⟨.lst (SqL.of h1) q1, ?_, ?_⟩
    · show PyData.canLay0 (.list (toPyL l)) = true
      rw [PyData.canLay0]; exact q2
    · show PyData.depth (.list (toPyL l)) ≤ n + 1
      rw [PyData.depth]; omega
  | .dct _ _, n, v, h, k => by simp [okD] at k
  | .ins _ _, n, v, h, k => by simp [okD] at k
  | .dice, n, v, h, k => by simp [okD] at k
  | .scr _, n, v, h, k => by simp [okD] at k
theorem dpL_of {B : Bas} {z : Hp} : ∀ {l : List D} {n : Nat} {vs : List V}, RpL B z l vs → okL l n = true → DpAll B.K z vs (toPyL l) ∧ PyData.canLayAll0 (toPyL l) = true ∧ PyData.depthAll (toPyL l) ≤ n
  | [], n, vs, h, _ => by
    unfold RpL at h; subst h
    exact ⟨.nil, rfl, Nat.zero_le _⟩
  | d :: l, n, vs, h, k => by
    unfold RpL at h
    obtain ⟨v, r, rfl, h1, h2⟩ := h
    have k' : okD d n = true ∧ okL l n = true := by simpa [okL] using k
    obtain ⟨a1, a2, a3⟩ := dp_of h1 k'.1
    obtain ⟨b1, b2, b3⟩ := dpL_of h2 k'.2
    refine ⟨.cons a1 b1, ?_, ?_⟩
    · show PyData.canLayAll0 (toPy d :: toPyL l) = true
      rw [PyData.canLayAll0, a2, b2]; rfl
    · show PyData.depthAll (toPy d :: toPyL l) ≤ n
      rw [PyData.depthAll]
      exact Nat.max_le.mpr ⟨a3, b3⟩
end
theorem str_beq' (x y : List Nat) : ((⟨x.toArray⟩ : Str) == ⟨y.toArray⟩) = (x == y) := by
  by_cases h : x = y
  · subst h; simp
  · have h1 : ¬ ((⟨x.toArray⟩ : Str) = ⟨y.toArray⟩) := fun e => h (by
      have := congrArg (fun s : Str => s.cps.toList) e
      simpa using this)
    rw [beq_eq_false_iff_ne.mpr h1, beq_eq_false_iff_ne.mpr h]
mutual
theorem eqv_toPy : ∀ (a b : D) (n m : Nat), okD a n = true → okD b m = true → PyData.eqv (toPy a) (toPy b) = eqD a b
  | .tup l, b, n, m, ha, hb => by
    cases n with
    | zero => simp [okD] at ha
    | succ n =>
      cases b <;> cases m <;> first
        | (simp [okD] at hb; done)
        | (simp only [toPy, PyData.eqv, eqD]; done)
        | (simp only [okD] at ha hb; simp only [toPy, PyData.eqv, eqD]; exact eqv_toPyL _ _ _ _ ha hb)
  | .lst l, b, n, m, ha, hb => by
    cases n with
    | zero => simp [okD] at ha
    | succ n =>
      cases b <;> cases m <;> first
        | (simp [okD] at hb; done)
        | (simp only [toPy, PyData.eqv, eqD]; done)
        | (simp only [okD] at ha hb; simp only [toPy, PyData.eqv, eqD]; exact eqv_toPyL _ _ _ _ ha hb)
  | .str s, b, n, m, _, hb => by
    cases b <;> first
      | (simp [okD] at hb; done)
      | (simp only [toPy, PyData.eqv, eqD]; done)
      | (simp only [toPy, PyData.eqv, eqD]; exact str_beq' _ _)
  | .non, b, n, m, _, hb => by cases b <;> first | (simp only [toPy, PyData.eqv, eqD]; done) | (simp [okD] at hb; done)
  | .bl _, b, n, m, _, hb => by cases b <;> first | (simp only [toPy, PyData.eqv, eqD]; done) | (simp [okD] at hb; done)
  | .int _, b, n, m, _, hb => by cases b <;> first | (simp only [toPy, PyData.eqv, eqD]; done) | (simp [okD] at hb; done)
  | .dct _ _, b, n, m, ha, hb => by simp [okD] at ha
  | .ins _ _, b, n, m, ha, hb => by simp [okD] at ha
  | .dice, b, n, m, ha, hb => by simp [okD] at ha
  | .scr _, b, n, m, ha, hb => by simp [okD] at ha
theorem eqv_toPyL : ∀ (a b : List D) (n m : Nat), okL a n = true → okL b m = true → PyData.eqvAll (toPyL a) (toPyL b) = eqL a b
  | [], [], _, _, _, _ => by simp only [toPyL, PyData.eqvAll, eqL]
  | [], _ :: _, _, _, _, _ => by simp only [toPyL, PyData.eqvAll, eqL]
  | _ :: _, [], _, _, _, _ => by simp only [toPyL, PyData.eqvAll, eqL]
  | x :: xs, y :: ys, n, m, ha, hb => by
    have ha' : okD x n = true ∧ okL xs n = true := by simpa [okL] using ha
    have hb' : okD y m = true ∧ okL ys m = true := by simpa [okL] using hb
    simp only [toPyL, PyData.eqvAll, eqL]
    rw [eqv_toPy x y n m ha'.1 hb'.1, eqv_toPyL xs ys n m ha'.2 hb'.2]
end
theorem shaped_of {B : Bas} {z : Hp} {d : D} {v : V} (h : Rp B z d v) (k : dataOk d = true) : Dp B.K z v (toPy d) ∧ SeqAt.shaped (toPy d) = true := by
  obtain ⟨h1, h2, h3⟩ := dp_of h k
  refine ⟨h1, ?_⟩
  unfold SeqAt.shaped
  rw [h2, Bool.true_and]
  exact decide_eq_true (Nat.le_trans h3 (by decide))
theorem dp_ints {K : PySem.W.Frag} {z : Hp} : ∀ l : List Int, DpAll K z (l.map V.int) (l.map PyData.int) ∧ PyData.canLayAll0 (l.map PyData.int) = true ∧ PyData.depthAll (l.map PyData.int) = 0
  | [] => ⟨.nil, rfl, rfl⟩
  | i :: l => by
    obtain ⟨h1, h2, h3⟩ := dp_ints (K := K) (z := z) l
    refine ⟨.cons (.int i) h1, ?_, ?_⟩
    · show PyData.canLayAll0 (.int i :: l.map PyData.int) = true
      rw [PyData.canLayAll0, h2]
      rfl
    · show PyData.depthAll (.int i :: l.map PyData.int) = 0
      rw [PyData.depthAll, h3]
      rfl
theorem dp_scr {B : Bas} {z : Hp} {l : List Int} {v : V} (h : Rp B z (.scr l) v) : Dp B.K z v (.list (l.map PyData.int)) ∧ SeqAt.shaped (.list (l.map PyData.int)) = true := by
  unfold Rp at h
  obtain ⟨a, rfl, h1⟩ := h
  obtain ⟨q1, q2, q3⟩ := dp_ints (K := B.K) (z := z) l
  refine ⟨.lst h1 q1, ?_⟩
  unfold SeqAt.shaped
  rw [PyData.canLay0, q2, Bool.true_and, PyData.depth, q3]
  rfl
theorem Dp.mono {K : PySem.W.Frag} {z h : Hp} (e : Same z h) : ∀ (d : PyData) (v : V), Dp K z v d → Dp K h v d := fun d v q => by
  induction q using Dp.rec (motive_2 := fun vs ds _ => DpAll K h vs ds) with
  | non => exact .non
  | bl b => exact .bl b
  | int i => exact .int i
  | str x => exact .str x
  | lst h1 _ ih => exact .lst (e.seq h1) ih
  | tup h1 _ ih => exact .tup (Same.tup e h1) ih
  | nil => exact .nil
  | cons _ _ i1 i2 => exact .cons i1 i2
end Wk
/-! Wk, soundness 3: operators by values. -/
namespace Wk
open PySem PySem.Spec PyProof.Rows L2
theorem most_le {n : Nat} (h : n ≤ most) : n ≤ sizeLine := Nat.le_trans h (by decide)
theorem most_lt {n : Nat} (h : n < most) : n < sizeLine := Nat.lt_of_lt_of_le h (by decide)
def opB : Bop → Operator
  | .add => .Add
  | .sub => .Sub
  | .mul => .Mult
  | .mod => .Mod
  | .fdiv => .FloorDiv
  | .pow => .Pow
/-- what is asked of a result: for a value d (new objects may have come) -/
abbrev Want (B : Bas) (z H : Hp) (s : Sta) (d : D) (Q : VK) : Prop := ∀ z' H', Gr B.dp z H z' H' → StR B.dp z' H' s → ∀ v, Rp B z' d v → Q v H'
theorem Want.here {B : Bas} {z H : Hp} {s : Sta} {d : D} {Q : VK} (w : Want B z H s d Q) (t : StR B.dp z H s) {v : V} (h : Rp B z d v) : Q v H := w z H (Gr.refl t.le) t v h
theorem Want.new {B : Bas} {z H : Hp} {s : Sta} {d : D} {Q : VK} (w : Want B z H s d Q) (t : StR B.dp z H s) {p : Addr} {o : HO} (n : H p = Option.none) (h : Rp B (upd z p o) d (.ref p)) : Q (.ref p) (upd H p o) :=
  w _ _ (Gr.alloc t.le n) (t.alloc n) _ h
theorem same_alloc {z H : Hp} {p : Addr} {o : HO} (e : Same z H) (n : H p = Option.none) : Same z (upd z p o) := fun b u q => by rw [upd_ne (ne_of_none q (e.free n))]; exact q
theorem Rp.newL {B : Bas} {z H : Hp} {p : Addr} {l : List D} {vs : List V} (e : Same z H) (n : H p = Option.none) (h : RpL B z l vs) : Rp B (upd z p (.lst vs)) (.lst l) (.ref p) := by
  unfold Rp
  exact ⟨p, vs, rfl, upd_same, h.mono (same_alloc e n)⟩
theorem Rp.newT {B : Bas} {z H : Hp} {p : Addr} {l : List D} {vs : List V} (e : Same z H) (n : H p = Option.none) (h : RpL B z l vs) : Rp B (upd z p (.tup vs)) (.tup l) (.ref p) := by
  unfold Rp
  exact ⟨p, vs, rfl, SqT.of upd_same, h.mono (same_alloc e n)⟩
theorem rp_int {B : Bas} {z : Hp} {i : Int} {v : V} : Rp B z (.int i) v ↔ v = .int i := by unfold Rp; exact Iff.rfl
theorem rp_bl {B : Bas} {z : Hp} {i : Bool} {v : V} : Rp B z (.bl i) v ↔ v = .bl i := by unfold Rp; exact Iff.rfl
theorem rp_non {B : Bas} {z : Hp} {v : V} : Rp B z .non v ↔ v = .non := by unfold Rp; exact Iff.rfl
theorem rp_str {B : Bas} {z : Hp} {s : List Nat} {v : V} : Rp B z (.str s) v ↔ v = .str ⟨s.toArray⟩ ∧ ∀ c ∈ s, c < 0x110000 := by unfold Rp; exact Iff.rfl
theorem rp_lst {B : Bas} {z : Hp} {l : List D} {v : V} : Rp B z (.lst l) v ↔ ∃ a vs, v = .ref a ∧ z a = some (.lst vs) ∧ RpL B z l vs := by
  constructor <;> (intro h; unfold Rp at *; exact h)
theorem rp_tup {B : Bas} {z : Hp} {l : List D} {v : V} : Rp B z (.tup l) v ↔ ∃ a vs, v = .ref a ∧ SqT B.K z a vs ∧ RpL B z l vs := by
  constructor <;> (intro h; unfold Rp at *; exact h)
theorem wide_of {i : Int} (h : i.natAbs < bigW.natAbs) : i.natAbs < 2 ^ 256 := Nat.lt_of_lt_of_le h (by decide)
theorem CMul.rr {i j : Int} (h : mulOk i j = true) : CMul i j ∨ CMulW i j := by
  unfold mulOk at h
  simp only [Bool.or_eq_true, Bool.and_eq_true, decide_eq_true_eq] at h
  rcases h with (h | h) | h
  · exact .inl (.inl ⟨by have := h.1; unfold big64 at this; omega, by have := h.2; unfold big64 at this; omega⟩)
  · exact .inl (.inr ⟨by have := h.1; unfold big64 at this; omega, by have := h.2; unfold big64 at this; omega⟩)
  · exact .inr (wide_mul (wide_of h.1) (wide_of h.2) (by decide) (by decide) (by decide))
section
variable {B : Bas} {X : Cx} (hK : X.K = B.K)
include hK
theorem bin_wp (o : Bop) : ∃ rr : R2, OpR X (binaryOp (opB o)) rr ∧ ∀ (d1 d2 d : D) (v1 v2 : V) (z H : Hp) (s : Sta) (Q : VK), StR B.dp z H s → Rp B z d1 v1 → Rp B z d2 v2 → binD o d1 d2 = some d → Want B z H s d Q → rr v1 v2 H Q := by
  cases o with
  | add =>
    refine ⟨_, op_add.or (op_add_str.or (op_cat.or op_catA)), fun d1 d2 d v1 v2 z H s Q t h1 h2 e w => ?_⟩
    cases d1 <;> cases d2 <;> simp only [binD] at e <;> try (cases e; done)
    · rename_i i j
      cases e
      rw [rp_int] at h1 h2
      subst h1 h2
      exact .inl ⟨i, j, rfl, rfl, w.here t (rp_int.mpr rfl)⟩
    · rename_i a b
      split at e
      · rename_i hl
        cases e
        rw [rp_str] at h1 h2
        obtain ⟨rfl, c1⟩ := h1
        obtain ⟨rfl, c2⟩ := h2
        refine .inr (.inl ⟨_, _, rfl, rfl, ?_, w.here t (rp_str.mpr ⟨?_, ?_⟩)⟩)
        · show a.toArray.size + b.toArray.size ≤ sizeLine
          simpa using most_le hl
        · show V.str ⟨a.toArray ++ b.toArray⟩ = _
          simp
        · intro c hc
          rcases List.mem_append.mp hc with hc | hc
          · exact c1 c hc
          · exact c2 c hc
      · cases e
    · rename_i a b
      split at e
      · rename_i hl
        cases e
        rw [rp_tup] at h1 h2
        obtain ⟨p, xs, rfl, k1, l1⟩ := h1
        obtain ⟨q, ys, rfl, k2, l2⟩ := h2
        have n1 := l1.length
        have n2 := l2.length
        refine .inr (.inr (.inr ⟨p, q, xs, ys, rfl, rfl, by rw [hK]; exact Same.tup t.le k1, by rw [hK]; exact Same.tup t.le k2, by rw [n1, n2]; exact most_le hl, fun e0 => ?_, fun _ e0 => ?_, fun _ _ a' ha => ?_⟩))
        · have : a = [] := List.eq_nil_of_length_eq_zero (by rw [← n1, e0]; rfl)
          subst this
          exact w.here t (rp_tup.mpr ⟨q, ys, rfl, k2, l2⟩)
        · have : b = [] := List.eq_nil_of_length_eq_zero (by rw [← n2, e0]; rfl)
          subst this
          rw [List.append_nil] at w
          exact w.here t (rp_tup.mpr ⟨p, xs, rfl, k1, l1⟩)
        · exact w.new t ha (Rp.newT t.le ha (l1.append l2))
      · cases e
    · rename_i a b
      split at e
      · rename_i hl
        cases e
        rw [rp_lst] at h1 h2
        obtain ⟨p, xs, rfl, k1, l1⟩ := h1
        obtain ⟨q, ys, rfl, k2, l2⟩ := h2
        have n1 := l1.length
        have n2 := l2.length
        exact .inr (.inr (.inl ⟨p, q, xs, ys, rfl, rfl, t.le _ _ k1, t.le _ _ k2, by rw [n1, n2]; exact most_le hl, fun a' ha => w.new t ha (Rp.newL t.le ha (l1.append l2))⟩))
      · cases e
  | sub =>
    refine ⟨_, op_sub, fun d1 d2 d v1 v2 z H s Q t h1 h2 e w => ?_⟩
    cases d1 <;> cases d2 <;> simp only [binD] at e <;> try (cases e; done)
    rename_i i j
    cases e
    rw [rp_int] at h1 h2
    subst h1 h2
    exact ⟨i, j, rfl, rfl, w.here t (rp_int.mpr rfl)⟩
  | mul =>
    refine ⟨_, op_mul.or op_mulW, fun d1 d2 d v1 v2 z H s Q t h1 h2 e w => ?_⟩
    cases d1 <;> cases d2 <;> simp only [binD] at e <;> try (cases e; done)
    rename_i i j
    split at e
    · rename_i hm
      cases e
      rw [rp_int] at h1 h2
      subst h1 h2
      rcases CMul.rr hm with q | q
      · exact .inl ⟨i, j, rfl, rfl, q, w.here t (rp_int.mpr rfl)⟩
      · exact .inr ⟨i, j, rfl, rfl, q, w.here t (rp_int.mpr rfl)⟩
    · cases e
  | mod =>
    refine ⟨_, op_mod, fun d1 d2 d v1 v2 z H s Q t h1 h2 e w => ?_⟩
    cases d1 <;> cases d2 <;> simp only [binD] at e <;> try (cases e; done)
    rename_i i j
    split at e
    · rename_i hm
      cases e
      rw [rp_int] at h1 h2
      subst h1 h2
      exact ⟨i, j, rfl, rfl, hm, w.here t (rp_int.mpr rfl)⟩
    · cases e
  | fdiv =>
    refine ⟨_, op_fdivW, fun d1 d2 d v1 v2 z H s Q t h1 h2 e w => ?_⟩
    cases d1 <;> cases d2 <;> simp only [binD] at e <;> try (cases e; done)
    rename_i i j
    split at e
    · rename_i hm
      cases e
      rw [rp_int] at h1 h2
      subst h1 h2
      refine ⟨i, j, rfl, rfl, wide_div (b := 256) hm.1 (wide_of ?_) (by decide) (by decide), w.here t (rp_int.mpr rfl)⟩
      have := hm.1
      have := hm.2
      omega
    · cases e
  | pow =>
    refine ⟨_, op_pow, fun d1 d2 d v1 v2 z H s Q t h1 h2 e w => ?_⟩
    cases d1 <;> cases d2 <;> simp only [binD] at e <;> try (cases e; done)
    rename_i i j
    split at e
    · rename_i hm
      cases e
      rw [rp_int] at h1 h2
      subst h1 h2
      obtain ⟨q1, q2, q3, q4⟩ := hm
      refine ⟨i, j, rfl, rfl, ⟨q1, by omega, ?_⟩, w.here t (rp_int.mpr rfl)⟩
      unfold big64 at q3 q4
      omega
    · cases e
end

/-! ### comparisons -/
def opC : Cop → CmpOp
  | .lt => .Lt
  | .le => .LtE
  | .gt => .Gt
  | .ge => .GtE
  | .eq => .Eq
  | .ne => .NotEq
  | .isn => .Is
  | .notn => .IsNot
  | .inn => .In
  | .nin => .NotIn
section
variable {X : Cx}
def rInT (K : PySem.W.Frag) : R2 := fun x y H Q => ∃ d ds, Dp K H x d ∧ Dp K H y (.tuple ds) ∧ SeqAt.shaped d = true ∧ SeqAt.shaped (.tuple ds) = true ∧ Q (.bl (ds.any fun z => PyData.eqv z d)) H
def rNotInT (K : PySem.W.Frag) : R2 := fun x y H Q => ∃ d ds, Dp K H x d ∧ Dp K H y (.tuple ds) ∧ SeqAt.shaped d = true ∧ SeqAt.shaped (.tuple ds) = true ∧ Q (.bl (!ds.any fun z => PyData.eqv z d)) H
theorem room_inT {A : Around} {d : PyData} {n : Nat} (h : SeqAt.shaped d = true) (hu : A.units + 65 < cLine) : A.units + 1 + min n d.depth < cLine := by
  have h1 := SeqAt.depth_of_shaped h
  have h2 : min n d.depth ≤ d.depth := Nat.min_le_right _ _
  omega
theorem op_inT (hu : X.A.units + 65 < cLine) : OpR X (compareOp .In) (rInT X.K) := by
  intro pins s σ H x y v u Q I rx ry ⟨d, ds, hd, he, sd, se, q⟩
  have ⟨as, r1⟩ := Dp.reads I d x v hd rx
  have ⟨bs, r2⟩ := Dp.reads I (.tuple ds) y u he ry
  refine SeqAt.in_tuple_reads r2 r1 ?_ (SeqAt.canLay_of_shaped sd) (room_inT sd hu) ⟨.bl _, H, I, rfl, q⟩
  have := SeqAt.canLay_of_shaped se
  rwa [PyData.canLay0] at this
theorem op_notInT (hu : X.A.units + 65 < cLine) : OpR X (compareOp .NotIn) (rNotInT X.K) := by
  intro pins s σ H x y v u Q I rx ry ⟨d, ds, hd, he, sd, se, q⟩
  have ⟨as, r1⟩ := Dp.reads I d x v hd rx
  have ⟨bs, r2⟩ := Dp.reads I (.tuple ds) y u he ry
  refine SeqAt.notIn_tuple_reads r2 r1 ?_ (SeqAt.canLay_of_shaped sd) (room_inT sd hu) ⟨.bl _, H, I, rfl, q⟩
  have := SeqAt.canLay_of_shaped se
  rwa [PyData.canLay0] at this
end
theorem any_toPy {a : D} {n : Nat} (ha : okD a n = true) : ∀ (l : List D) (m : Nat), okL l m = true → ((toPyL l).any fun z => PyData.eqv z (toPy a)) = inL a l
  | [], _, _ => rfl
  | x :: l, m, h => by
    have h' : okD x m = true ∧ okL l m = true := by simpa [okL] using h
    show ((toPy x :: toPyL l).any fun z => PyData.eqv z (toPy a)) = ((x :: l).any fun y => eqD y a)
    rw [List.any_cons, List.any_cons, eqv_toPy x a m n h'.1 ha, any_toPy ha l m h'.2]
    rfl
theorem rp_isN {B : Bas} {z : Hp} {d : D} {v : V} (h : Rp B z d v) : decide (v = .non) = (match d with | .non => true | _ => false) := by
  cases d <;> unfold Rp at h
  · subst h; rfl
  · subst h; rfl
  · subst h; rfl
  · obtain ⟨rfl, _⟩ := h; rfl
  · obtain ⟨a, vs, rfl, _⟩ := h; rfl
  · obtain ⟨a, vs, rfl, _⟩ := h; rfl
  · exact h.elim
  · obtain ⟨a, dx, fs, rfl, _⟩ := h; rfl
  · obtain ⟨a, _, rfl⟩ := h; rfl
  · obtain ⟨a, rfl, _⟩ := h; rfl
theorem contains_mem (c : Nat) (l : List Nat) : l.contains c = decide (c ∈ l) := by
  by_cases h : c ∈ l
  · rw [decide_eq_true h]; simpa using h
  · rw [decide_eq_false h]; simpa using h
section
variable {B : Bas} {X : Cx} (hK : X.K = B.K) (hu : X.A.units + 65 < cLine)
include hK hu
theorem cmp_wp (o : Cop) : ∃ rr : R2, OpR X (compareOp (opC o)) rr ∧ ∀ (d1 d2 : D) (b : Bool) (v1 v2 : V) (z H : Hp) (Q : VK), Same z H → Rp B z d1 v1 → Rp B z d2 v2 → cmpD o d1 d2 = some b → Q (.bl b) H → rr v1 v2 H Q := by
  have hu64 : X.A.units + 64 < cLine := by omega
  have data : ∀ {d : D} {v : V} {z H : Hp}, Same z H → Rp B z d v → dataOk d = true → Dp X.K H v (toPy d) ∧ SeqAt.shaped (toPy d) = true := fun {d v z H} t h k => by
    obtain ⟨q1, q2⟩ := shaped_of h k
    rw [hK]
    exact ⟨Dp.mono t _ _ q1, q2⟩
  cases o with
  | lt =>
    refine ⟨_, op_lt, fun d1 d2 b v1 v2 z H Q t h1 h2 e w => ?_⟩
    cases d1 <;> cases d2 <;> simp only [cmpD] at e <;> try (cases e; done)
    rw [rp_int] at h1 h2
    subst h1 h2
    cases e
    exact ⟨_, _, rfl, rfl, w⟩
  | le =>
    refine ⟨_, op_le, fun d1 d2 b v1 v2 z H Q t h1 h2 e w => ?_⟩
    cases d1 <;> cases d2 <;> simp only [cmpD] at e <;> try (cases e; done)
    rw [rp_int] at h1 h2
    subst h1 h2
    cases e
    exact ⟨_, _, rfl, rfl, w⟩
  | gt =>
    refine ⟨_, op_gt, fun d1 d2 b v1 v2 z H Q t h1 h2 e w => ?_⟩
    cases d1 <;> cases d2 <;> simp only [cmpD] at e <;> try (cases e; done)
    rw [rp_int] at h1 h2
    subst h1 h2
    cases e
    exact ⟨_, _, rfl, rfl, w⟩
  | ge =>
    refine ⟨_, op_ge, fun d1 d2 b v1 v2 z H Q t h1 h2 e w => ?_⟩
    cases d1 <;> cases d2 <;> simp only [cmpD] at e <;> try (cases e; done)
    rw [rp_int] at h1 h2
    subst h1 h2
    cases e
    exact ⟨_, _, rfl, rfl, w⟩
  | eq =>
    refine ⟨_, op_eqD hu64, fun d1 d2 b v1 v2 z H Q t h1 h2 e w => ?_⟩
    have e : eqC d1 d2 = some b := e
    unfold eqC at e
    split at e
    · rename_i l _
      cases e
      obtain ⟨p1, p2⟩ := dp_scr h1
      obtain ⟨q1, q2⟩ := data t h2 (by rfl)
      have p1' : Dp X.K H v1 (.list (l.map PyData.int)) := by rw [hK]; exact Dp.mono t _ _ p1
      refine ⟨_, _, p1', q1, p2, q2, ?_⟩
      have : PyData.eqv (.list (l.map PyData.int)) (toPy (.lst [])) = l.isEmpty := by
        show PyData.eqv (.list (l.map PyData.int)) (.list []) = l.isEmpty
        rw [PyData.eqv]
        cases l <;> rfl
      rw [this]
      exact w
    split at e
    · rename_i hk
      rw [Bool.and_eq_true] at hk
      cases e
      obtain ⟨p1, p2⟩ := data t h1 hk.1
      obtain ⟨q1, q2⟩ := data t h2 hk.2
      exact ⟨_, _, p1, q1, p2, q2, by rw [eqv_toPy d1 d2 20 20 hk.1 hk.2]; exact w⟩
    · cases e
  | ne =>
    refine ⟨_, op_neD hu64, fun d1 d2 b v1 v2 z H Q t h1 h2 e w => ?_⟩
    simp only [cmpD] at e
    split at e
    · rename_i hk
      rw [Bool.and_eq_true] at hk
      cases e
      obtain ⟨p1, p2⟩ := data t h1 hk.1
      obtain ⟨q1, q2⟩ := data t h2 hk.2
      exact ⟨_, _, p1, q1, p2, q2, by rw [eqv_toPy d1 d2 20 20 hk.1 hk.2]; exact w⟩
    · cases e
  | isn =>
    refine ⟨_, op_isN, fun d1 d2 b v1 v2 z H Q t h1 h2 e w => ?_⟩
    cases d2 <;> simp only [cmpD] at e <;> try (cases e; done)
    rw [rp_non] at h2
    subst h2
    refine ⟨rfl, ?_⟩
    rw [rp_isN h1]
    cases d1 <;> simp only at e <;> cases e <;> exact w
  | notn =>
    refine ⟨_, op_notN, fun d1 d2 b v1 v2 z H Q t h1 h2 e w => ?_⟩
    cases d2 <;> simp only [cmpD] at e <;> try (cases e; done)
    rw [rp_non] at h2
    subst h2
    refine ⟨rfl, ?_⟩
    rw [rp_isN h1]
    cases d1 <;> simp only at e <;> cases e <;> exact w
  | inn =>
    refine ⟨_, op_in_sign.or ((op_inD hu).or (op_inT hu)), fun d1 d2 b v1 v2 z H Q t h1 h2 e w => ?_⟩
    cases d2 with
    | str y =>
      cases d1 <;> simp only [cmpD] at e <;> try (cases e; done)
      rename_i x
      match x, h1, e with
      | [c], h1, e =>
        simp only [cmpD] at e
        cases e
        rw [rp_str] at h1 h2
        obtain ⟨rfl, _⟩ := h1
        obtain ⟨rfl, _⟩ := h2
        refine .inl ⟨c, _, rfl, rfl, ?_⟩
        rw [contains_mem] at w
        simpa using w
    | lst l =>
      have e' : (if dataOk d1 && dataOk (.lst l) then some (inL d1 l) else Option.none) = some b := by
        cases d1 <;> first | exact e | (rename_i x; match x, e with | [], e => exact e | [_], e => exact e | _ :: _ :: _, e => exact e)
      split at e'
      · rename_i hk
        rw [Bool.and_eq_true] at hk
        cases e'
        obtain ⟨p1, p2⟩ := data t h1 hk.1
        obtain ⟨q1, q2⟩ := data t h2 hk.2
        have hl : okL l 19 = true := by have := hk.2; unfold dataOk at this; simpa [okD] using this
        exact .inr (.inl ⟨_, _, p1, q1, p2, q2, by rw [any_toPy hk.1 l 19 hl]; exact w⟩)
      · cases e'
    | tup l =>
      have e' : (if dataOk d1 && dataOk (.tup l) then some (inL d1 l) else Option.none) = some b := by
        cases d1 <;> first | exact e | (rename_i x; match x, e with | [], e => exact e | [_], e => exact e | _ :: _ :: _, e => exact e)
      split at e'
      · rename_i hk
        rw [Bool.and_eq_true] at hk
        cases e'
        obtain ⟨p1, p2⟩ := data t h1 hk.1
        obtain ⟨q1, q2⟩ := data t h2 hk.2
        have hl : okL l 19 = true := by have := hk.2; unfold dataOk at this; simpa [okD] using this
        exact .inr (.inr ⟨_, _, p1, q1, p2, q2, by rw [any_toPy hk.1 l 19 hl]; exact w⟩)
      · cases e'
    | _ => cases d1 <;> simp [cmpD] at e
  | nin =>
    refine ⟨_, op_notIn_sign.or ((op_notInD hu).or (op_notInT hu)), fun d1 d2 b v1 v2 z H Q t h1 h2 e w => ?_⟩
    cases d2 with
    | str y =>
      cases d1 <;> simp only [cmpD] at e <;> try (cases e; done)
      rename_i x
      match x, h1, e with
      | [c], h1, e =>
        simp only [cmpD] at e
        cases e
        rw [rp_str] at h1 h2
        obtain ⟨rfl, _⟩ := h1
        obtain ⟨rfl, _⟩ := h2
        refine .inl ⟨c, _, rfl, rfl, ?_⟩
        rw [contains_mem] at w
        simpa using w
    | lst l =>
      have e' : (if dataOk d1 && dataOk (.lst l) then some (!inL d1 l) else Option.none) = some b := by
        cases d1 <;> first | exact e | (rename_i x; match x, e with | [], e => exact e | [_], e => exact e | _ :: _ :: _, e => exact e)
      split at e'
      · rename_i hk
        rw [Bool.and_eq_true] at hk
        cases e'
        obtain ⟨p1, p2⟩ := data t h1 hk.1
        obtain ⟨q1, q2⟩ := data t h2 hk.2
        have hl : okL l 19 = true := by have := hk.2; unfold dataOk at this; simpa [okD] using this
        exact .inr (.inl ⟨_, _, p1, q1, p2, q2, by rw [any_toPy hk.1 l 19 hl]; exact w⟩)
      · cases e'
    | tup l =>
      have e' : (if dataOk d1 && dataOk (.tup l) then some (!inL d1 l) else Option.none) = some b := by
        cases d1 <;> first | exact e | (rename_i x; match x, e with | [], e => exact e | [_], e => exact e | _ :: _ :: _, e => exact e)
      split at e'
      · rename_i hk
        rw [Bool.and_eq_true] at hk
        cases e'
        obtain ⟨p1, p2⟩ := data t h1 hk.1
        obtain ⟨q1, q2⟩ := data t h2 hk.2
        have hl : okL l 19 = true := by have := hk.2; unfold dataOk at this; simpa [okD] using this
        exact .inr (.inr ⟨_, _, p1, q1, p2, q2, by rw [any_toPy hk.1 l 19 hl]; exact w⟩)
      · cases e'
    | _ => cases d1 <;> simp [cmpD] at e
end
end Wk
/-! Wk, soundness 4: subscripts, slices, isinstance, built-ins by values. -/
namespace Wk
open PySem PySem.Spec PyProof.Rows L2
theorem ixAt_eq (n : Nat) (i : Int) : ixAt n i = ixN n i := rfl
theorem getI_atI {A : Type} (l : List A) (i : Int) : getI l i = atI l i := by
  unfold getI atI
  rw [ixAt_eq]
  cases ixN l.length i <;> rfl
theorem RpL.atI {B : Bas} {z : Hp} {l : List D} {vs : List V} {i : Int} {d : D} (h : RpL B z l vs) (e : getI l i = some d) : ∃ v, L2.atI vs i = some v ∧ Rp B z d v := by
  unfold getI at e
  unfold L2.atI
  rw [h.length, ← ixAt_eq]
  cases q : ixAt l.length i with
  | none => rw [q] at e; cases e
  | some j =>
    rw [q] at e
    exact h.get e
theorem sIx_eq (n d : Nat) (o : Option Int) : sIx n d o = HT.sIx n d o := by cases o <;> rfl
theorem RpL.cut {B : Bas} {z : Hp} {l : List D} {vs : List V} (h : RpL B z l vs) (lo hi : Option Int) : RpL B z (cut l lo hi) (cutV vs lo hi) := by
  unfold Wk.cut cutV
  rw [h.length, sIx_eq, sIx_eq]
  exact (h.drop _).take _
section
variable {B : Bas} {X : Cx} (hK : X.K = B.K)
include hK
theorem ix_wp : IxR X (rIx X.K) ∧ ∀ (d1 d2 d : D) (v1 v2 : V) (z H : Hp) (s : Sta) (Q : VK), StR B.dp z H s → Rp B z d1 v1 → Rp B z d2 v2 → ixS s d1 d2 = some d → Want B z H s d Q → rIx X.K v1 v2 H Q := by
  refine ⟨ix_seq, fun d1 d2 d v1 v2 z H s Q t h1 h2 e w => ?_⟩
  cases d1 with
  | lst l =>
    cases d2 <;> simp only [ixS, ixD] at e <;> try (cases e; done)
    rw [rp_int] at h2
    subst h2
    obtain ⟨a, vs, rfl, k, hl⟩ := rp_lst.mp h1
    obtain ⟨v, q1, q2⟩ := hl.atI e
    exact .inl ⟨a, vs, _, v, rfl, rfl, SqL.of (t.le _ _ k), q1, w.here t q2⟩
  | tup l =>
    cases d2 <;> simp only [ixS, ixD] at e <;> try (cases e; done)
    rw [rp_int] at h2
    subst h2
    obtain ⟨a, vs, rfl, k, hl⟩ := rp_tup.mp h1
    obtain ⟨v, q1, q2⟩ := hl.atI e
    exact .inr (.inl ⟨a, vs, _, v, rfl, rfl, by rw [hK]; exact Same.tup t.le k, q1, w.here t q2⟩)
  | str x =>
    cases d2 <;> simp only [ixS, ixD] at e <;> try (cases e; done)
    rename_i i
    rw [rp_int] at h2
    subst h2
    obtain ⟨rfl, hc⟩ := rp_str.mp h1
    split at e
    · rename_i hl
      cases q : getI x i with
      | none => rw [q] at e; cases e
      | some c =>
        rw [q] at e
        cases e
        refine .inr (.inr ⟨_, i, c, rfl, rfl, ?_, ?_, w.here t (rp_str.mpr ⟨rfl, ?_⟩)⟩)
        · show x.toArray.size ≤ sizeLine
          simpa using most_le hl
        · rw [getI_atI] at q
          simpa using q
        · intro c' hc'
          have : c' = c := by simpa using hc'
          subst this
          unfold getI at q
          cases qq : ixAt x.length i with
          | none => rw [qq] at q; cases q
          | some j =>
            rw [qq] at q
            exact hc _ (List.mem_of_getElem? q)
    · cases e
  | scr l =>
    cases d2 <;> simp only [ixS, ixD] at e <;> try (cases e; done)
    rename_i i
    rw [rp_int] at h2
    subst h2
    unfold Rp at h1
    obtain ⟨a, rfl, k⟩ := h1
    cases q : getI l i with
    | none => rw [q] at e; cases e
    | some j =>
      rw [q] at e
      cases e
      refine .inl ⟨a, _, i, .int j, rfl, rfl, by rw [hK]; exact t.le.seq k, ?_, w.here t (rp_int.mpr rfl)⟩
      unfold getI at q
      unfold L2.atI
      rw [List.length_map, ← ixAt_eq]
      cases qq : ixAt l.length i with
      | none => rw [qq] at q; cases q
      | some m =>
        rw [qq] at q
        show (l.map V.int)[m]? = some (.int j)
        rw [List.getElem?_map]
        have q : l[m]? = some j := q
        rw [q]
        rfl
  | dice =>
    unfold Rp at h1
    obtain ⟨p, ep, rfl⟩ := h1
    have hp := t.at_ p ep
    cases d2 <;> simp only [ixS] at e <;> try (cases e; done)
    rename_i i
    rw [rp_int] at h2
    subst h2
    match i, e with
    | 0, e =>
      cases e
      exact .inl ⟨p, _, 0, _, rfl, rfl, SqL.of hp, rfl, w.here t (rp_int.mpr rfl)⟩
    | 1, e =>
      cases e
      exact .inl ⟨p, _, 1, _, rfl, rfl, SqL.of hp, rfl, w.here t (rp_int.mpr rfl)⟩
  | _ => simp [ixS, ixD] at e
theorem sl_wp : ∃ rr, SlR X rr ∧ ∀ (d1 d : D) (lo hi : Option Int) (v1 : V) (z H : Hp) (s : Sta) (Q : VK), StR B.dp z H s → Rp B z d1 v1 → slD d1 lo hi = some d → Want B z H s d Q → rr v1 lo hi H Q := by
  refine ⟨_, sl_list.or (sl_tupA.or sl_str), fun d1 d lo hi v1 z H s Q t h1 e w => ?_⟩
  cases d1 with
  | lst l =>
    simp only [slD] at e
    cases e
    obtain ⟨a, vs, rfl, k, hl⟩ := rp_lst.mp h1
    exact .inl ⟨a, vs, rfl, SqL.of (t.le _ _ k), fun p hp => w.new t hp (Rp.newL t.le hp (hl.cut lo hi))⟩
  | tup l =>
    simp only [slD] at e
    cases e
    obtain ⟨a, vs, rfl, k, hl⟩ := rp_tup.mp h1
    have kk : SqT X.K H a vs := by rw [hK]; exact Same.tup t.le k
    refine .inr (.inl ⟨a, vs, rfl, kk, fun q => ?_, fun _ p hp => w.new t hp (Rp.newT t.le hp (hl.cut lo hi))⟩)
    have e2 : cut l lo hi = l := by
      unfold cut
      rw [sIx_eq, sIx_eq, ← hl.length, q.1, q.2, hl.length]
      simp
    rw [e2] at w
    exact w.here t h1
  | str x =>
    simp only [slD] at e
    split at e
    · rename_i hl
      cases e
      obtain ⟨rfl, hc⟩ := rp_str.mp h1
      refine .inr (.inr ⟨_, rfl, ?_, w.here t (rp_str.mpr ⟨?_, ?_⟩)⟩)
      · show x.toArray.size ≤ sizeLine
        simpa using most_le hl
      · unfold cutS cut
        simp [sIx_eq, Str.length]
      · intro c hcc
        unfold cut at hcc
        exact hc c (List.mem_of_mem_drop (List.mem_of_mem_take hcc))
    · cases e
  | _ => simp [slD] at e
end

/-! ### isinstance -/
def tyName : Ty → Option String
  | .int => some "int"
  | .bool => some "bool"
  | .str => some "str"
  | .tup => some "tuple"
  | .lst => some "list"
  | _ => Option.none
/-- the type of a plain value -/
theorem tyx {B : Bas} {z H : Hp} {d : D} {v : V} (t : Same z H) (h : Rp B z d v) : (∃ n : String, TyX B.K H v (.type n) ∧ match d with
    | .non => n = "NoneType"
    | .bl _ => n = "bool"
    | .int _ => n = "int"
    | .str _ => n = "str"
    | .tup _ => n = "tuple"
    | .lst _ => n = "list"
    | _ => False) ∨ (match d with | .ins _ _ => True | .dice => True | .scr _ => True | _ => False) := by
  cases d with
  | non => rw [rp_non] at h; subst h; exact .inl ⟨_, .base .non, rfl⟩
  | bl b => rw [rp_bl] at h; subst h; exact .inl ⟨_, .base (.bl b), rfl⟩
  | int b => rw [rp_int] at h; subst h; exact .inl ⟨_, .base (.int b), rfl⟩
  | str b => obtain ⟨rfl, _⟩ := rp_str.mp h; exact .inl ⟨_, .base (.str _), rfl⟩
  | lst l =>
    obtain ⟨a, vs, rfl, k, hl⟩ := rp_lst.mp h
    exact .inl ⟨_, .base (.lst (t _ _ k)), rfl⟩
  | tup l =>
    obtain ⟨a, vs, rfl, k, hl⟩ := rp_tup.mp h
    rcases Same.tup t k with (k | ⟨o, k⟩) | ⟨o, its, n, k1, k2, _⟩
    · exact .inl ⟨_, .base (.tup k), rfl⟩
    · exact .inl ⟨_, .fTuple k, rfl⟩
    · exact .inl ⟨_, .kTuple k1 k2, rfl⟩
  | dct _ _ => unfold Rp at h; exact h.elim
  | ins _ _ => exact .inr True.intro
  | dice => exact .inr True.intro
  | scr _ => exact .inr True.intro
theorem kb {K : PySem.W.Frag} {a b : String} {r : Bool} (h : kitB a b = some r) : PySem.W.kitOne K (.type a) (.type b) = some r := h
theorem isi_wp {B : Bas} {d : D} {v : V} {z H : Hp} {K : PySem.W.Frag} {ty : Ty} {n : String} {b : Bool} (hK : K = B.K) (hn : tyName ty = some n) (t : Same z H) (h : Rp B z d v) (e : isiD ty d = some b) {Q : VK} (q : Q (.bl b) H) :
    rIsi K [v, .ty n] H Q := by
  subst hK
  rcases tyx t h with ⟨m, hm, hd⟩ | hd
  · refine ⟨v, .ty n, .type m, .type n, b, rfl, .ty n, hm, kb ?_, q⟩
    cases ty <;> simp only [tyName] at hn <;> try (cases hn; done)
    all_goals
      cases hn
      cases d <;> simp only [isiD] at e <;> first | (cases e; done) | (subst hd; cases e; decide +kernel) | (exact hd.elim)
  · cases d <;> first | (exact hd.elim) | (cases ty <;> simp [isiD] at e; done) | (cases ty <;> simp [isiD] at e <;> simp [tyName] at hn)
theorem isi2_wp {B : Bas} {d : D} {v : V} {z H : Hp} {K : PySem.W.Frag} {b : Bool} (hK : K = B.K) (t : Same z H) (h : Rp B z d v) (e : isiD .lstTup d = some b) {Q : VK} {tp : Addr} (ht : H tp = some (.tup [.ty "list", .ty "tuple"])) (q : Q (.bl b) H) :
    rIsiT K [v, .ref tp] H Q := by
  subst hK
  rcases tyx t h with ⟨m, hm, hd⟩ | hd
  · refine ⟨v, tp, _, .type m, [.type "list", .type "tuple"], b, rfl, ht, .cons (.ty _) (.cons (.ty _) .nil), hm, ?_, q⟩
    cases d <;> simp only [isiD] at e <;> first | (cases e; done) | (subst hd; cases e; first
      | exact kitAny_cons (b := true) (kb (by decide +kernel)) (fun z => nomatch z) (fun _ => rfl)
      | exact kitAny_cons (b := false) (kb (by decide +kernel)) (fun _ => kitAny_cons (b := true) (kb (by decide +kernel)) (fun z => nomatch z) (fun _ => rfl)) (fun z => nomatch z)
      | exact kitAny_cons (b := false) (kb (by decide +kernel)) (fun _ => kitAny_cons (b := false) (kb (by decide +kernel)) (fun _ => rfl) (fun z => nomatch z)) (fun z => nomatch z)) | (exact hd.elim)
  · cases d <;> first | (exact hd.elim) | (simp [isiD] at e; done)

/-! ### one-place built-ins -/
def biV : Bi → Value
  | .len => .builtin "len"
  | .all => .builtin "all"
  | .any => .builtin "any"
  | .sum => .builtin "sum"
  | .int => .type "int"
  | .tuple => .type "tuple"
  | .list => .type "list"
  | .str => .type "str"
  | _ => .none
theorem allBl_of {B : Bas} {z : Hp} : ∀ {l : List D} {vs : List V} {b : Bool}, RpL B z l vs → allBl l = some b → ∃ bs : List Bool, vs = bs.map V.bl ∧ b = bs.all id
  | [], vs, b, h, e => by
    unfold RpL at h; subst h
    cases e
    exact ⟨[], rfl, rfl⟩
  | d :: l, vs, b, h, e => by
    unfold RpL at h
    obtain ⟨v, r, rfl, h1, h2⟩ := h
    cases d <;> simp only [allBl] at e <;> try (cases e; done)
    rename_i k
    cases q : allBl l with
    | none => rw [q] at e; cases e
    | some c =>
      rw [q] at e
      cases e
      obtain ⟨bs, rfl, rfl⟩ := allBl_of h2 q
      rw [rp_bl] at h1
      subst h1
      exact ⟨k :: bs, rfl, rfl⟩
theorem anyBl_of {B : Bas} {z : Hp} : ∀ {l : List D} {vs : List V} {b : Bool}, RpL B z l vs → anyBl l = some b → ∃ bs : List Bool, vs = bs.map V.bl ∧ b = bs.any id
  | [], vs, b, h, e => by
    unfold RpL at h; subst h
    cases e
    exact ⟨[], rfl, rfl⟩
  | d :: l, vs, b, h, e => by
    unfold RpL at h
    obtain ⟨v, r, rfl, h1, h2⟩ := h
    cases d <;> simp only [anyBl] at e <;> try (cases e; done)
    rename_i k
    cases q : anyBl l with
    | none => rw [q] at e; cases e
    | some c =>
      rw [q] at e
      cases e
      obtain ⟨bs, rfl, rfl⟩ := anyBl_of h2 q
      rw [rp_bl] at h1
      subst h1
      exact ⟨k :: bs, rfl, rfl⟩
theorem sumI_of {B : Bas} {z : Hp} : ∀ {l : List D} {vs : List V} {b : Int}, RpL B z l vs → sumI l = some b → ∃ bs : List Int, vs = bs.map V.int ∧ b = bs.sum
  | [], vs, b, h, e => by
    unfold RpL at h; subst h
    cases e
    exact ⟨[], rfl, rfl⟩
  | d :: l, vs, b, h, e => by
    unfold RpL at h
    obtain ⟨v, r, rfl, h1, h2⟩ := h
    cases d <;> simp only [sumI] at e <;> try (cases e; done)
    rename_i k
    cases q : sumI l with
    | none => rw [q] at e; cases e
    | some c =>
      rw [q] at e
      cases e
      obtain ⟨bs, rfl, rfl⟩ := sumI_of h2 q
      rw [rp_int] at h1
      subst h1
      exact ⟨k :: bs, rfl, by simp⟩
def biOk : Bi → Bool
  | .len | .all | .any | .sum | .int | .tuple | .list => true
  | _ => false
section
variable {B : Bas} {X : Cx} (hK : X.K = B.K) (hc : X.calm = true)
include hK hc
theorem bi_wp (b : Bi) (hb : biOk b = true) : ∃ rr, CallR X (biV b) rr ∧ ∀ (d1 d : D) (v1 : V) (z H : Hp) (s : Sta) (Q : VK), StR B.dp z H s → Rp B z d1 v1 → biD b d1 = some d → Want B z H s d Q → rr [v1] H Q := by
  cases b with
  | len =>
    refine ⟨_, call_len, fun d1 d v1 z H s Q t h1 e w => ?_⟩
    cases d1 <;> simp only [biD] at e <;> try (cases e; done)
    · split at e
      · rename_i x hl
        cases e
        obtain ⟨rfl, _⟩ := rp_str.mp h1
        refine ⟨_, x.length, rfl, ?_, w.here t (rp_int.mpr rfl)⟩
        show x.toArray.size ≤ sizeLine ∧ _ = x.toArray.size
        simpa using most_le hl
      · cases e
    · cases e
      obtain ⟨a, vs, rfl, k, hl⟩ := rp_tup.mp h1
      refine ⟨_, vs.length, rfl, .inr ⟨vs, by rw [hK]; exact Same.tup t.le k, rfl⟩, ?_⟩
      rw [hl.length]
      exact w.here t (rp_int.mpr rfl)
    · cases e
      obtain ⟨a, vs, rfl, k, hl⟩ := rp_lst.mp h1
      refine ⟨_, vs.length, rfl, .inl ⟨vs, SqL.of (t.le _ _ k), rfl⟩, ?_⟩
      rw [hl.length]
      exact w.here t (rp_int.mpr rfl)
    · unfold Rp at h1
      exact h1.elim
    · cases e
      rename_i l
      unfold Rp at h1
      obtain ⟨a, rfl, k⟩ := h1
      refine ⟨_, (l.map V.int).length, rfl, .inl ⟨_, by rw [hK]; exact t.le.seq k, rfl⟩, ?_⟩
      rw [List.length_map]
      exact w.here t (rp_int.mpr rfl)
  | all =>
    refine ⟨_, cr_all hc, fun d1 d v1 z H s Q t h1 e w => ?_⟩
    cases d1 <;> simp only [biD] at e <;> try (cases e; done)
    rename_i l
    obtain ⟨a, vs, rfl, k, hl⟩ := rp_lst.mp h1
    cases q : allBl l with
    | none => rw [q] at e; cases e
    | some c =>
      rw [q] at e
      cases e
      obtain ⟨bs, rfl, rfl⟩ := allBl_of hl q
      exact ⟨a, bs, rfl, SqL.of (t.le _ _ k), w.here t (rp_bl.mpr rfl)⟩
  | any =>
    refine ⟨_, cr_any hc, fun d1 d v1 z H s Q t h1 e w => ?_⟩
    cases d1 <;> simp only [biD] at e <;> try (cases e; done)
    rename_i l
    obtain ⟨a, vs, rfl, k, hl⟩ := rp_lst.mp h1
    cases q : anyBl l with
    | none => rw [q] at e; cases e
    | some c =>
      rw [q] at e
      cases e
      obtain ⟨bs, rfl, rfl⟩ := anyBl_of hl q
      exact ⟨a, bs, rfl, SqL.of (t.le _ _ k), w.here t (rp_bl.mpr rfl)⟩
  | sum =>
    refine ⟨_, cr_sum hc, fun d1 d v1 z H s Q t h1 e w => ?_⟩
    cases d1 <;> simp only [biD] at e <;> try (cases e; done)
    rename_i l
    obtain ⟨a, vs, rfl, k, hl⟩ := rp_lst.mp h1
    cases q : sumI l with
    | none => rw [q] at e; cases e
    | some c =>
      rw [q] at e
      cases e
      obtain ⟨bs, rfl, rfl⟩ := sumI_of hl q
      exact ⟨a, bs, rfl, SqL.of (t.le _ _ k), w.here t (rp_int.mpr rfl)⟩
  | int =>
    refine ⟨_, call_int1, fun d1 d v1 z H s Q t h1 e w => ?_⟩
    cases d1 <;> simp only [biD] at e <;> try (cases e; done)
    · cases e
      rw [rp_bl] at h1
      subst h1
      exact .inr ⟨_, rfl, w.here t (rp_int.mpr rfl)⟩
    · cases e
      rw [rp_int] at h1
      subst h1
      exact .inl ⟨_, rfl, w.here t (rp_int.mpr rfl)⟩
  | tuple =>
    refine ⟨_, call_tuple_of, fun d1 d v1 z H s Q t h1 e w => ?_⟩
    cases d1 <;> simp only [biD] at e <;> try (cases e; done)
    · cases e
      obtain ⟨a, vs, rfl, k, hl⟩ := rp_tup.mp h1
      exact ⟨a, vs, rfl, .inr ⟨by rw [hK]; exact Same.tup t.le k, w.here t h1⟩⟩
    · cases e
      obtain ⟨a, vs, rfl, k, hl⟩ := rp_lst.mp h1
      exact ⟨a, vs, rfl, .inl ⟨SqL.of (t.le _ _ k), fun p hp => w.new t hp (Rp.newT t.le hp hl)⟩⟩
  | list =>
    refine ⟨_, call_list_of, fun d1 d v1 z H s Q t h1 e w => ?_⟩
    cases d1 <;> simp only [biD] at e <;> try (cases e; done)
    · cases e
      obtain ⟨a, vs, rfl, k, hl⟩ := rp_tup.mp h1
      exact ⟨a, vs, rfl, .inr (by rw [hK]; exact Same.tup t.le k), fun p hp => w.new t hp (Rp.newL t.le hp hl)⟩
    · cases e
      obtain ⟨a, vs, rfl, k, hl⟩ := rp_lst.mp h1
      exact ⟨a, vs, rfl, .inl (SqL.of (t.le _ _ k)), fun p hp => w.new t hp (Rp.newL t.le hp hl)⟩
  | _ => cases hb
end
end Wk
/-! Wk, soundness 5: the check of a text against the small language; contexts; the simple expressions. -/
namespace Wk
open PySem PySem.Spec PyProof.Rows L2
structure Cfg where
  N : List Str
  sc : Scope
  fn : Str → Bool
  tab : List (Nat × Str × List Str)
  gl : List (Nat × Str × D)
  xs : List (Nat × Str)
mutual
def sameD : D → D → Bool
  | .non, .non => true
  | .bl a, .bl b => a == b
  | .int i, .int j => i == j
  | .str x, .str y => x == y
  | .lst xs, .lst ys => sameL xs ys
  | .tup xs, .tup ys => sameL xs ys
  | _, _ => false
def sameL : List D → List D → Bool
  | [], [] => true
  | x :: xs, y :: ys => sameD x y && sameL xs ys
  | _, _ => false
end
mutual
theorem sameD_eq : ∀ {a b : D}, sameD a b = true → a = b
  | .non, b, h => by cases b <;> simp [sameD] at h <;> rfl
  | .bl _, b, h => by cases b <;> simp [sameD] at h; subst h; rfl
  | .int _, b, h => by cases b <;> simp [sameD] at h; subst h; rfl
  | .str _, b, h => by cases b <;> simp [sameD] at h; subst h; rfl
  | .lst l, b, h => by
    cases b <;> simp [sameD] at h
    rw [sameL_eq h]
  | .tup l, b, h => by
    cases b <;> simp [sameD] at h
    rw [sameL_eq h]
  | .dct _ _, b, h => by cases b <;> simp [sameD] at h
  | .ins _ _, b, h => by cases b <;> simp [sameD] at h
  | .dice, b, h => by cases b <;> simp [sameD] at h
  | .scr _, b, h => by cases b <;> simp [sameD] at h
theorem sameL_eq : ∀ {a b : List D}, sameL a b = true → a = b
  | [], b, h => by cases b <;> simp [sameL] at h; rfl
  | x :: xs, b, h => by
    cases b with
    | nil => simp [sameL] at h
    | cons y ys =>
      have h' : sameD x y = true ∧ sameL xs ys = true := by simpa [sameL] using h
      rw [sameD_eq h'.1, sameL_eq h'.2]
end
def lkB (c : Cfg) (x : Str) (k : NameKind) : Bool := decide (c.sc.names.lookup x = some k)
def dbgB (x : Str) : Bool := !(x == ("__debug__" : Str)) && !(x == ("__classdict__" : Str))
def visB (c : Cfg) (x : Str) : Bool := (lkB c x .local || lkB c x .cell || lkB c x .free) && dbgB x
def glB (c : Cfg) (x : Str) : Bool := lkB c x .globalImplicit && dbgB x
def slotB (c : Cfg) (i : Nat) (x : Str) : Bool := decide (c.N[i]? = some x)
def locB (c : Cfg) (x : Str) : Bool := lkB c x .local || (lkB c x .cell && c.fn x)
def cstB : D → Const → Bool
  | .non, .none => true
  | .bl a, .bool b => a == b
  | .int a, .int b => a == b
  | .str a, .str b => (b.cps.toList == a) && a.all (fun c => decide (c < 0x110000))
  | _, _ => false
def biName : Bi → Str
  | .len => "len"
  | .all => "all"
  | .any => "any"
  | .sum => "sum"
  | .int => "int"
  | .tuple => "tuple"
  | .list => "list"
  | .str => "str"
  | _ => ""
def tyStr : Ty → Str
  | .int => "int"
  | .bool => "bool"
  | .str => "str"
  | .tup => "tuple"
  | .lst => "list"
  | _ => ""
/-- names of built-ins that the texts use -/
def bnames : List Str := ["len", "all", "any", "sum", "int", "tuple", "list", "str", "bool", "isinstance", "min", "max", "range", "enumerate", "zip", "sorted", "set", "dict"]
mutual
def chT (c : Cfg) : Tg → Expr → Bool
  | .nm i, e => (match e with
    | .Name x _ => slotB c i x && locB c x
    | _ => false)
  | .tp t, e => (match e with
    | .Tuple es _ _ => chTs c t es
    | _ => false)
  | _, _ => false
def chTs (c : Cfg) : Tg → List Expr → Bool
  | .nil, es => (match es with
    | [] => true
    | _ => false)
  | .cons a b, es => (match es with
    | e :: es => chT c a e && chTs c b es
    | _ => false)
  | _, _ => false
end
def tgIn (vs : List Nat) : Tg → Bool
  | .nm i => vs.contains i
  | .tp t => tgIn vs t
  | .nil => true
  | .cons a b => tgIn vs a && tgIn vs b
def ownOf (c : Cfg) (vs : List Nat) : List (Str × Nat) := vs.map fun i => (c.N.getD i "", i)
def inBlk (c : Cfg) (scope : Scope) : Cfg := { c with sc := relS scope c.sc, fn := fun x => scope.names.lookup x == some .cell }
def opBB : Bop → Operator → Bool := fun o op => decide (op = opB o)
def opCB : Cop → CmpOp → Bool := fun o op => decide (op = opC o)
def ordC : Cop → Bool
  | .lt | .le | .gt | .ge => true
  | _ => false

/-! the check of one node: by what its parts answer -/
def kVar (i : Nat) (c : Cfg) : Expr → Bool
  | .Name x _ => slotB c i x && visB c x
  | _ => false
def kCst (d : D) : Expr → Bool
  | .Constant k _ _ => cstB d k
  | _ => false
def kGlb (g : Nat) (d : D) (c : Cfg) : Expr → Bool
  | .Name x _ => glB c x && (match c.gl.lookup g with
    | some (y, d') => decide (x = y) && sameD d d'
    | _ => false)
  | _ => false
def kBin (o : Bop) (a b : Expr → Bool) : Expr → Bool
  | .BinOp l op r _ => opBB o op && a l && b r
  | _ => false
def kCmp (o : Cop) (a b : Expr → Bool) : Expr → Bool
  | .Compare l [op] [r] _ => opCB o op && a l && b r && !behindInMarks op r
  | _ => false
def kChain (o p : Cop) (a b d : Expr → Bool) : Expr → Bool
  | .Compare l [op, op'] [m, r] _ => ordC p && opCB o op && opCB p op' && a l && b m && d r
  | _ => false
def kAnd (a b : Expr → Bool) : Expr → Bool
  | .BoolOp .And [x, y] _ => a x && b y
  | .BoolOp .And (x :: y :: y' :: r) pos => a x && b (.BoolOp .And (y :: y' :: r) pos)
  | _ => false
def kOr (a b : Expr → Bool) : Expr → Bool
  | .BoolOp .Or [x, y] _ => a x && b y
  | .BoolOp .Or (x :: y :: y' :: r) pos => a x && b (.BoolOp .Or (y :: y' :: r) pos)
  | _ => false
def kNot (a : Expr → Bool) : Expr → Bool
  | .UnaryOp .Not x _ => a x
  | _ => false
def kIte (t a b : Expr → Bool) : Expr → Bool
  | .IfExp x y z _ => t x && a y && b z
  | _ => false
def kTup (a : List Expr → Bool) : Expr → Bool
  | .Tuple es _ _ => a es
  | _ => false
def kLst (a : List Expr → Bool) : Expr → Bool
  | .List es _ => a es
  | _ => false
def isSl : Expr → Bool
  | .Slice _ _ _ _ => true
  | _ => false
def kIx (a b : Expr → Bool) : Expr → Bool
  | .Subscript v i _ => a v && b i && !isSl i
  | _ => false
def kPart (n : Bool) (a : Expr → Bool) : Option Expr → Bool
  | some x => a x && !n
  | none => n
def kSl (a : Expr → Bool) (lo hi : Option Expr → Bool) : Expr → Bool
  | .Subscript v (.Slice l h none _) _ => a v && lo l && hi h
  | _ => false
def isLT : Ty → Bool
  | .lstTup => true
  | _ => false
def kTy (t : Ty) (c : Cfg) : Expr → Bool
  | .Name n _ => decide (n = tyStr t) && glB c n && (tyName t).isSome
  | .Tuple [.Name n _, .Name m _] _ _ => isLT t && decide (n = ("list" : Str)) && decide (m = ("tuple" : Str)) && glB c n && glB c m
  | _ => false
def kIsi (t : Ty) (c : Cfg) (a : Expr → Bool) : Expr → Bool
  | .Call (.Name f _) [x, y] [] _ => decide (f = ("isinstance" : Str)) && glB c f && a x && kTy t c y
  | _ => false
def kNeg (a : Expr → Bool) : Expr → Bool
  | .UnaryOp .USub x _ => a x
  | _ => false
def kC1 (n : Str) (c : Cfg) (a : Expr → Bool) : Expr → Bool
  | .Call (.Name f _) [x] [] _ => decide (f = n) && glB c f && a x
  | _ => false
def kC2 (n : Str) (c : Cfg) (a b : Expr → Bool) : Expr → Bool
  | .Call (.Name f _) [x, y] [] _ => decide (f = n) && glB c f && a x && b y
  | _ => false
def kBi (b : Bi) (c : Cfg) (a : Expr → Bool) (e : Expr) : Bool := match b with
  | .neg => kNeg a e
  | b => biOk b && kC1 (biName b) c a e
def kCall (f : Nat) (c : Cfg) (a : List Expr → Bool) : Expr → Bool
  | .Call (.Name x _) args [] _ => glB c x && (match c.tab.lookup f with
      | some (y, ps) => decide (x = y) && decide (args.length = ps.length)
      | none => false) && a args
  | _ => false
def isTrueC : E → Bool
  | .cst (.bl true) => true
  | _ => false
def kIfs (n : Bool) (a : Expr → Bool) : List Expr → Bool
  | [] => n
  | [x] => a x
  | _ => false
def kLc (vs : List Nat) (t : Tg) (c : Cfg) (el cd : Cfg → Expr → Bool) (yes : Bool) (it : Expr → Bool) : Expr → Bool
  | .ListComp elt [⟨tg, iter, ifs, 0⟩] scope _ => blkC c.N c.sc scope (ownOf c vs) && tgIn vs t && chT (inBlk c scope) t tg && el (inBlk c scope) elt && kIfs yes (cd (inBlk c scope)) ifs && it iter
  | _ => false

def kSc (vs : List Nat) (t : Tg) (c : Cfg) (el cd : Cfg → Expr → Bool) (yes : Bool) (it : Expr → Bool) : Expr → Bool
  | .Call (.Name f _) [.SetComp elt [⟨tg, iter, ifs, 0⟩] scope _] [] _ => decide (f = ("len" : Str)) && glB c f && blkC c.N c.sc scope (ownOf c vs) && tgIn vs t && chT (inBlk c scope) t tg && el (inBlk c scope) elt && kIfs yes (cd (inBlk c scope)) ifs && it iter
  | _ => false

mutual
def chE : E → Cfg → Expr → Bool
  | .nil => fun _ _ => false
  | .cons _ _ => fun _ _ => false
  | .var i => fun c e => kVar i c e
  | .cst d => fun _ e => kCst d e
  | .glb g d => fun c e => kGlb g d c e
  | .bin o a b => fun c e => kBin o (chE a c) (chE b c) e
  | .cmp o a b => fun c e => kCmp o (chE a c) (chE b c) e
  | .chain o p a b d => fun c e => kChain o p (chE a c) (chE b c) (chE d c) e
  | .and a b => fun c e => kAnd (chE a c) (chE b c) e
  | .or a b => fun c e => kOr (chE a c) (chE b c) e
  | .not a => fun c e => kNot (chE a c) e
  | .ite t a b => fun c e => kIte (chE t c) (chE a c) (chE b c) e
  | .tup a => fun c e => kTup (chL a c) e
  | .lst a => fun c e => kLst (chL a c) e
  | .ix a b => fun c e => kIx (chE a c) (chE b c) e
  | .sl a lo hi => fun c e => kSl (chE a c) (kPart (isNonC lo) (chE lo c)) (kPart (isNonC hi) (chE hi c)) e
  | .isi a t => fun c e => kIsi t c (chE a c) e
  | .bi b a => fun c e => kBi b c (chE a c) e
  | .mn a b => fun c e => kC2 "min" c (chE a c) (chE b c) e
  | .mx a b => fun c e => kC2 "max" c (chE a c) (chE b c) e
  | .call f a => fun c e => kCall f c (chL a c) e
  | .lc vs t it cd el => fun c e => kLc vs t c (chE el) (chE cd) (isTrueC cd) (chI it c) e
  | .slen vs t it cd el => fun c e => kSc vs t c (chE el) (chE cd) (isTrueC cd) (chI it c) e
  | .rng _ => fun _ _ => false
  | .rng2 _ _ => fun _ _ => false
def chL : E → Cfg → List Expr → Bool
  | .nil => fun _ es => es.isEmpty
  | .cons a b => fun c es => (match es with
    | e :: es => chE a c e && chL b c es
    | [] => false)
  | _ => fun _ _ => false
/-- an iterable -/
def chI : E → Cfg → Expr → Bool
  | .rng a => fun c e => kC1 "range" c (chE a c) e
  | .rng2 a b => fun c e => kC2 "range" c (chE a c) (chE b c) e
  | .var i => fun c e => kVar i c e
  | .cst d => fun _ e => kCst d e
  | .glb g d => fun c e => kGlb g d c e
  | .bin o a b => fun c e => kBin o (chE a c) (chE b c) e
  | .ite t a b => fun c e => kIte (chE t c) (chE a c) (chE b c) e
  | .tup a => fun c e => kTup (chL a c) e
  | .lst a => fun c e => kLst (chL a c) e
  | .ix a b => fun c e => kIx (chE a c) (chE b c) e
  | .sl a lo hi => fun c e => kSl (chE a c) (kPart (isNonC lo) (chE lo c)) (kPart (isNonC hi) (chE hi c)) e
  | .bi b a => fun c e => kBi b c (chE a c) e
  | .call f a => fun c e => kCall f c (chL a c) e
  | .lc vs t it cd el => fun c e => kLc vs t c (chE el) (chE cd) (isTrueC cd) (chI it c) e
  | _ => fun _ _ => false
end
end Wk
/-! Wk, soundness 6: contexts; the simple expressions, one by one. -/
namespace Wk
open PySem PySem.Spec PyProof.Rows L2
/-- a def's promise by the evaluator -/
def spF (B : Bas) (cl : CallT) (f n : Nat) : Sp := fun vs H Q E => ∃ (dp : Option Addr) (l : List D) (s : Sta) (z : Hp), l.length = n ∧ StR dp z H s ∧ RpL (B.at dp) z l vs ∧
  Po (B.at dp) z H (cl f l s) (KV1 (B.at dp) Q) E
structure FnAt (B : Bas) (cl : CallT) (X : Cx) (k f : Nat) (nm : Str) (ps : List Str) : Prop where
  ok : ∃ (fa : Addr) (fd : FuncData), X.mg nm = some (.ref fa) ∧ PySem.W.keepIn X.K (.ref fa) = true ∧ Binds X.K fd ps [] ∧ FnOk X.prog X.w X.K X.mg X.base (CX X.prog X.w) k fa fd ps (spF B cl f ps.length)
/-- a context of the text c, its calls by cl -/
structure XOk (B : Bas) (cl : CallT) (k : Nat) (c : Cfg) (X : Cx) (W : WX) : Prop where
  hK : X.K = B.K
  hN : X.N = c.N
  sc : X.env.scope = c.sc
  nd : X.N.Nodup
  calm : X.calm = true
  room : Room k X.A
  tk : Takes X W
  fn : X.fn = c.fn
  fns : ∀ (f : Nat) (nm : Str) (ps : List Str), c.tab.lookup f = some (nm, ps) → FnAt B cl X k f nm ps
  gls : ∀ (g : Nat) (nm : Str) (d : D), c.gl.lookup g = some (nm, d) → ∃ u v, X.mg nm = some u ∧ RelV v u ∧ ∀ (B' : Bas) (z : Hp), B'.K = B.K → Rp B' z d v
  bns : ∀ x ∈ bnames, X.mg x = Option.none
  kind : c.sc.kind = .function
  exs : ∀ (n : Nat) (nm : Str), c.xs.lookup n = some nm → X.mg nm = some (.ref (B.xa n)) ∧ PySem.W.keepIn X.K (.ref (B.xa n)) = true ∧ PySem.W.excIn X.K (B.xa n) vTail "ValueError.__new__" = true ∧
    PySem.W.subIn X.K (.ref (B.xa n)) (.type "BaseException") = some true ∧ PySem.W.typeIn X.K (.ref (B.xa n)) = some (.type "type")
theorem hu65 {k : Nat} {A : Around} (hr : Room k A) : A.units + 65 < cLine := by have := hr.un; omega
theorem lk_of {c : Cfg} {x : Str} {k : NameKind} (h : lkB c x k = true) : c.sc.names.lookup x = some k := of_decide_eq_true h
theorem dbg_of {x : Str} (h : dbgB x = true) : (x == ("__debug__" : Str)) = false ∧ (x == ("__classdict__" : Str)) = false := by
  unfold dbgB at h
  rw [Bool.and_eq_true, Bool.not_eq_true', Bool.not_eq_true'] at h
  exact h
/-- no star -/
theorem no_star (c : Cfg) (v : Expr) (p : Pos) : ∀ ir : E, chE ir c (.Starred v p) = false := by
  intro ir
  cases ir <;> first | rfl | skip
  rename_i b a
  cases b <;> rfl
theorem plain_star {ir : E} {c : Cfg} {e : Expr} (h : chE ir c e = true) (es : List Expr) (env : PySem.Env) : starEach (e :: es) env = (false, eval e env) :: starEach es env := by
  cases e <;> first | rfl | skip
  rw [no_star] at h
  cases h
theorem chL_cons {a b : E} {c : Cfg} {e : Expr} {es : List Expr} (h : chL (.cons a b) c (e :: es) = true) : chE a c e = true ∧ chL b c es = true := by
  have h : (chE a c e && chL b c es) = true := h
  rwa [Bool.and_eq_true] at h
theorem plain_all : ∀ {ir : E} {c : Cfg} {es : List Expr}, chL ir c es = true → ∀ (pos : Pos) (env : PySem.Env), (backTo pos (starEach es env)).any (·.1) = false := by
  intro ir
  induction ir with
  | nil =>
    intro c es h pos env
    cases es with
    | nil => rfl
    | cons => cases h
  | cons a b _ ihb =>
    intro c es h pos env
    cases es with
    | nil => cases h
    | cons e es =>
      have h' := chL_cons h
      rw [plain_star h'.1]
      have := ihb h'.2 pos env
      simpa [backTo] using this
  | _ =>
    intro c es h pos env
    cases h
section
variable {B : Bas} {cl : CallT} {k : Nat} {c : Cfg} {X : Cx} {W : WX}
theorem XOk.vis (x : XOk B cl k c X W) {n : Str} (h : visB c n = true) : Vis X.env.scope n ∧ (n == ("__debug__" : Str)) = false ∧ (n == ("__classdict__" : Str)) = false := by
  unfold visB at h
  rw [Bool.and_eq_true, Bool.or_eq_true, Bool.or_eq_true] at h
  refine ⟨?_, dbg_of h.2⟩
  unfold Vis
  rw [x.sc]
  rcases h.1 with (h | h) | h
  · exact .inl (lk_of h)
  · exact .inr (.inl (lk_of h))
  · exact .inr (.inr (lk_of h))
theorem XOk.gl (x : XOk B cl k c X W) {n : Str} (h : glB c n = true) : Gl X n ∧ (n == ("__debug__" : Str)) = false := by
  unfold glB at h
  rw [Bool.and_eq_true] at h
  refine ⟨?_, (dbg_of h.2).1⟩
  show X.env.scope.names.lookup n = some .globalImplicit
  rw [x.sc]
  exact lk_of h.1
theorem XOk.slot (x : XOk B cl k c X W) {n : Str} {i : Nat} (h : slotB c i n = true) : X.N[i]? = some n := by
  rw [x.hN]
  exact of_decide_eq_true h
theorem XOk.loc (x : XOk B cl k c X W) {n : Str} (h : locB c n = true) : L2.Loc X.env.scope n ∧ (X.fn n = true ∨ X.env.scope.names.lookup n = some .local) := by
  unfold locB at h
  rw [Bool.or_eq_true, Bool.and_eq_true] at h
  unfold L2.Loc
  rw [x.sc, x.fn]
  rcases h with h | h
  · exact ⟨.inl (lk_of h), .inr (lk_of h)⟩
  · exact ⟨.inr (lk_of h.1), .inl h.2⟩

/-! ### the expressions -/
theorem snd_var (x : XOk B cl k c X W) {i : Nat} {e : Expr} (h : chE (.var i) c e = true) : SndE B cl X W e (.var i) := by
  have h : kVar i c e = true := h
  unfold kVar at h
  split at h
  · rename_i n pos
    rw [Bool.and_eq_true] at h
    obtain ⟨v1, v2, v3⟩ := x.vis h.2
    intro r s σ z H Q en st p
    refine WE.of (pe_var (x.slot h.1) v1 v2 v3) ?_
    simp only [evE] at p
    split at p
    · rename_i d hd
      obtain ⟨v, q1, q2⟩ := en.at_ i d hd
      exact ⟨v, q1, p.here st v q2⟩
    · exact p.elim
  · cases h
theorem cst_rp {B : Bas} {z : Hp} {d : D} {k : Const} (h : cstB d k = true) : ∃ v, Rp B z d v ∧ ∀ (X : Cx) (j : Nat) (pos : Pos), PE X (.Constant k j pos) (tC v) := by
  cases d <;> cases k <;> simp only [cstB] at h <;> try (cases h; done)
  · exact ⟨.non, rp_non.mpr rfl, fun _ _ _ => pe_non⟩
  · have e := eq_of_beq h
    subst e
    exact ⟨_, rp_bl.mpr rfl, fun _ _ _ => pe_bl⟩
  · have e := eq_of_beq h
    subst e
    exact ⟨_, rp_int.mpr rfl, fun _ _ _ => pe_int⟩
  · rename_i a b
    rw [Bool.and_eq_true] at h
    have e : b.cps.toList = a := eq_of_beq h.1
    refine ⟨.str b, rp_str.mpr ⟨?_, fun c hc => ?_⟩, fun _ _ _ => pe_str⟩
    · subst e
      simp
    · have := List.all_eq_true.mp h.2 c hc
      exact of_decide_eq_true this
theorem snd_cst {d : D} {e : Expr} (h : chE (.cst d) c e = true) : SndE B cl X W e (.cst d) := by
  have h : kCst d e = true := h
  unfold kCst at h
  split at h
  · intro r s σ z H Q en st p
    obtain ⟨v, q1, q2⟩ := cst_rp (B := B) (z := z) h
    exact WE.of (q2 X _ _) (p.here st v q1)
  · cases h
theorem snd_glb (x : XOk B cl k c X W) {g : Nat} {d : D} {e : Expr} (h : chE (.glb g d) c e = true) : SndE B cl X W e (.glb g d) := by
  have h : kGlb g d c e = true := h
  unfold kGlb at h
  split at h
  · rename_i n pos _
    rw [Bool.and_eq_true] at h
    obtain ⟨h1, h2⟩ := h
    split at h2
    · rename_i y d' hg
      rw [Bool.and_eq_true] at h2
      have e1 : n = y := of_decide_eq_true h2.1
      have e2 := sameD_eq h2.2
      subst e1 e2
      obtain ⟨u, v, q1, q2, q3⟩ := x.gls g n d hg
      intro r s σ z H Q en st p
      exact WE.of (pe_glob (x.gl h1).1 q1 q2 (x.gl h1).2) (p.here st v (q3 B z rfl))
    · cases h2
  · cases h
theorem snd_bin (x : XOk B cl k c X W) {o : Bop} {a b : E} {l r' : Expr} {pos : Pos} (ha : SndE B cl X W l a) (hb : SndE B cl X W r' b) : SndE B cl X W (.BinOp l (opB o) r' pos) (.bin o a b) := by
  intro r s σ z H Q en st p
  obtain ⟨rr, ho, hw⟩ := bin_wp (B := B) x.hK o
  refine WE.of (pe_op ho peW peW) ?_
  simp only [evE] at p
  refine ha.bind en st p fun d1 s1 v1 z1 H1 g1 st1 r1 p1 => ?_
  refine hb.bind (en.mono g1.sub) st1 p1 fun d2 s2 v2 z2 H2 g2 st2 r2 p2 => ?_
  obtain ⟨d, e, p3⟩ := p2.ofO1
  exact hw d1 d2 d v1 v2 z2 H2 s2 Q st2 (r1.mono g2.sub) r2 e p3
theorem snd_cmp (x : XOk B cl k c X W) {o : Cop} {a b : E} {l r' : Expr} {pos : Pos} (hm : behindInMarks (opC o) r' = false) (ha : SndE B cl X W l a) (hb : SndE B cl X W r' b) : SndE B cl X W (.Compare l [opC o] [r'] pos) (.cmp o a b) := by
  intro r s σ z H Q en st p
  obtain ⟨rr, ho, hw⟩ := cmp_wp (B := B) x.hK (hu65 x.room) o
  refine WE.of (pe_cmpR ho peW peW hm) ?_
  simp only [evE] at p
  refine ha.bind en st p fun d1 s1 v1 z1 H1 g1 st1 r1 p1 => ?_
  refine hb.bind (en.mono g1.sub) st1 p1 fun d2 s2 v2 z2 H2 g2 st2 r2 p2 => ?_
  obtain ⟨d, e, p3⟩ := p2.ofO
  exact hw d1 d2 d v1 v2 z2 H2 Q st2.le (r1.mono g2.sub) r2 e (p3.here st2 _ (rp_bl.mpr rfl))
theorem snt_cmp (x : XOk B cl k c X W) {o : Cop} {a b : E} {l r' : Expr} {pos : Pos} (hm : behindInMarks (opC o) r' = false) (ha : SndE B cl X W l a) (hb : SndE B cl X W r' b) : SndT B cl X W (.Compare l [opC o] [r'] pos) (.cmp o a b) := by
  intro r s σ z H Q en st p
  obtain ⟨rr, ho, hw⟩ := cmp_wp (B := B) x.hK (hu65 x.room) o
  refine WT.of (pt_cmpR ho peW peW hm) ?_
  simp only [evE, Res.bind_assoc] at p
  refine ha.bind en st p fun d1 s1 v1 z1 H1 g1 st1 r1 p1 => ?_
  refine hb.bind (en.mono g1.sub) st1 p1 fun d2 s2 v2 z2 H2 g2 st2 r2 p2 => ?_
  obtain ⟨d, e, p3⟩ := p2.ofO
  exact hw d1 d2 d v1 v2 z2 H2 _ st2.le (r1.mono g2.sub) r2 e ⟨d, rfl, (show Po B z2 H2 (.ok d s2) _ _ from p3).here st2⟩
theorem ord_marks {o o' : Cop} {m r' : Expr} (h : ordC o' = true) : lastMarks [opC o, opC o'] [m, r'] = false := by
  show behindInMarks (opC o') r' = false
  cases o' <;> first | (cases h; done) | exact nobehind _ (by decide) (by decide)
theorem snd_chain (x : XOk B cl k c X W) {o o' : Cop} {a b d : E} {l m r' : Expr} {pos : Pos} (h2 : ordC o' = true) (ha : SndE B cl X W l a) (hb : SndE B cl X W m b) (hd : SndE B cl X W r' d) :
    SndE B cl X W (.Compare l [opC o, opC o'] [m, r'] pos) (.chain o o' a b d) := by
  intro r s σ z H Q en st p
  obtain ⟨rr, ho, hw⟩ := cmp_wp (B := B) x.hK (hu65 x.room) o
  obtain ⟨rr', ho', hw'⟩ := cmp_wp (B := B) x.hK (hu65 x.room) o'
  refine WE.of (pe_chain ho ho' peW peW peW (ord_marks h2)) ?_
  simp only [evE] at p
  refine ha.bind en st p fun d1 s1 v1 z1 H1 g1 st1 r1 p1 => ?_
  refine hb.bind (en.mono g1.sub) st1 p1 fun d2 s2 v2 z2 H2 g2 st2 r2 p2 => ?_
  obtain ⟨q, e, p3⟩ := p2.ofO
  refine hw d1 d2 q v1 v2 z2 H2 _ st2.le (r1.mono g2.sub) r2 e ⟨q, rfl, ?_⟩
  cases q with
  | true =>
    simp only [if_true] at p3 ⊢
    refine hd.bind ((en.mono g1.sub).mono g2.sub) st2 p3 fun d3 s3 v3 z3 H3 g3 st3 r3 p4 => ?_
    obtain ⟨q, e, p5⟩ := p4.ofO
    exact hw' d2 d3 q v2 v3 z3 H3 Q st3.le (r2.mono g3.sub) r3 e (p5.here st3 _ (rp_bl.mpr rfl))
  | false =>
    simp only [Bool.false_eq_true, if_false] at p3 ⊢
    exact p3.here st2 _ (rp_bl.mpr rfl)
theorem snt_chain (x : XOk B cl k c X W) {o o' : Cop} {a b d : E} {l m r' : Expr} {pos : Pos} (h2 : ordC o' = true) (ha : SndE B cl X W l a) (hb : SndE B cl X W m b) (hd : SndE B cl X W r' d) :
    SndT B cl X W (.Compare l [opC o, opC o'] [m, r'] pos) (.chain o o' a b d) := by
  intro r s σ z H Q en st p
  obtain ⟨rr, ho, hw⟩ := cmp_wp (B := B) x.hK (hu65 x.room) o
  obtain ⟨rr', ho', hw'⟩ := cmp_wp (B := B) x.hK (hu65 x.room) o'
  refine WT.of (pt_chain ho ho' peW peW peW (ord_marks h2)) ?_
  simp only [evE, Res.bind_assoc] at p
  refine ha.bind en st p fun d1 s1 v1 z1 H1 g1 st1 r1 p1 => ?_
  refine hb.bind (en.mono g1.sub) st1 p1 fun d2 s2 v2 z2 H2 g2 st2 r2 p2 => ?_
  obtain ⟨q, e, p3⟩ := p2.ofO
  refine hw d1 d2 q v1 v2 z2 H2 _ st2.le (r1.mono g2.sub) r2 e ⟨q, rfl, ?_⟩
  cases q with
  | true =>
    simp only [if_true, Res.bind_assoc] at p3 ⊢
    refine hd.bind ((en.mono g1.sub).mono g2.sub) st2 p3 fun d3 s3 v3 z3 H3 g3 st3 r3 p4 => ?_
    obtain ⟨q, e, p5⟩ := p4.ofO
    exact hw' d2 d3 q v2 v3 z3 H3 _ st3.le (r2.mono g3.sub) r3 e ⟨q, rfl, (show Po B z3 H3 (.ok q s3) _ _ from p5).here st3⟩
  | false =>
    simp only [Bool.false_eq_true, if_false] at p3 ⊢
    exact ⟨false, rfl, (show Po B z2 H2 (.ok false s2) _ _ from p3).here st2⟩
/-- a test that is a value -/
theorem snt_of {e : Expr} {ir : E} (he : ∀ whole, isTrue e X.env whole = (do let v ← whole; standAt e.pos; holding [v] (truthy v))) (h : SndE B cl X W e ir) : SndT B cl X W e ir := by
  intro r s σ z H Q en st p
  refine WT.of (pt_val peW he) ?_
  refine h.bind en st p fun d s1 v z1 H1 g1 st1 r1 p1 => ?_
  obtain ⟨b, e1, p2⟩ := p1.ofO1
  cases d <;> simp only [blD] at e1 <;> try (cases e1; done)
  cases e1
  exact ⟨_, rp_bl.mp r1, p2.here st1⟩
end
end Wk
/-! Wk, soundness 7: and, or, not, displays, arguments, subscripts, built-ins, calls. -/
namespace Wk
open PySem PySem.Spec PyProof.Rows L2
section
variable {B : Bas} {cl : CallT} {k : Nat} {c : Cfg} {X : Cx} {W : WX}
theorem pwW {op : BoolOp} {vs : List Expr} {pos : Pos} : PW X (.BoolOp op vs pos) (WT X (.BoolOp op vs pos)) := ⟨fun wh pins s σ H Q I h => by
  have e : ∀ w1 w2, isTrue (.BoolOp op vs pos) X.env w1 = isTrue (.BoolOp op vs pos) X.env w2 := fun w1 w2 => by rw [isTrue.eq_def, isTrue.eq_def]
  rw [e wh (eval (.BoolOp op vs pos) X.env)]
  exact h pins s I⟩
theorem snd_and2 {a b : E} {x y : Expr} {pos : Pos} (ha : SndE B cl X W x a) (hb : SndE B cl X W y b) : SndE B cl X W (.BoolOp .And [x, y] pos) (.and a b) := by
  intro r s σ z H Q en st p
  refine WE.of (pe_and peW (pe_one peW)) ?_
  have p : Po B z H ((evE cl a r s).bind fun x s => (ofO s (blD x)).bind fun k s => if k then evE cl b r s else .ok (.bl false) s) (KV1 B Q) (WXs W σ) := p
  refine ha.bind en st p fun d1 s1 v1 z1 H1 g1 st1 r1 p1 => ?_
  obtain ⟨q, e, p2⟩ := p1.ofO
  cases d1 <;> simp only [blD] at e <;> try (cases e; done)
  cases e
  refine ⟨_, rp_bl.mp r1, ?_⟩
  cases q with
  | true => exact hb r s1 σ z1 H1 Q (en.mono g1.sub) st1 p2
  | false => exact p2.here st1 _ (rp_bl.mpr rfl)
theorem snd_andN {a b : E} {x y y' : Expr} {r' : List Expr} {pos : Pos} (ha : SndE B cl X W x a) (hb : SndE B cl X W (.BoolOp .And (y :: y' :: r') pos) b) : SndE B cl X W (.BoolOp .And (x :: y :: y' :: r') pos) (.and a b) := by
  intro r s σ z H Q en st p
  refine WE.of (pe_and peW peW) ?_
  have p : Po B z H ((evE cl a r s).bind fun x s => (ofO s (blD x)).bind fun k s => if k then evE cl b r s else .ok (.bl false) s) (KV1 B Q) (WXs W σ) := p
  refine ha.bind en st p fun d1 s1 v1 z1 H1 g1 st1 r1 p1 => ?_
  obtain ⟨q, e, p2⟩ := p1.ofO
  cases d1 <;> simp only [blD] at e <;> try (cases e; done)
  cases e
  refine ⟨_, rp_bl.mp r1, ?_⟩
  cases q with
  | true => exact hb r s1 σ z1 H1 Q (en.mono g1.sub) st1 p2
  | false => exact p2.here st1 _ (rp_bl.mpr rfl)
theorem snd_or2 {a b : E} {x y : Expr} {pos : Pos} (ha : SndE B cl X W x a) (hb : SndE B cl X W y b) : SndE B cl X W (.BoolOp .Or [x, y] pos) (.or a b) := by
  intro r s σ z H Q en st p
  refine WE.of (pe_or peW (pe_one peW)) ?_
  have p : Po B z H ((evE cl a r s).bind fun x s => (ofO s (blD x)).bind fun k s => if k then .ok (.bl true) s else evE cl b r s) (KV1 B Q) (WXs W σ) := p
  refine ha.bind en st p fun d1 s1 v1 z1 H1 g1 st1 r1 p1 => ?_
  obtain ⟨q, e, p2⟩ := p1.ofO
  cases d1 <;> simp only [blD] at e <;> try (cases e; done)
  cases e
  refine ⟨_, rp_bl.mp r1, ?_⟩
  cases q with
  | false => exact hb r s1 σ z1 H1 Q (en.mono g1.sub) st1 p2
  | true => exact p2.here st1 _ (rp_bl.mpr rfl)
theorem snd_orN {a b : E} {x y y' : Expr} {r' : List Expr} {pos : Pos} (ha : SndE B cl X W x a) (hb : SndE B cl X W (.BoolOp .Or (y :: y' :: r') pos) b) : SndE B cl X W (.BoolOp .Or (x :: y :: y' :: r') pos) (.or a b) := by
  intro r s σ z H Q en st p
  refine WE.of (pe_or peW peW) ?_
  have p : Po B z H ((evE cl a r s).bind fun x s => (ofO s (blD x)).bind fun k s => if k then .ok (.bl true) s else evE cl b r s) (KV1 B Q) (WXs W σ) := p
  refine ha.bind en st p fun d1 s1 v1 z1 H1 g1 st1 r1 p1 => ?_
  obtain ⟨q, e, p2⟩ := p1.ofO
  cases d1 <;> simp only [blD] at e <;> try (cases e; done)
  cases e
  refine ⟨_, rp_bl.mp r1, ?_⟩
  cases q with
  | false => exact hb r s1 σ z1 H1 Q (en.mono g1.sub) st1 p2
  | true => exact p2.here st1 _ (rp_bl.mpr rfl)
theorem Res.assocB {A : Type} (m : Res D) (f : Bool → Sta → Res A) : (m.bind fun x s => (ofO s (blD x)).bind f) = (m.bind fun x s => ofO s (blD x)).bind f := by
  rw [Res.bind_assoc]
theorem and_bl (a b : E) (r : En) (s : Sta) : ((evE cl (.and a b) r s).bind fun x s => ofO s (blD x)) = (((evE cl a r s).bind fun x s => ofO s (blD x)).bind fun k s => if k then ((evE cl b r s).bind fun x s => ofO s (blD x)) else .ok false s) := by
  show (((evE cl a r s).bind fun x s => (ofO s (blD x)).bind fun k s => if k then evE cl b r s else .ok (.bl false) s).bind fun x s => ofO s (blD x)) = _
  rw [Res.bind_assoc, Res.bind_assoc]
  congr 1
  funext x s
  rw [Res.bind_assoc]
  cases blD x with
  | none => rfl
  | some k => cases k <;> rfl
theorem or_bl (a b : E) (r : En) (s : Sta) : ((evE cl (.or a b) r s).bind fun x s => ofO s (blD x)) = (((evE cl a r s).bind fun x s => ofO s (blD x)).bind fun k s => if k then .ok true s else ((evE cl b r s).bind fun x s => ofO s (blD x))) := by
  show (((evE cl a r s).bind fun x s => (ofO s (blD x)).bind fun k s => if k then .ok (.bl true) s else evE cl b r s).bind fun x s => ofO s (blD x)) = _
  rw [Res.bind_assoc, Res.bind_assoc]
  congr 1
  funext x s
  rw [Res.bind_assoc]
  cases blD x with
  | none => rfl
  | some k => cases k <;> rfl
theorem snt_and2 {a b : E} {x y : Expr} {pos : Pos} (ha : SndT B cl X W x a) (hb : SndT B cl X W y b) : SndT B cl X W (.BoolOp .And [x, y] pos) (.and a b) := by
  intro r s σ z H Q en st p
  refine WT.of (PW.pt (pw_and ptW (pw_and1 ptW))) ?_
  rw [and_bl] at p
  refine ha.bind en st p fun q s1 z1 H1 g1 st1 p2 => ?_
  cases q with
  | true => exact hb r s1 σ z1 H1 Q (en.mono g1.sub) st1 p2
  | false => exact p2.here st1
theorem snt_andN {a b : E} {x y y' : Expr} {r' : List Expr} {pos : Pos} (ha : SndT B cl X W x a) (hb : SndT B cl X W (.BoolOp .And (y :: y' :: r') pos) b) : SndT B cl X W (.BoolOp .And (x :: y :: y' :: r') pos) (.and a b) := by
  intro r s σ z H Q en st p
  refine WT.of (PW.pt (pw_and ptW pwW)) ?_
  rw [and_bl] at p
  refine ha.bind en st p fun q s1 z1 H1 g1 st1 p2 => ?_
  cases q with
  | true => exact hb r s1 σ z1 H1 Q (en.mono g1.sub) st1 p2
  | false => exact p2.here st1
theorem snt_or2 {a b : E} {x y : Expr} {pos : Pos} (ha : SndT B cl X W x a) (hb : SndT B cl X W y b) : SndT B cl X W (.BoolOp .Or [x, y] pos) (.or a b) := by
  intro r s σ z H Q en st p
  refine WT.of (PW.pt (pw_or ptW (pw_or1 ptW))) ?_
  rw [or_bl] at p
  refine ha.bind en st p fun q s1 z1 H1 g1 st1 p2 => ?_
  cases q with
  | false => exact hb r s1 σ z1 H1 Q (en.mono g1.sub) st1 p2
  | true => exact p2.here st1
theorem snt_orN {a b : E} {x y y' : Expr} {r' : List Expr} {pos : Pos} (ha : SndT B cl X W x a) (hb : SndT B cl X W (.BoolOp .Or (y :: y' :: r') pos) b) : SndT B cl X W (.BoolOp .Or (x :: y :: y' :: r') pos) (.or a b) := by
  intro r s σ z H Q en st p
  refine WT.of (PW.pt (pw_or ptW pwW)) ?_
  rw [or_bl] at p
  refine ha.bind en st p fun q s1 z1 H1 g1 st1 p2 => ?_
  cases q with
  | false => exact hb r s1 σ z1 H1 Q (en.mono g1.sub) st1 p2
  | true => exact p2.here st1
theorem snd_not {a : E} {x : Expr} {pos : Pos} (ha : SndE B cl X W x a) : SndE B cl X W (.UnaryOp .Not x pos) (.not a) := by
  intro r s σ z H Q en st p
  refine WE.of (pe_not peW) ?_
  have p : Po B z H ((evE cl a r s).bind fun x s => (ofO s (blD x)).bind fun k s => .ok (.bl (!k)) s) (KV1 B Q) (WXs W σ) := p
  refine ha.bind en st p fun d1 s1 v1 z1 H1 g1 st1 r1 p1 => ?_
  obtain ⟨q, e, p2⟩ := p1.ofO
  cases d1 <;> simp only [blD] at e <;> try (cases e; done)
  cases e
  exact ⟨_, rp_bl.mp r1, p2.here st1 _ (rp_bl.mpr rfl)⟩
theorem not_bl (a : E) (r : En) (s : Sta) : ((evE cl (.not a) r s).bind fun x s => ofO s (blD x)) = (((evE cl a r s).bind fun x s => ofO s (blD x)).bind fun k s => .ok (!k) s) := by
  show (((evE cl a r s).bind fun x s => (ofO s (blD x)).bind fun k s => .ok (.bl (!k)) s).bind fun x s => ofO s (blD x)) = _
  rw [Res.bind_assoc, Res.bind_assoc]
  congr 1
  funext x s
  rw [Res.bind_assoc]
  cases blD x <;> rfl
theorem snt_not {a : E} {x : Expr} {pos : Pos} (ha : SndT B cl X W x a) : SndT B cl X W (.UnaryOp .Not x pos) (.not a) := by
  intro r s σ z H Q en st p
  refine WT.of (pt_not ptW) ?_
  rw [not_bl] at p
  exact ha.bind en st p fun q s1 z1 H1 g1 st1 p2 => p2.here st1
theorem ite_bl (c a b : E) (r : En) (s : Sta) : evE cl (.ite c a b) r s = (((evE cl c r s).bind fun x s => ofO s (blD x)).bind fun k s => if k then evE cl a r s else evE cl b r s) := by
  show ((evE cl c r s).bind fun x s => (ofO s (blD x)).bind fun k s => if k then evE cl a r s else evE cl b r s) = _
  rw [Res.bind_assoc]
theorem snd_ite {c' a b : E} {t x y : Expr} {pos : Pos} (hc : SndT B cl X W t c') (ha : SndE B cl X W x a) (hb : SndE B cl X W y b) : SndE B cl X W (.IfExp t x y pos) (.ite c' a b) := by
  intro r s σ z H Q en st p
  refine WE.of (pe_ifExp ptW peW peW) ?_
  rw [ite_bl] at p
  refine hc.bind en st p fun q s1 z1 H1 g1 st1 p2 => ?_
  cases q with
  | true => exact ha r s1 σ z1 H1 Q (en.mono g1.sub) st1 p2
  | false => exact hb r s1 σ z1 H1 Q (en.mono g1.sub) st1 p2
theorem pt_ifExp {c a b : Expr} {pos : Pos} {tA ta tb : TT} (hc : PT X c tA) (ha : PT X a ta) (hb : PT X b tb) : PT X (.IfExp c a b pos) (fun σ H Q => tA σ H fun k H1 => if k = true then ta σ H1 Q else tb σ H1 Q) := by
  refine ⟨fun pins s σ H Q I h => ?_⟩
  rw [isTrue.eq_def]
  refine wpAny_bind (thn (hc.run pins s σ H _ I h) fun d s1 ⟨H1, I1, q1⟩ => ?_)
  cases d with
  | true => exact ha.run pins s1 σ H1 Q I1 q1
  | false => exact hb.run pins s1 σ H1 Q I1 q1
theorem snt_ite {c' a b : E} {t x y : Expr} {pos : Pos} (hc : SndT B cl X W t c') (ha : SndT B cl X W x a) (hb : SndT B cl X W y b) : SndT B cl X W (.IfExp t x y pos) (.ite c' a b) := by
  intro r s σ z H Q en st p
  refine WT.of (pt_ifExp ptW ptW ptW) ?_
  rw [ite_bl, Res.bind_assoc] at p
  refine hc.bind en st p fun q s1 z1 H1 g1 st1 p2 => ?_
  cases q with
  | true => exact ha r s1 σ z1 H1 Q (en.mono g1.sub) st1 p2
  | false => exact hb r s1 σ z1 H1 Q (en.mono g1.sub) st1 p2
/-! ### arguments, displays -/
theorem sna_nil : SndA B cl X W [] .nil := by
  intro r s σ z H Q en st p
  refine WA.of pa_nil ?_
  exact (show Po B z H (.ok [] s) _ _ from p).here st [] (by unfold RpL; rfl)
theorem cons_ls (a b : E) (r : En) (s : Sta) : ((evE cl (.cons a b) r s).bind fun x s => ofO s (listD x)) = (evE cl a r s).bind fun x s => ((evE cl b r s).bind fun y s => ofO s (listD y)).bind fun l s => .ok (x :: l) s := by
  show (((evE cl a r s).bind fun x s => (evE cl b r s).bind fun l s => ofO s (consD x l)).bind fun x s => ofO s (listD x)) = _
  rw [Res.bind_assoc]
  congr 1
  funext x s
  rw [Res.bind_assoc, Res.bind_assoc]
  congr 1
  funext y s
  cases y <;> rfl
theorem sna_cons {a b : E} {e : Expr} {es : List Expr} (hp : chE a c e = true) (ha : SndE B cl X W e a) (hb : SndA B cl X W es b) : SndA B cl X W (e :: es) (.cons a b) := by
  intro r s σ z H Q en st p
  refine WA.of (pa_cons peW paW (plain_star hp es X.env)) ?_
  rw [cons_ls] at p
  refine ha.bind en st p fun d1 s1 v1 z1 H1 g1 st1 r1 p1 => ?_
  refine hb.bind (en.mono g1.sub) st1 p1 fun l s2 vs z2 H2 g2 st2 r2 p2 => ?_
  refine p2.here st2 _ ?_
  unfold RpL
  exact ⟨v1, vs, rfl, r1.mono g2.sub, r2⟩
theorem tup_ls (a : E) (r : En) (s : Sta) : evE cl (.tup a) r s = ((evE cl a r s).bind fun x s => ofO s (listD x)).bind fun l s => if l.length ≤ most then .ok (.tup l) s else .bad := by
  show ((evE cl a r s).bind fun l s => ofO s (tupD l)) = _
  rw [Res.bind_assoc]
  congr 1
  funext y s
  cases y <;> first | rfl | skip
  rename_i l
  by_cases h : l.length ≤ most <;> simp [tupD, listD, ofO, Res.bind, h]
theorem lst_ls (a : E) (r : En) (s : Sta) : evE cl (.lst a) r s = ((evE cl a r s).bind fun x s => ofO s (listD x)).bind fun l s => if l.length ≤ most then .ok (.lst l) s else .bad := by
  show ((evE cl a r s).bind fun l s => ofO s (lstD l)) = _
  rw [Res.bind_assoc]
  congr 1
  funext y s
  cases y <;> first | rfl | skip
  rename_i l
  by_cases h : l.length ≤ most <;> simp [lstD, listD, ofO, Res.bind, h]
theorem snd_tup {a : E} {es : List Expr} {j : Nat} {pos : Pos} (ha : SndA B cl X W es a) : SndE B cl X W (.Tuple es j pos) (.tup a) := by
  intro r s σ z H Q en st p
  refine WE.of (pe_tup paW) ?_
  rw [tup_ls] at p
  refine ha.bind en st p fun l s1 vs z1 H1 g1 st1 r1 p1 => ?_
  split at p1
  · rename_i hl
    refine ⟨by rw [r1.length]; exact most_le hl, fun q hq => ?_⟩
    exact p1 _ _ (Gr.alloc st1.le hq) (st1.alloc hq) _ (Rp.newT st1.le hq r1)
  · exact p1.elim
theorem snd_lst {a : E} {es : List Expr} {pos : Pos} (ha : SndA B cl X W es a) : SndE B cl X W (.List es pos) (.lst a) := by
  intro r s σ z H Q en st p
  refine WE.of (pe_lst paW) ?_
  rw [lst_ls] at p
  refine ha.bind en st p fun l s1 vs z1 H1 g1 st1 r1 p1 => ?_
  split at p1
  · rename_i hl
    refine ⟨by rw [r1.length]; exact most_le hl, fun q hq => ?_⟩
    exact p1 _ _ (Gr.alloc st1.le hq) (st1.alloc hq) _ (Rp.newL st1.le hq r1)
  · exact p1.elim
/-! ### subscripts, slices -/
theorem plainIx {i : Expr} (h : isSl i = false) : PlainIx i := by
  intro o j
  cases i <;> first | rfl | (cases h; done)
theorem snd_ix (x : XOk B cl k c X W) {a b : E} {v i : Expr} {pos : Pos} (hi : isSl i = false) (ha : SndE B cl X W v a) (hb : SndE B cl X W i b) : SndE B cl X W (.Subscript v i pos) (.ix a b) := by
  intro r s σ z H Q en st p
  obtain ⟨hr, hw⟩ := ix_wp (B := B) x.hK
  refine WE.of (pe_ix hr peW peW (plainIx hi)) ?_
  have p : Po B z H ((evE cl a r s).bind fun x s => (evE cl b r s).bind fun y s => ofO s (ixS s x y)) (KV1 B Q) (WXs W σ) := p
  refine ha.bind en st p fun d1 s1 v1 z1 H1 g1 st1 r1 p1 => ?_
  refine hb.bind (en.mono g1.sub) st1 p1 fun d2 s2 v2 z2 H2 g2 st2 r2 p2 => ?_
  obtain ⟨d, e, p3⟩ := p2.ofO1
  exact hw d1 d2 d v1 v2 z2 H2 s2 Q st2 (r1.mono g2.sub) r2 e p3
/-- a part of a slice -/
def prt (cl : CallT) (ir : E) (r : En) (s : Sta) : Res (Option Int) := if isNonC ir then .ok Option.none s else (evE cl ir r s).bind fun i s => ofO s (partD i)
def SndP (B : Bas) (cl : CallT) (X : Cx) (W : WX) (o : Option Expr) (ir : E) : Prop :=
  ∃ t : TO, PO X o t ∧ ∀ (r : En) (s : Sta) (σ : L2.St) (z H : Hp) (C : Type) (K : C → Hp → Hp → Prop) (f : Option Int → Sta → Res C) (Q : Option Int → Hp → Prop), EnR B z r σ → StR B.dp z H s →
    Po B z H ((prt cl ir r s).bind f) K (WXs W σ) → (∀ i s1 z1 H1, Gr B.dp z H z1 H1 → StR B.dp z1 H1 s1 → Po B z1 H1 (f i s1) K (WXs W σ) → Q i H1) → t σ H Q
theorem snp_none {ir : E} (h : isNonC ir = true) : SndP B cl X W Option.none ir := by
  refine ⟨_, po_none, fun r s σ z H C K f Q en st p q => ?_⟩
  unfold prt at p
  rw [if_pos h] at p
  exact q _ s z H (Gr.refl st.le) st p
theorem snp_some {e : Expr} {ir : E} (hn : isNonC ir = false) (h : SndE B cl X W e ir) : SndP B cl X W (some e) ir := by
  refine ⟨_, po_some peW, fun r s σ z H C K f Q en st p q => ?_⟩
  unfold prt at p
  rw [hn, if_neg Bool.false_ne_true, Res.bind_assoc] at p
  refine h.bind en st p fun d s1 v z1 H1 g1 st1 r1 p1 => ?_
  obtain ⟨i, e, p2⟩ := p1.ofO
  cases d <;> simp only [partD] at e <;> try (cases e; done)
  cases e
  exact ⟨_, rp_int.mp r1, q _ s1 z1 H1 g1 st1 p2⟩
theorem snd_sl (x : XOk B cl k c X W) {a lo hi : E} {v : Expr} {l h : Option Expr} {pos p2 : Pos} (ha : SndE B cl X W v a) (hl : SndP B cl X W l lo) (hh : SndP B cl X W h hi) : SndE B cl X W (.Subscript v (.Slice l h none p2) pos) (.sl a lo hi) := by
  intro r s σ z H Q en st p
  obtain ⟨rr, hr, hw⟩ := sl_wp (B := B) x.hK
  obtain ⟨tl, pl, wl⟩ := hl
  obtain ⟨th, ph, wh⟩ := hh
  refine WE.of (pe_slice hr peW pl ph) ?_
  have p : Po B z H ((evE cl a r s).bind fun x s => (prt cl lo r s).bind fun i s => (prt cl hi r s).bind fun j s => ofO s (slD x i j)) (KV1 B Q) (WXs W σ) := p
  refine ha.bind en st p fun d1 s1 v1 z1 H1 g1 st1 r1 p1 => ?_
  refine wl r s1 σ z1 H1 D _ _ _ (en.mono g1.sub) st1 p1 fun i s2 z2 H2 g2 st2 p2 => ?_
  refine wh r s2 σ z2 H2 D _ _ _ ((en.mono g1.sub).mono g2.sub) st2 p2 fun j s3 z3 H3 g3 st3 p3 => ?_
  obtain ⟨d, e, p4⟩ := p3.ofO1
  exact hw d1 d i j v1 z3 H3 s3 Q st3 ((r1.mono g2.sub).mono g3.sub) e p4
/-! ### built-ins -/
theorem snd_neg {a : E} {x : Expr} {pos : Pos} (ha : SndE B cl X W x a) : SndE B cl X W (.UnaryOp .USub x pos) (.bi .neg a) := by
  intro r s σ z H Q en st p
  refine WE.of (pe_un un_neg peW) ?_
  have p : Po B z H ((evE cl a r s).bind fun x s => ofO s (biD .neg x)) (KV1 B Q) (WXs W σ) := p
  refine ha.bind en st p fun d1 s1 v1 z1 H1 g1 st1 r1 p1 => ?_
  obtain ⟨d, e, p2⟩ := p1.ofO1
  cases d1 <;> simp only [biD] at e <;> try (cases e; done)
  cases e
  exact ⟨_, rp_int.mp r1, p2.here st1 _ (rp_int.mpr rfl)⟩
theorem boot_bi {b : Bi} (h : biOk b = true) : bootBuiltins (biName b) = some (biV b) ∧ biName b ≠ "__name__" ∧ biName b ∈ bnames := by
  cases b <;> first | (cases h; done) | (refine ⟨?_, ?_, ?_⟩ <;> decide +kernel)
theorem star1 {ir : E} {e : Expr} (h : chE ir c e = true) : PA X [e] (tCons (WE X e) tNil) := pa_cons peW pa_nil (plain_star h [] X.env)
theorem snd_bi (x : XOk B cl k c X W) {b : Bi} {a : E} {e : Expr} {pp pos : Pos} (hb : biOk b = true) (hg : glB c (biName b) = true) (hc : chE a c e = true) (ha : SndE B cl X W e a) : SndE B cl X W (.Call (.Name (biName b) pp) [e] [] pos) (.bi b a) := by
  intro r s σ z H Q en st p
  obtain ⟨rr, hr, hw⟩ := bi_wp (B := B) x.hK x.calm b hb
  obtain ⟨b1, b2, b3⟩ := boot_bi hb
  have hm := x.bns _ b3
  obtain ⟨g1, g2⟩ := x.gl hg
  have q : PE X (.Call (.Name (biName b) pp) [e] [] pos) (tCB rr (tCons (WE X e) tNil)) := by
    cases b <;> first
      | (cases hb; done)
      | exact pe_callB hr g1 hm b1 (star1 hc) b2 g2 (plain_star hc [] X.env) rfl
      | exact pe_callTy hr g1 hm b1 (star1 hc) b2 g2 (plain_star hc [] X.env) rfl
  refine WE.of q ?_
  have p : Po B z H ((evE cl a r s).bind fun x s => ofO s (biD b x)) (KV1 B Q) (WXs W σ) := p
  refine ha.bind en st p fun d1 s1 v1 z1 H1 g1 st1 r1 p1 => ?_
  obtain ⟨d, e, p2⟩ := p1.ofO1
  exact hw d1 d v1 z1 H1 s1 Q st1 r1 e p2
theorem star2 {ia ib : E} {e f : Expr} (h1 : chE ia c e = true) (h2 : chE ib c f = true) : PA X [e, f] (tCons (WE X e) (tCons (WE X f) tNil)) := pa_cons peW (pa_cons peW pa_nil (plain_star h2 [] X.env)) (plain_star h1 [f] X.env)
theorem any2 {ib : E} {f : Expr} (h2 : chE ib c f = true) (pos : Pos) (env : PySem.Env) : (backTo pos (starEach [f] env)).any (·.1) = false := by
  rw [plain_star h2]
  rfl
theorem snd_mn (x : XOk B cl k c X W) {a b : E} {e f : Expr} {p pos : Pos} (hg : glB c "min" = true) (h1 : chE a c e = true) (h2 : chE b c f = true) (ha : SndE B cl X W e a) (hb : SndE B cl X W f b) : SndE B cl X W (.Call (.Name "min" p) [e, f] [] pos) (.mn a b) := by
  intro r s σ z H Q en st p
  have hm := x.bns "min" (by decide +kernel)
  obtain ⟨g1, g2⟩ := x.gl hg
  refine WE.of (pe_callB (call_min2 x.calm) g1 hm (by decide +kernel) (star2 h1 h2) (by decide +kernel) g2 (plain_star h1 [f] X.env) (any2 h2 pos X.env)) ?_
  have p : Po B z H ((evE cl a r s).bind fun x s => (evE cl b r s).bind fun y s => ofO s (mnD x y)) (KV1 B Q) (WXs W σ) := p
  refine ha.bind en st p fun d1 s1 v1 z1 H1 g1 st1 r1 p1 => ?_
  refine hb.bind (en.mono g1.sub) st1 p1 fun d2 s2 v2 z2 H2 g2 st2 r2 p2 => ?_
  obtain ⟨d, e, p3⟩ := p2.ofO1
  cases d1 <;> cases d2 <;> simp only [mnD] at e <;> try (cases e; done)
  cases e
  cases rp_int.mp r1
  cases rp_int.mp r2
  exact ⟨_, _, rfl, p3.here st2 _ (rp_int.mpr rfl)⟩
theorem snd_mx (x : XOk B cl k c X W) {a b : E} {e f : Expr} {p pos : Pos} (hg : glB c "max" = true) (h1 : chE a c e = true) (h2 : chE b c f = true) (ha : SndE B cl X W e a) (hb : SndE B cl X W f b) : SndE B cl X W (.Call (.Name "max" p) [e, f] [] pos) (.mx a b) := by
  intro r s σ z H Q en st p
  have hm := x.bns "max" (by decide +kernel)
  obtain ⟨g1, g2⟩ := x.gl hg
  refine WE.of (pe_callB (call_max2 x.calm) g1 hm (by decide +kernel) (star2 h1 h2) (by decide +kernel) g2 (plain_star h1 [f] X.env) (any2 h2 pos X.env)) ?_
  have p : Po B z H ((evE cl a r s).bind fun x s => (evE cl b r s).bind fun y s => ofO s (mxD x y)) (KV1 B Q) (WXs W σ) := p
  refine ha.bind en st p fun d1 s1 v1 z1 H1 g1 st1 r1 p1 => ?_
  refine hb.bind (en.mono g1.sub) st1 p1 fun d2 s2 v2 z2 H2 g2 st2 r2 p2 => ?_
  obtain ⟨d, e, p3⟩ := p2.ofO1
  cases d1 <;> cases d2 <;> simp only [mxD] at e <;> try (cases e; done)
  cases e
  cases rp_int.mp r1
  cases rp_int.mp r2
  exact ⟨_, _, rfl, p3.here st2 _ (rp_int.mpr rfl)⟩
/-! ### isinstance -/
theorem ty_boot {t : Ty} {n : String} (h : tyName t = some n) : bootBuiltins (tyStr t) = some (.type n) ∧ tyStr t ≠ "__name__" ∧ tyStr t ∈ bnames := by
  cases t <;> simp only [tyName] at h <;> first | (cases h; done) | (cases h; refine ⟨?_, ?_, ?_⟩ <;> decide +kernel)
theorem snd_isi (x : XOk B cl k c X W) {a : E} {t : Ty} {n : String} {e : Expr} {p p2 pos : Pos} (hn : tyName t = some n) (hg : glB c "isinstance" = true) (hgt : glB c (tyStr t) = true) (h1 : chE a c e = true) (ha : SndE B cl X W e a) :
    SndE B cl X W (.Call (.Name "isinstance" p) [e, .Name (tyStr t) p2] [] pos) (.isi a t) := by
  intro r s σ z H Q en st p
  have hm := x.bns "isinstance" (by decide +kernel)
  obtain ⟨g1, g2⟩ := x.gl hg
  obtain ⟨t1, t2, t3⟩ := ty_boot hn
  obtain ⟨g3, g4⟩ := x.gl hgt
  have pn : PE X (.Name (tyStr t) p2) (tC (.ty n)) := pe_bltn g3 (x.bns _ t3) t1 rfl t2 g4
  have pa : PA X [e, .Name (tyStr t) p2] (tCons (WE X e) (tCons (tC (.ty n)) tNil)) := pa_cons peW (pa_cons pn pa_nil rfl) (plain_star h1 _ X.env)
  refine WE.of (pe_callB call_isi g1 hm (by decide +kernel) pa (by decide +kernel) g2 (plain_star h1 _ X.env) rfl) ?_
  have p : Po B z H ((evE cl a r s).bind fun x s => (ofO s (isiD t x)).bind fun k s => .ok (.bl k) s) (KV1 B Q) (WXs W σ) := p
  refine ha.bind en st p fun d1 s1 v1 z1 H1 g1 st1 r1 p1 => ?_
  obtain ⟨b, e, p2⟩ := p1.ofO
  exact isi_wp x.hK hn st1.le r1 e (p2.here st1 _ (rp_bl.mpr rfl))
theorem snd_isi2 (x : XOk B cl k c X W) {a : E} {e : Expr} {p p2 p3 p4 pos : Pos} {j : Nat} (hg : glB c "isinstance" = true) (hg1 : glB c "list" = true) (hg2 : glB c "tuple" = true) (h1 : chE a c e = true) (ha : SndE B cl X W e a) :
    SndE B cl X W (.Call (.Name "isinstance" p) [e, .Tuple [.Name "list" p2, .Name "tuple" p3] j p4] [] pos) (.isi a .lstTup) := by
  intro r s σ z H Q en st p
  have hm := x.bns "isinstance" (by decide +kernel)
  obtain ⟨g1, g2⟩ := x.gl hg
  obtain ⟨g3, g4⟩ := x.gl hg1
  obtain ⟨g5, g6⟩ := x.gl hg2
  have pn : PE X (.Name "list" p2) (tC (.ty "list")) := pe_bltn g3 (x.bns _ (by decide +kernel)) (u := .type "list") (by decide +kernel) rfl (by decide +kernel) g4
  have pm : PE X (.Name "tuple" p3) (tC (.ty "tuple")) := pe_bltn g5 (x.bns _ (by decide +kernel)) (u := .type "tuple") (by decide +kernel) rfl (by decide +kernel) g6
  have pt : PE X (.Tuple [.Name "list" p2, .Name "tuple" p3] j p4) _ := pe_tup (pa_cons pn (pa_cons pm pa_nil rfl) rfl)
  have pa : PA X [e, .Tuple [.Name "list" p2, .Name "tuple" p3] j p4] _ := pa_cons peW (pa_cons pt pa_nil rfl) (plain_star h1 _ X.env)
  refine WE.of (pe_callB call_isiT g1 hm (by decide +kernel) pa (by decide +kernel) g2 (plain_star h1 _ X.env) rfl) ?_
  have p : Po B z H ((evE cl a r s).bind fun x s => (ofO s (isiD .lstTup x)).bind fun k s => .ok (.bl k) s) (KV1 B Q) (WXs W σ) := p
  refine ha.bind en st p fun d1 s1 v1 z1 H1 g1 st1 r1 p1 => ?_
  obtain ⟨b, e, p2⟩ := p1.ofO
  refine ⟨by decide, fun q hq => ?_⟩
  refine isi2_wp x.hK (Gr.allocO (dp := B.dp) st1.le hq).le r1 e upd_same ?_
  exact p2 z1 _ (Gr.allocO st1.le hq) (st1.allocO hq) _ (rp_bl.mpr rfl)
/-! ### calls -/
theorem pe_call0S {CX : CXT} {f : Addr} {fd : FuncData} {ps : List Str} {sp : Sp} {E : L2.St → XK} {n : Str} {p pos : Pos} {k : Nat} (F : FnOk X.prog X.w X.K X.mg X.base CX k f fd ps sp) (hr : Room k X.A) (hg : Gl X n) (hm : X.mg n = some (.ref f)) (hk : PySem.W.keepIn X.K (.ref f) = true) (hb : Binds X.K fd ps []) (hx : ∀ σ, PassesAt CX X σ (E σ))
    (hdb : (n == ("__debug__" : Str)) = false) : PE X (.Call (.Name n p) [] [] pos) (tCallS sp E tNil) := by
  refine ⟨fun pins s σ H Q I h => ?_⟩
  exact wpAny_Call_Name_kw (ld_glob I hg hm (PySem.W.callWith_K0 I.kIn hk (run_fnS (us := []) F hr hb (hx σ) I .nil h)) hdb)
theorem call_ls (f : Nat) (a : E) (r : En) (s : Sta) : evE cl (.call f a) r s = ((evE cl a r s).bind fun x s => ofO s (listD x)).bind fun l s => cl f l s := by
  show ((evE cl a r s).bind fun x s => (ofO s (listD x)).bind fun l s => cl f l s) = _
  rw [Res.bind_assoc]
theorem args_len : ∀ {a : E} {c : Cfg} {args : List Expr}, chL a c args = true → ∀ (r : En) (s : Sta) (l : List D) (s' : Sta), ((evE cl a r s).bind fun x s => ofO s (listD x)) = .ok l s' → l.length = args.length := by
  intro a
  induction a with
  | nil =>
    intro c args h r s l s' e
    cases args with
    | nil =>
      have e : Res.ok ([] : List D) s = .ok l s' := e
      cases e
      rfl
    | cons => cases h
  | cons a b _ ihb =>
    intro c args h r s l s' e
    cases args with
    | nil => cases h
    | cons x xs =>
      have h' := chL_cons h
      rw [cons_ls] at e
      cases q : evE cl a r s with
      | bad => rw [q] at e; cases e
      | exc => rw [q] at e; cases e
      | ok d s1 =>
        rw [q] at e
        have e : (((evE cl b r s1).bind fun y s => ofO s (listD y)).bind fun l s => .ok (d :: l) s) = .ok l s' := e
        cases q2 : ((evE cl b r s1).bind fun y s => ofO s (listD y)) with
        | bad => rw [q2] at e; cases e
        | exc => rw [q2] at e; cases e
        | ok l2 s2 =>
          rw [q2] at e
          have e : Res.ok (d :: l2) s2 = .ok l s' := e
          cases e
          rw [List.length_cons, List.length_cons, ihb h'.2 r s1 l2 _ q2]
  | _ =>
    intro c args h r s l s' e
    cases h
theorem Bas.at_self (B : Bas) : B.at B.dp = B := rfl
theorem snd_call (x : XOk B cl k c X W) {f : Nat} {a : E} {n : Str} {ps : List Str} {args : List Expr} {p pos : Pos} (hg : glB c n = true) (ht : c.tab.lookup f = some (n, ps)) (hn : args.length = ps.length) (hc : chL a c args = true) (ha : SndA B cl X W args a) : SndE B cl X W (.Call (.Name n p) args [] pos) (.call f a) := by
  intro r s σ z H Q en st p
  obtain ⟨fa, fd, m1, m2, m3, m4⟩ := (x.fns f n ps ht).ok
  obtain ⟨g1, g2⟩ := x.gl hg
  rw [call_ls] at p
  have fin : ∀ vs z1 H1 l s1, l.length = args.length → StR B.dp z1 H1 s1 → RpL B z1 l vs → Po B z1 H1 (cl f l s1) (KV1 B Q) (WXs W σ) → spF B cl f ps.length vs H1 Q (L2.WE W σ) := fun vs z1 H1 l s1 el st1 r1 p1 =>
    ⟨B.dp, l, s1, z1, el.trans hn, st1, r1, p1⟩
  have key : WA X args σ H fun vs H1 => spF B cl f ps.length vs H1 Q (L2.WE W σ) := by
    refine ha r s σ z H _ en st ?_
    rcases p.bind with ⟨l, s1, e1, p1⟩ | ⟨y, s1, e1, p1⟩
    · rw [e1]
      exact fun z1 H1 g t vs q => fin vs z1 H1 l s1 (args_len hc r s l s1 e1) t q (p1.shift g t)
    · rw [e1]
      exact p1
  cases args with
  | nil =>
    refine WE.of (pe_call0S m4 x.room g1 m1 m2 m3 (fun σ => passAt x.tk σ) g2) ?_
    cases a <;> first | (cases hc; done) | skip
    exact fin [] z H [] s rfl st (by unfold RpL; rfl) p
  | cons e es =>
    cases a <;> first | (cases hc; done) | skip
    have h1 := chL_cons hc
    exact WE.of (pe_callS m4 x.room g1 m1 m2 m3 (fun σ => passAt x.tk σ) paW g2 (plain_star h1.1 es X.env) (plain_all h1.2 pos X.env)) key
end
end Wk
/-! Wk, soundness 8: targets, what is walked, comprehensions. -/
namespace Wk
open PySem PySem.Spec PyProof.Rows L2
/-! ### targets -/
def lenT : Tg → Nat
  | .cons _ b => lenT b + 1
  | _ => 0
mutual
def gOf (K : PySem.W.Frag) : Tg → TG
  | .nm i => gName i
  | .tp t => gTup K (lenT t) (gsOf K t)
  | _ => fun _ _ _ _ => False
def gsOf (K : PySem.W.Frag) : Tg → TGs
  | .nil => gNil
  | .cons a b => gCons (gOf K a) (gsOf K b)
  | _ => fun _ _ _ _ => False
end
theorem assignEach_plain {c : Cfg} {t : Tg} {e : Expr} (h : chT c t e = true) (es : List Expr) (env : PySem.Env) : assignEach (e :: es) env = (false, assign e env) :: assignEach es env := by
  cases t with
  | nm i =>
    unfold chT at h
    split at h
    · rfl
    · cases h
  | tp t =>
    unfold chT at h
    split at h
    · rfl
    · cases h
  | nil => simp [chT] at h
  | cons => simp [chT] at h
section
variable {B : Bas} {cl : CallT} {k : Nat} {c : Cfg} {X : Cx} {W : WX}
mutual
theorem pg_of (x : XOk B cl k c X W) : ∀ {t : Tg} {e : Expr}, chT c t e = true → PG X e (gOf X.K t)
  | .nm i, e, h => by
    unfold chT at h
    split at h
    · rw [Bool.and_eq_true] at h
      obtain ⟨q1, q2⟩ := x.loc h.2
      exact pg_name x.nd (x.slot h.1) q1 q2
    · cases h
  | .tp t, e, h => by
    unfold chT at h
    split at h
    · obtain ⟨q1, q2, q3⟩ := pgs_of x h
      exact pg_tup x.calm q1 q2 q3
    · cases h
  | .nil, e, h => by simp [chT] at h
  | .cons _ _, e, h => by simp [chT] at h
theorem pgs_of (x : XOk B cl k c X W) : ∀ {t : Tg} {es : List Expr}, chTs c t es = true → PGs X es (gsOf X.K t) ∧ (assignEach es X.env).length = lenT t ∧ (assignEach es X.env).findIdx? (·.1) = Option.none
  | .nil, es, h => by
    unfold chTs at h
    split at h
    · exact ⟨pgs_nil, rfl, rfl⟩
    · cases h
  | .cons a b, es, h => by
    unfold chTs at h
    split at h
    · rename_i e es
      rw [Bool.and_eq_true] at h
      have p1 := pg_of x h.1
      obtain ⟨q1, q2, q3⟩ := pgs_of x h.2
      have e1 := assignEach_plain h.1 es X.env
      refine ⟨pgs_cons p1 q1 (by rw [e1]; rfl), by rw [e1]; simp [q2, lenT], ?_⟩
      rw [e1, List.findIdx?_cons]
      simp [q3]
    · cases h
  | .nm _, es, h => by simp [chTs] at h
  | .tp _, es, h => by simp [chTs] at h
end
end
theorem wipe_get (σ : L2.St) (j : Nat) : ∀ vs : List Nat, (wipe σ vs)[j]? = if j ∈ vs then (if j < σ.length then some Option.none else Option.none) else σ[j]?
  | [] => by simp [wipe]
  | v :: vs => by
    unfold wipe
    rw [List.getElem?_set, wipe_length]
    by_cases h : v = j
    · subst h
      simp
    · rw [if_neg h, wipe_get σ j vs]
      have : (j ∈ v :: vs) ↔ j ∈ vs := by
        constructor
        · intro q
          rcases List.mem_cons.mp q with q | q
          · exact absurd q.symm h
          · exact q
        · exact List.mem_cons_of_mem _
      by_cases hj : j ∈ vs
      · rw [if_pos hj, if_pos (this.mpr hj)]
      · rw [if_neg hj, if_neg fun q => hj (this.mp q)]
theorem wipe_set {σ : L2.St} {i : Nat} {y : Option V} {vs : List Nat} (h : i ∈ vs) : wipe (σ.set i y) vs = wipe σ vs := by
  apply List.ext_getElem?
  intro j
  rw [wipe_get, wipe_get, List.length_set]
  by_cases hj : j ∈ vs
  · rw [if_pos hj, if_pos hj]
  · have hne : i ≠ j := fun e => hj (by rw [← e]; exact h)
    rw [if_neg hj, if_neg hj, List.getElem?_set_ne hne]
theorem wipe_wipe {σ : L2.St} : ∀ {vs us : List Nat}, (∀ i ∈ us, i ∈ vs) → wipe (wipe σ us) vs = wipe σ vs
  | vs, [], _ => rfl
  | vs, u :: us, h => by
    show wipe ((wipe σ us).set u Option.none) vs = _
    rw [wipe_set (h u List.mem_cons_self), wipe_wipe fun i hi => h i (List.mem_cons_of_mem _ hi)]
theorem EnR.set {B : Bas} {z : Hp} {r : En} {σ : L2.St} {i : Nat} {d : D} {v : V} (e : EnR B z r σ) (h : Rp B z d v) : EnR B z (r.set i (some d)) (σ.set i (some v)) where
  len := by simp [e.len]
  at_ := fun j d' q => by
    by_cases hj : i = j
    · subst hj
      rw [List.getElem?_set_self'] at q ⊢
      cases hr : r[i]? with
      | none => rw [hr] at q; cases q
      | some o =>
        rw [hr] at q
        have hl : i < σ.length := by rw [← e.len]; exact (List.getElem?_eq_some_iff.mp hr).1
        rw [List.getElem?_eq_getElem hl]
        have q : some (some d) = some (some d') := q
        cases q
        exact ⟨v, rfl, h⟩
    · rw [List.getElem?_set_ne hj] at q ⊢
      exact e.at_ j d' q
mutual
theorem gOf_ok {B : Bas} {K : PySem.W.Frag} (hK : K = B.K) {z H : Hp} (le : Same z H) : ∀ {t : Tg} {d : D} {r r' : En} {σ : L2.St} {v : V} {Q : L2.St → Hp → Prop}, bindT t d r = some r' → Rp B z d v → EnR B z r σ →
    (∀ σ', EnR B z r' σ' → (∀ vs, tgIn vs t = true → wipe σ' vs = wipe σ vs) → Q σ' H) → gOf K t v σ H Q
  | .nm i, d, r, r', σ, v, Q, e, h, en, q => by
    simp only [bindT] at e
    cases e
    simp only [gOf]
    refine q _ (en.set h) fun vs hv => wipe_set ?_
    have : vs.contains i = true := hv
    simpa using this
  | .tp t, d, r, r', σ, v, Q, e, h, en, q => by
    cases d <;> simp only [bindT] at e <;> try (cases e; done)
    obtain ⟨a, vs, rfl, k1, hl⟩ := rp_tup.mp h
    simp only [gOf]
    obtain ⟨e1, e2⟩ := gsOf_ok hK le e hl en (fun σ' en' w => q σ' en' w)
    exact ⟨a, vs, rfl, by rw [hK]; exact Same.tup le k1, e1, e2⟩
  | .nil, d, r, r', σ, v, Q, e, h, en, q => by simp [bindT] at e
  | .cons _ _, d, r, r', σ, v, Q, e, h, en, q => by simp [bindT] at e
theorem gsOf_ok {B : Bas} {K : PySem.W.Frag} (hK : K = B.K) {z H : Hp} (le : Same z H) : ∀ {t : Tg} {l : List D} {r r' : En} {σ : L2.St} {vs : List V} {Q : L2.St → Hp → Prop}, bindTs t l r = some r' → RpL B z l vs → EnR B z r σ →
    (∀ σ', EnR B z r' σ' → (∀ us, tgIn us t = true → wipe σ' us = wipe σ us) → Q σ' H) → vs.length = lenT t ∧ gsOf K t vs σ H Q
  | .nil, l, r, r', σ, vs, Q, e, h, en, q => by
    cases l with
    | nil =>
      simp only [bindTs] at e
      cases e
      unfold RpL at h
      subst h
      exact ⟨rfl, rfl, q σ en fun _ _ => rfl⟩
    | cons => simp [bindTs] at e
  | .cons a b, l, r, r', σ, vs, Q, e, h, en, q => by
    cases l with
    | nil => simp [bindTs] at e
    | cons d l =>
      simp only [bindTs] at e
      unfold RpL at h
      obtain ⟨v, ws, rfl, h1, h2⟩ := h
      cases q1 : bindT a d r with
      | none => rw [q1] at e; cases e
      | some r1 =>
        rw [q1] at e
        have e : bindTs b l r1 = some r' := e
        have len : ws.length = lenT b := by
          have := bindTs_len e
          rw [h2.length, this]
        refine ⟨by simp [lenT, len], v, ws, rfl, ?_⟩
        refine gOf_ok hK le q1 h1 en fun σ1 en1 w1 => ?_
        refine (gsOf_ok hK le e h2 en1 fun σ2 en2 w2 => ?_).2
        refine q σ2 en2 fun us hu => ?_
        have hu' : tgIn us a = true ∧ tgIn us b = true := by simpa [tgIn] using hu
        rw [w2 us hu'.2, w1 us hu'.1]
  | .nm _, l, r, r', σ, vs, Q, e, h, en, q => by simp [bindTs] at e
  | .tp _, l, r, r', σ, vs, Q, e, h, en, q => by simp [bindTs] at e
theorem bindTs_len : ∀ {t : Tg} {l : List D} {r r' : En}, bindTs t l r = some r' → l.length = lenT t
  | .nil, l, r, r', e => by
    cases l with
    | nil => rfl
    | cons => simp [bindTs] at e
  | .cons a b, l, r, r', e => by
    cases l with
    | nil => simp [bindTs] at e
    | cons d l =>
      simp only [bindTs] at e
      cases q1 : bindT a d r with
      | none => rw [q1] at e; cases e
      | some r1 =>
        rw [q1] at e
        have e : bindTs b l r1 = some r' := e
        simp [lenT, bindTs_len e]
  | .nm _, l, r, r', e => by simp [bindTs] at e
  | .tp _, l, r, r', e => by simp [bindTs] at e
end

/-! ### what is walked -/
def WI (X : Cx) (tg iter : Expr) : TI := fun σ H R => ∀ (pins : List (Addr × Obj)) (s : Shared), Inv X pins σ H s →
  wpAny (model X.prog X.w) X.A (eval iter X.env) (fun v s1 => wpAny (model X.prog X.w) X.A (pyIter v) (PIE X pins σ tg R) X.xe s1) X.xe s
theorem piW {X : Cx} {tg iter : Expr} : PI X tg iter (WI X tg iter) := ⟨fun pins s _ _ _ I h => h pins s I⟩
theorem WI.of {X : Cx} {tg iter : Expr} {t : TI} (p : PI X tg iter t) {σ : L2.St} {H : Hp} {R : It → Hp → Prop} (h : t σ H R) : WI X tg iter σ H R := fun pins s I => p.run pins s σ H R I h
/-- J yields the items l wherever z stands -/
structure Yl (B : Bas) (z : Hp) (l : List D) (J : It) : Prop where
  go : ∀ (i : Nat) (d : D) (z1 H : Hp), l[i]? = some d → Same z z1 → Same z1 H → J.go i H
  yld : ∀ (i : Nat) (d : D) (z1 H : Hp) (v : V) (H' : Hp), l[i]? = some d → Same z z1 → Same z1 H → J.yld i H v H' → ∃ z2, Gr B.dp z1 H z2 H' ∧ (∀ p o, H p = some o → H' p = some o) ∧ Rp B z2 d v
  stop : ∀ (H : Hp), Same z H → J.stop l.length H
theorem yl_list {B : Bas} {z : Hp} {l : List D} {a : Addr} {vs : List V} (h : z a = some (.lst vs)) (hl : RpL B z l vs) {K : PySem.W.Frag} : Yl B z l (Itl K a) where
  go := fun i d z1 H e s1 s2 => by
    obtain ⟨v, q, _⟩ := hl.get e
    exact ⟨vs, v, SqL.of (s2 _ _ (s1 _ _ h)), q⟩
  yld := fun i d z1 H v H' e s1 s2 y => by
    obtain ⟨w, q, hw⟩ := hl.get e
    obtain ⟨rfl, y⟩ := y
    have := y vs (SqL.of (s2 _ _ (s1 _ _ h)))
    rw [q] at this
    cases this
    exact ⟨z1, Gr.refl s2, fun _ _ x => x, hw.mono s1⟩
  stop := fun H s1 => ⟨vs, SqL.of (s1 _ _ h), by rw [hl.length]; exact Nat.le_refl _⟩
theorem yl_tup {B : Bas} {z : Hp} {l : List D} {a : Addr} {vs : List V} {K : PySem.W.Frag} (h : SqT K z a vs) (hl : RpL B z l vs) : Yl B z l (Itt K a) where
  go := fun i d z1 H e s1 s2 => by
    obtain ⟨v, q, _⟩ := hl.get e
    exact ⟨vs, v, Same.tup s2 (Same.tup s1 h), q⟩
  yld := fun i d z1 H v H' e s1 s2 y => by
    obtain ⟨w, q, hw⟩ := hl.get e
    obtain ⟨rfl, y⟩ := y
    have := y vs (Same.tup s2 (Same.tup s1 h))
    rw [q] at this
    cases this
    exact ⟨z1, Gr.refl s2, fun _ _ x => x, hw.mono s1⟩
  stop := fun H s1 => ⟨vs, Same.tup s1 h, by rw [hl.length]; exact Nat.le_refl _⟩
theorem upTo_get : ∀ (n : Nat) (lo : Int) (i : Nat), (upTo lo n)[i]? = if i < n then some (.int (lo + i)) else Option.none
  | 0, lo, i => by simp [upTo]
  | n + 1, lo, 0 => by simp [upTo]
  | n + 1, lo, i + 1 => by
    show (upTo (lo + 1) n)[i]? = _
    rw [upTo_get n (lo + 1) i]
    by_cases h : i < n
    · rw [if_pos h, if_pos (by omega)]
      congr 2
      push_cast
      omega
    · rw [if_neg h, if_neg (by omega)]
theorem upTo_len : ∀ (n : Nat) (lo : Int), (upTo lo n).length = n
  | 0, _ => rfl
  | n + 1, lo => by simp [upTo, upTo_len n]
theorem yl_rng {B : Bas} {z : Hp} {lo : Int} {n : Nat} : Yl B z (upTo lo n) (Itr lo n) where
  go := fun i d z1 H e s1 s2 => by
    rw [upTo_get] at e
    show i < n
    by_cases h : i < n
    · exact h
    · rw [if_neg h] at e; cases e
  yld := fun i d z1 H v H' e s1 s2 y => by
    rw [upTo_get] at e
    obtain ⟨rfl, rfl⟩ := y
    by_cases h : i < n
    · rw [if_pos h] at e
      cases e
      exact ⟨z1, Gr.refl s2, fun _ _ x => x, rp_int.mpr rfl⟩
    · rw [if_neg h] at e; cases e
  stop := fun H s1 => by
    show n ≤ (upTo lo n).length
    rw [upTo_len]
    exact Nat.le_refl _
theorem yl_str {B : Bas} {z : Hp} {x : List Nat} (hc : ∀ c ∈ x, c < 0x110000) : Yl B z (x.map fun c => .str [c]) (Its ⟨x.toArray⟩) where
  go := fun i d z1 H e s1 s2 => by
    show i < x.toArray.size
    have := (List.getElem?_eq_some_iff.mp e).1
    simpa using this
  yld := fun i d z1 H v H' e s1 s2 y => by
    obtain ⟨rfl, c, q, rfl⟩ := y
    rw [List.getElem?_map] at e
    have q : x[i]? = some c := by simpa using q
    rw [q] at e
    cases e
    refine ⟨z1, Gr.refl s2, fun _ _ x => x, rp_str.mpr ⟨rfl, fun c' hc' => ?_⟩⟩
    have : c' = c := by simpa using hc'
    subst this
    exact hc _ (List.mem_of_getElem? q)
  stop := fun H s1 => by
    show x.toArray.size ≤ (x.map _).length
    simp
def SndI (B : Bas) (cl : CallT) (X : Cx) (W : WX) (tg iter : Expr) (ir : E) : Prop :=
  ∀ (r : En) (s : Sta) (σ : L2.St) (z H : Hp) (R : It → Hp → Prop), EnR B z r σ → StR B.dp z H s →
    Po B z H ((evE cl ir r s).bind fun x s => ofO s (itemsD x)) (fun l z' h' => ∀ J, Yl B z' l J → R J h') (WXs W σ) → WI X tg iter σ H R
section
variable {B : Bas} {cl : CallT} {k : Nat} {c : Cfg} {X : Cx} {W : WX}
/-- tuples are read in one way -/
theorem WI.inv {tg iter : Expr} {σ : L2.St} {H : Hp} {R : It → Hp → Prop} (h : ∀ (pins : List (Addr × Obj)) (s : Shared), Inv X pins σ H s → WI X tg iter σ H R) : WI X tg iter σ H R := fun pins s I => h pins s I pins s I
theorem sni_of (x : XOk B cl k c X W) {tg iter : Expr} {ir : E} (h : SndE B cl X W iter ir) : SndI B cl X W tg iter ir := by
  intro r s σ z H R en st p
  rcases p.bind with ⟨d, s1, e1, p1⟩ | ⟨y, s1, e1, p1⟩
  · obtain ⟨l, e2, p2⟩ := p1.ofO1
    cases d <;> simp only [itemsD] at e2 <;> try (cases e2; done)
    · rename_i y
      split at e2
      · cases e2
        refine WI.of (pi_str peW) (h r s σ z H _ en st ?_)
        rw [e1]
        intro z' h' g t v q
        obtain ⟨rfl, hc⟩ := rp_str.mp q
        exact ⟨_, rfl, p2 z' h' g t _ (yl_str hc)⟩
      · cases e2
    · cases e2
      refine WI.of (pi_tup peW) (h r s σ z H _ en st ?_)
      rw [e1]
      intro z' h' g t v q
      obtain ⟨a, vs, rfl, k1, hl⟩ := rp_tup.mp q
      have k2 : SqT X.K z' a vs := by rw [x.hK]; exact k1
      exact ⟨a, rfl, ⟨vs, Same.tup t.le k2⟩, p2 z' h' g t _ (yl_tup k2 hl)⟩
    · cases e2
      refine WI.of (pi_list peW) (h r s σ z H _ en st ?_)
      rw [e1]
      intro z' h' g t v q
      obtain ⟨a, vs, rfl, k1, hl⟩ := rp_lst.mp q
      exact ⟨a, rfl, ⟨vs, SqL.of (t.le _ _ k1)⟩, p2 z' h' g t _ (yl_list k1 hl)⟩
  · refine WI.of (pi_list peW) (h r s σ z H _ en st ?_)
    rw [e1]
    exact p1
end
end Wk
/-! Wk, soundness 9: ranges, comprehensions. -/
namespace Wk
open PySem PySem.Spec PyProof.Rows L2
theorem Gr.mut {dp : Option Addr} {z h z' h' : Hp} {p : Addr} {o : HO} (g : Gr dp z h z' h') (n : h p = Option.none) (m : z' p = Option.none) : Gr dp z h z' (upd h' p o) where
  sub := g.sub
  le := fun a u e => by
    have : a ≠ p := ne_of_none e m
    rw [upd_ne this]
    exact g.le a u e
  keep := fun a u e d => by
    rw [upd_ne (ne_of_none e n)]
    exact g.keep a u e d
  new := g.new
theorem StR.mut {dp : Option Addr} {z h : Hp} {s : Sta} {p : Addr} {o : HO} (t : StR dp z h s) (m : z p = Option.none) (d : some p ≠ dp) : StR dp z (upd h p o) s where
  le := fun a u e => by
    rw [upd_ne (ne_of_none e m)]
    exact t.le a u e
  nz := t.nz
  at_ := fun q e => by
    have : q ≠ p := fun x => d (by rw [← x]; exact e.symm)
    rw [upd_ne this]
    exact t.at_ q e
/-- an own list is frozen -/
theorem Gr.freeze {dp : Option Addr} {z h z' h' : Hp} {p : Addr} {o : HO} (g : Gr dp z h z' h') (n : h p = Option.none) (e : h' p = some o) (m : z' p = Option.none) : Gr dp z h (upd z' p o) h' where
  sub := fun a u q => by
    have := g.sub a u q
    rw [upd_ne (ne_of_none this m)]
    exact this
  le := fun a u q => by
    by_cases ha : a = p
    · subst ha
      rw [upd_same] at q
      cases q
      exact e
    · rw [upd_ne ha] at q
      exact g.le a u q
  keep := g.keep
  new := fun a u q y => by
    rw [upd_ne (ne_of_none q n)]
    exact g.new a u q y
theorem StR.freeze {dp : Option Addr} {z h : Hp} {s : Sta} {p : Addr} {o : HO} (t : StR dp z h s) (e : h p = some o) (d : some p ≠ dp) : StR dp (upd z p o) h s where
  le := fun a u q => by
    by_cases ha : a = p
    · subst ha
      rw [upd_same] at q
      cases q
      exact e
    · rw [upd_ne ha] at q
      exact t.le a u q
  nz := fun q y => by
    have : q ≠ p := fun x => d (by rw [← x]; exact y.symm)
    rw [upd_ne this]
    exact t.nz q y
  at_ := t.at_
theorem same_upd {z : Hp} {p : Addr} {o : HO} (m : z p = Option.none) : Same z (upd z p o) := fun b u q => by rw [upd_ne (ne_of_none q m)]; exact q
theorem ne_dp {dp : Option Addr} {z h : Hp} {s : Sta} {p : Addr} (t : StR dp z h s) (n : h p = Option.none) : some p ≠ dp := fun e => by
  have := t.at_ p e.symm
  rw [n] at this
  cases this
section
variable {B : Bas} {cl : CallT} {k : Nat} {c : Cfg} {X : Cx} {W : WX}
theorem sni_rng (x : XOk B cl k c X W) {tg : Expr} {a : E} {e : Expr} {p pos : Pos} (hg : glB c "range" = true) (h1 : chE a c e = true) (ha : SndE B cl X W e a) : SndI B cl X W tg (.Call (.Name "range" p) [e] [] pos) (.rng a) := by
  intro r s σ z H R en st q
  have hm := x.bns "range" (by decide +kernel)
  refine WI.of (pi_range1 (x.gl hg).1 hm (star1 h1) (plain_star h1 [] X.env)) ?_
  have q : Po B z H (((evE cl a r s).bind fun x s => ofO s (rngD x)).bind fun x s => ofO s (itemsD x)) _ (WXs W σ) := q
  rw [Res.bind_assoc] at q
  refine ha.bind en st q fun d1 s1 v1 z1 H1 g1 st1 r1 p1 => ?_
  obtain ⟨d, e, p2⟩ := p1.ofO
  cases d1 <;> simp only [rngD] at e <;> try (cases e; done)
  rename_i j
  split at e
  · rename_i hj
    cases e
    cases rp_int.mp r1
    have : most = 100000 := rfl
    exact ⟨j, rfl, by omega, by omega, (show Po B z1 H1 (.ok (upTo 0 j.toNat) s1) _ _ from p2).here st1 _ yl_rng⟩
  · cases e
theorem sni_rng2 (x : XOk B cl k c X W) {tg : Expr} {a b : E} {e f : Expr} {p pos : Pos} (hg : glB c "range" = true) (h1 : chE a c e = true) (h2 : chE b c f = true) (ha : SndE B cl X W e a) (hb : SndE B cl X W f b) : SndI B cl X W tg (.Call (.Name "range" p) [e, f] [] pos) (.rng2 a b) := by
  intro r s σ z H R en st q
  have hm := x.bns "range" (by decide +kernel)
  have hs2 : starEach [f] X.env = [(false, eval f X.env)] := plain_star h2 [] X.env
  refine WI.of (pi_range2 (x.gl hg).1 hm (star2 h1 h2) (by rw [plain_star h1, hs2]) hs2) ?_
  have q : Po B z H (((evE cl a r s).bind fun x s => (evE cl b r s).bind fun y s => ofO s (rng2D x y)).bind fun x s => ofO s (itemsD x)) _ (WXs W σ) := q
  rw [Res.bind_assoc] at q
  refine ha.bind en st q fun d1 s1 v1 z1 H1 g1 st1 r1 p1 => ?_
  rw [Res.bind_assoc] at p1
  refine hb.bind (en.mono g1.sub) st1 p1 fun d2 s2 v2 z2 H2 g2 st2 r2 p2 => ?_
  obtain ⟨d, e, p3⟩ := p2.ofO
  cases d1 <;> cases d2 <;> simp only [rng2D] at e <;> try (cases e; done)
  rename_i i j
  split at e
  · rename_i hj
    cases e
    cases rp_int.mp r1
    cases rp_int.mp r2
    have : most = 100000 := rfl
    exact ⟨i, j, rfl, ⟨by omega, by omega, by omega, by omega⟩, (show Po B z2 H2 (.ok (upTo i (j - i).toNat) s2) _ _ from p3).here st2 _ yl_rng⟩
  · cases e
/-- the context of a comprehension's block -/
def Blk (X : Cx) (scope : Scope) (X' : Cx) : Prop := ∃ s H C cs fp, X' = X.blk s H scope (compEnvC scope cs C X.env) fp
abbrev W0 : WX := fun _ _ _ _ => False
theorem XOk.blk (x : XOk B cl k c X W) {scope : Scope} {X' : Cx} (hk : scope.kind = .function) (h : Blk X scope X') : XOk B cl k (inBlk c scope) X' W0 := by
  obtain ⟨s, H, C, cs, fp, rfl⟩ := h
  exact ⟨x.hK, x.hN, by show relS scope X.env.scope = relS scope c.sc; rw [x.sc], x.nd, x.calm, x.room, takes0, rfl, fun f nm ps e => ⟨(x.fns f nm ps e).ok⟩, x.gls, x.bns, hk, x.exs⟩
theorem wipeE_get (r : En) (j : Nat) : ∀ vs : List Nat, (wipeE r vs)[j]? = if j ∈ vs then (if j < r.length then some Option.none else Option.none) else r[j]?
  | [] => by simp [wipeE]
  | v :: vs => by
    have len : ∀ us : List Nat, (wipeE r us).length = r.length := fun us => by
      induction us with
      | nil => rfl
      | cons u us ih => simp [wipeE, ih]
    unfold wipeE
    rw [List.getElem?_set, len]
    by_cases h : v = j
    · subst h
      simp
    · rw [if_neg h, wipeE_get r j vs]
      have : (j ∈ v :: vs) ↔ j ∈ vs := by
        constructor
        · intro q
          rcases List.mem_cons.mp q with q | q
          · exact absurd q.symm h
          · exact q
        · exact List.mem_cons_of_mem _
      by_cases hj : j ∈ vs
      · rw [if_pos hj, if_pos (this.mpr hj)]
      · rw [if_neg hj, if_neg fun q => hj (this.mp q)]
theorem wipeE_len (r : En) : ∀ us : List Nat, (wipeE r us).length = r.length
  | [] => rfl
  | u :: us => by simp [wipeE, wipeE_len r us]
theorem EnR.wipe {z : Hp} {r : En} {σ : L2.St} (e : EnR B z r σ) (vs : List Nat) : EnR B z (wipeE r vs) (L2.wipe σ vs) where
  len := by rw [wipeE_len, wipe_length, e.len]
  at_ := fun i d q => by
    rw [wipeE_get] at q
    rw [wipe_get]
    by_cases h : i ∈ vs
    · rw [if_pos h] at q
      split at q <;> cases q
    · rw [if_neg h] at q ⊢
      exact e.at_ i d q
/-- one turn of a comprehension -/
def lcTurn (cl : CallT) (t : Tg) (cd el : E) (r : En) (x : D) (s : Sta) : Res (Option D) := (ofO s (bindT t x r)).bind fun r' s =>
  (evE cl cd r' s).bind fun x s => (ofO s (blD x)).bind fun k s => if k then (evE cl el r' s).bind fun d s => .ok (some d) s else .ok Option.none s
theorem lcRun_ok {f : D → Sta → Res (Option D)} {x : D} {xs acc : List D} {s : Sta} {accF : List D} {sF : Sta} (h : lcRun f (x :: xs) acc s = .ok accF sF) :
    (∃ s', f x s = .ok Option.none s' ∧ lcRun f xs acc s' = .ok accF sF) ∨ (∃ d s', f x s = .ok (some d) s' ∧ acc.length < most ∧ lcRun f xs (acc ++ [d]) s' = .ok accF sF) := by
  unfold lcRun at h
  split at h
  · rename_i s' e
    exact .inl ⟨s', e, h⟩
  · rename_i d s' e
    split at h
    · rename_i hl
      exact .inr ⟨d, s', e, hl, h⟩
    · cases h
  · cases h
theorem lcRun_not {f : D → Sta → Res (Option D)} : ∀ {xs acc : List D} {s : Sta} {x : Exc} {s' : Sta}, lcRun f xs acc s ≠ .exc x s'
  | [], _, _, _, _, h => by cases h
  | x :: xs, acc, s, _, _, h => by
    unfold lcRun at h
    split at h
    · exact lcRun_not h
    · split at h
      · exact lcRun_not h
      · cases h
    · cases h
theorem turn_ok {t : Tg} {cd el : E} {r : En} {x : D} {s s' : Sta} {o : Option D} (h : lcTurn cl t cd el r x s = .ok o s') :
    ∃ r' kk s2, bindT t x r = some r' ∧ evE cl cd r' s = .ok (.bl kk) s2 ∧ ((kk = true ∧ ∃ d, evE cl el r' s2 = .ok d s' ∧ o = some d) ∨ (kk = false ∧ s' = s2 ∧ o = Option.none)) := by
  unfold lcTurn at h
  cases q : bindT t x r with
  | none => rw [q] at h; cases h
  | some r' =>
    rw [q] at h
    have h : ((evE cl cd r' s).bind fun x s => (ofO s (blD x)).bind fun k s => if k then (evE cl el r' s).bind fun d s => .ok (some d) s else .ok Option.none s) = .ok o s' := h
    cases q2 : evE cl cd r' s with
    | bad => rw [q2] at h; cases h
    | exc => rw [q2] at h; cases h
    | ok d s2 =>
      rw [q2] at h
      cases d <;> first | (cases h; done) | skip
      rename_i kk
      refine ⟨r', kk, s2, rfl, q2, ?_⟩
      cases kk with
      | true =>
        have h : ((evE cl el r' s2).bind fun d s => .ok (some d) s) = .ok o s' := h
        cases q3 : evE cl el r' s2 with
        | bad => rw [q3] at h; cases h
        | exc => rw [q3] at h; cases h
        | ok d s3 =>
          rw [q3] at h
          have h : Res.ok (some d) s3 = .ok o s' := h
          cases h
          exact .inl ⟨rfl, d, rfl, rfl⟩
      | false =>
        have h : Res.ok Option.none s2 = .ok o s' := h
        cases h
        exact .inr ⟨rfl, rfl, rfl⟩
/-- the walk of a comprehension over a yielding J, up to its end -/
theorem lc_walk {vs : List Nat} {t : Tg} {cd el : E} {l : List D} {J : It} {r : En} {σ : L2.St} {z1 H1 : Hp} {s1 : Sta} {tt : TT} {te : TE} {K : PySem.W.Frag} {Qd : Hp → Prop} {Dl : Addr} {accF : List D} {sF : Sta} (hK : K = B.K) (ht : tgIn vs t = true) (yl : Yl B z1 l J) (en : EnR B z1 r σ) (st1 : StR B.dp z1 H1 s1)
    (hD : H1 Dl = Option.none)
    (htt : ∀ (r : En) (s : Sta) (σ : L2.St) (z H : Hp) (b : Bool) (s' : Sta) (Q : Bool → Hp → Prop), EnR B z r σ → StR B.dp z H s → evE cl cd r s = .ok (.bl b) s' → (∀ z' H', Gr B.dp z H z' H' → StR B.dp z' H' s' → Q b H') → tt σ H Q)
    (hte : ∀ (r : En) (s : Sta) (σ : L2.St) (z H : Hp) (d : D) (s' : Sta) (Q : VK), EnR B z r σ → StR B.dp z H s → evE cl el r s = .ok d s' → (∀ z' H', Gr B.dp z H z' H' → StR B.dp z' H' s' → ∀ v, Rp B z' d v → Q v H') → te σ H Q)
    (hrun : lcRun (lcTurn cl t cd el (wipeE r vs)) l [] s1 = .ok accF sF)
    (fin : ∀ z' H' vacc, Gr B.dp z1 H1 z' H' → StR B.dp z' H' sF → z' Dl = Option.none → H' Dl = some (.lst vacc) → RpL B z' accF vacc → Qd H') :
    ∃ W : Nat → Nat → Hp → Prop, (∃ m, W 0 m (upd H1 Dl (.lst []))) ∧ ∀ i m H, W i m H →
      (J.stop i H ∧ Qd H) ∨ (J.go i H ∧ ∃ Nx : Hp → Prop, (∀ H', Nx H' → ∃ m', m' < m ∧ W (i + 1) m' H') ∧ ∀ x H', J.yld i H x H' → gOf K t x (L2.wipe σ vs) H' fun σ2 H2 => L2.wipe σ2 vs = L2.wipe σ vs ∧ tt σ2 H2 fun b H3 =>
        if b = true then te σ2 H3 fun y H4 => ∃ acc, H4 Dl = some (.lst acc) ∧ acc.length < sizeLine ∧ Nx (upd H4 Dl (.lst (acc ++ [y]))) else Nx H3) := by
  have ndp : some Dl ≠ B.dp := ne_dp st1 hD
  let Pv : Nat → Hp → Prop := fun i H' => ∃ z' s' acc vacc, Gr B.dp z1 H1 z' H' ∧ StR B.dp z' H' s' ∧ z' Dl = Option.none ∧ H' Dl = some (.lst vacc) ∧ RpL B z' acc vacc ∧ lcRun (lcTurn cl t cd el (wipeE r vs)) (l.drop i) acc s' = .ok accF sF
  refine ⟨fun i m H' => m = l.length - i ∧ i ≤ l.length ∧ Pv i H', ⟨_, rfl, Nat.zero_le _, z1, s1, [], [], Gr.allocO st1.le hD, st1.allocO hD, st1.le.free hD, upd_same, by unfold RpL; rfl, hrun⟩, ?_⟩
  rintro i m H' ⟨rfl, hi, z', s', acc, vacc, g, st, hz, hH, hr, hrun'⟩
  by_cases hlt : i < l.length
  · have hd : l[i]? = some l[i] := List.getElem?_eq_getElem hlt
    refine .inr ⟨yl.go i l[i] z' H' hd g.sub st.le, Pv (i + 1), fun H'' p => ⟨l.length - (i + 1), by omega, rfl, hlt, p⟩, fun v H2 y => ?_⟩
    obtain ⟨z2, g2, kp2, rv⟩ := yl.yld i l[i] z' H' v H2 hd g.sub st.le y
    have st2 : StR B.dp z2 H2 s' := st.grow g2 fun p e => by rw [kp2 p _ (st.at_ p e), st.at_ p e]
    have hz2 : z2 Dl = Option.none := g2.new Dl _ hH hz
    have hH2 : H2 Dl = some (.lst vacc) := kp2 _ _ hH
    have gg2 := g.tr st g2
    have en2 : EnR B z2 (wipeE r vs) (L2.wipe σ vs) := ((en.mono g.sub).mono g2.sub).wipe vs
    have edrop : l.drop i = l[i] :: l.drop (i + 1) := List.drop_eq_getElem_cons hlt
    rw [edrop] at hrun'
    have turn : ∃ o s'', lcTurn cl t cd el (wipeE r vs) l[i] s' = .ok o s'' ∧ ((o = Option.none ∧ lcRun (lcTurn cl t cd el (wipeE r vs)) (l.drop (i + 1)) acc s'' = .ok accF sF) ∨ (∃ d, o = some d ∧ acc.length < most ∧ lcRun (lcTurn cl t cd el (wipeE r vs)) (l.drop (i + 1)) (acc ++ [d]) s'' = .ok accF sF)) := by
      rcases lcRun_ok hrun' with ⟨s'', e1, e2⟩ | ⟨d, s'', e1, e2, e3⟩
      · exact ⟨_, s'', e1, .inl ⟨rfl, e2⟩⟩
      · exact ⟨_, s'', e1, .inr ⟨d, rfl, e2, e3⟩⟩
    obtain ⟨o, s'', e1, e2⟩ := turn
    obtain ⟨r', kk, s2, b1, b2, b3⟩ := turn_ok e1
    refine gOf_ok hK st2.le b1 rv en2 fun σ2 en3 hw => ⟨?_, ?_⟩
    · rw [hw vs ht, wipe_wipe fun _ h => h]
    · refine htt r' s' σ2 z2 H2 kk s2 _ en3 st2 b2 fun z3 H3 g3 st3 => ?_
      have hz3 : z3 Dl = Option.none := g3.new Dl _ hH2 hz2
      have hH3 : H3 Dl = some (.lst vacc) := g3.keep _ _ hH2 ndp
      have gg3 := gg2.tr st2 g3
      rcases b3 with ⟨rfl, d, b4, rfl⟩ | ⟨rfl, rfl, rfl⟩
      · rcases e2 with ⟨e3, _⟩ | ⟨d', e3, e4, e5⟩
        · cases e3
        · cases e3
          rw [if_pos rfl]
          refine hte r' s2 σ2 z3 H3 d s'' _ (en3.mono g3.sub) st3 b4 fun z4 H4 g4 st4 y ry => ?_
          have hz4 : z4 Dl = Option.none := g4.new Dl _ hH3 hz3
          have hH4 : H4 Dl = some (.lst vacc) := g4.keep _ _ hH3 ndp
          have gg4 := gg3.tr st3 g4
          refine ⟨vacc, hH4, by rw [hr.length]; exact most_lt e4, z4, s'', acc ++ [d], vacc ++ [y], gg4.mut hD hz4, st4.mut hz4 ndp, hz4, upd_same, ?_, e5⟩
          exact ((((hr.mono g2.sub).mono g3.sub).mono g4.sub)).append (RpL.one ry)
      · rcases e2 with ⟨_, e4⟩ | ⟨d', e3, _⟩
        · rw [if_neg Bool.false_ne_true]
          exact ⟨z3, _, acc, vacc, gg3, st3, hz3, hH3, (hr.mono g2.sub).mono g3.sub, e4⟩
        · cases e3
  · have e : i = l.length := by omega
    subst e
    refine .inl ⟨yl.stop H' (g.sub.trans st.le), ?_⟩
    rw [List.drop_length] at hrun'
    have hrun' : Res.ok acc s' = .ok accF sF := hrun'
    cases hrun'
    exact fin z' H' vacc g st hz hH hr
end
end Wk
/-! Wk, soundness 9b: set comprehensions of texts, as far as their length. -/
namespace Wk
open PySem PySem.Spec PyProof.Rows L2 PpSet
section
variable {Y : Cx}
theorem setK_first {P : Program} {w : World} {h : Heap} : (h.push { cls := .type "set", dict := Option.none, data := .set #[] 0 (.fresh 0 0 (!w.params.followText "set-order")) }).SetOf (mixKind P w) h.objs.size (fun _ => false) 0 :=
  ⟨_, #[], 0, _, Heap.get?_push_size _ rfl, ⟨rfl, rfl, rfl⟩, rfl, (fun e q => by simp at q), (fun k => by simp), (by decide), (by rfl), rfl⟩
theorem addK_ok {pins : List (Addr × Obj)} {σ : L2.St} {H : Hp} {s : Shared} {E : Value → Shared → Prop} {D : Addr} {S : Key → Bool} {n : Nat} {y : Key} {u : Value} {Q : Value → Shared → Prop} (iv : Inv Y pins σ H s) (r : RelV (kV y) u) (eD : H D = some (SetK Y.prog Y.w D S n)) (room : n + 1 < scanBound)
    (h : ∀ s', Inv Y pins σ (upd H D (SetK Y.prog Y.w D (fun j => S j || decide (j = y)) (if S y = true then n else n + 1))) s' → Q .none s') : wpAny (model Y.prog Y.w) Y.A (call (.builtin "set.add") [.ref D, u]) Q E s := by
  refine call_set_add (kV_is r) (key_scan r) (setK_get iv eD) room fun h1 sb1 new1 => ?_
  have at1 : ∃ o, h1.get? D = some o := by
    have ⟨o, _, _, _, ho, _⟩ := new1
    exact ⟨o, ho⟩
  exact h _ (iv.write (e := D) (t' := s.toks + 1) (by rw [eD]; trivial) (.inl rfl) (fun c o n1 e1 => (sb1.2 c n1).trans e1) at1 (setK_new new1))
/-- a set comprehension of keys -/
def tScK (P : Program) (w : World) (wi : TI) (g : TG) (tt : TT) (te : TE) (vs : List Nat) : TE := fun σ H Q => wi σ H fun J H1 => ∀ D, H1 D = Option.none → ∃ W : Nat → Nat → Hp → Prop, (∃ m, W 0 m (upd H1 D (SetK P w D (fun _ => false) 0))) ∧ ∀ i m H, W i m H →
  (J.stop i H ∧ Q (.ref D) H) ∨ (J.go i H ∧ ∃ Nx : Hp → Prop, (∀ H', Nx H' → ∃ m', m' < m ∧ W (i + 1) m' H') ∧ ∀ x H', J.yld i H x H' → g x (L2.wipe σ vs) H' fun σ2 H2 => L2.wipe σ2 vs = L2.wipe σ vs ∧ tt σ2 H2 fun b H3 =>
    if b = true then te σ2 H3 fun y H4 => ∃ (c : Key) (S : Key → Bool) (n : Nat), y = kV c ∧ H4 D = some (SetK P w D S n) ∧ n + 1 < scanBound ∧ Nx (upd H4 D (SetK P w D (fun j => S j || decide (j = c)) (if S c = true then n else n + 1))) else Nx H3)
theorem scK_core {pins : List (Addr × Obj)} {s : Shared} {σ : L2.St} {H : Hp} {Q : VK} {el tr itx : Expr} {fs : List Expr} {scope : Scope} {mine : List (PySem.Str × Nat)} {pos pos' : Pos} {wi : TI} {g : TG} {tt : TT} {te : TE} {use : Option (Value → Sem Unit)} {Qf : Value → Shared → Prop}
    (qc : Y.calm = true) (qN : Y.N.Nodup) (iv : Inv Y pins σ H s) (qi : PI Y tr itx wi) (bo : BlkOk Y.N Y.env.scope scope mine)
    (qg : ∀ (s : Shared) (H : Hp) (C : Addr) (cl : List (PySem.Str × Addr)) (ft : List Addr), PG (Y.blk s H scope (compEnvC scope cl C Y.env) ft) tr g) (qt : ∀ (s : Shared) (H : Hp) (C : Addr) (cl : List (PySem.Str × Addr)) (ft : List Addr), PTs (Y.blk s H scope (compEnvC scope cl C Y.env) ft) fs tt)
    (qe : ∀ (s : Shared) (H : Hp) (C : Addr) (cl : List (PySem.Str × Addr)) (ft : List Addr), PE (Y.blk s H scope (compEnvC scope cl C Y.env) ft) el te) (qs : ∀ x, foldedSetIterable itx Y.env x = pure x)
    (h : tScK Y.prog Y.w wi g tt te (mine.map (·.2)) σ H Q)
    (kont : ∀ D C s' m H', Inv Y pins σ H' s' → Q (.ref D) H' → s'.heap.Ns C m → FpOk Y pins H' C → compPost (model Y.prog Y.w) Y.A Y.xe use Qf (.ref D) C (.ok .next) s') :
    wpAny (model Y.prog Y.w) Y.A (comprehension (.SetComp el [⟨tr, itx, fs, 0⟩] scope pos) scope Y.env pos' (newSet (.type "set")) false (eval itx Y.env) use) Qf Y.xe s := by
  have frees : ∀ y ∈ scope.names, y.2 = .free → ∃ c, Y.env.cells.lookup y.1 = some c := fun y hy e => by
    rcases bo.free y hy e with k | k
    · exact iv.ok.has _ (.inl k)
    · exact iv.ok.has _ (.inr k)
  refine wpAny_comprehension_free (use := use) rfl qs (closure_ok frees) bo.kind (fun y hy e => by rw [bo.uniq y hy, e])
    (thn (qi.run pins s σ H _ iv h) fun xv sa hx => thn hx fun itv sb h2 => ?_)
  obtain ⟨it, ft, tk, J, Hb, e, ib, TT, stb, fb, q⟩ := h2
  subst e
  refine newSet_ok (newEnv_comp ?_)
  generalize eD : sb.heap.objs.size = D
  have eDn : Hb D = Option.none := ib.hok.fresh (Nat.le_of_eq eD)
  obtain ⟨WW, ⟨mm0, ww0⟩, trn⟩ := q D eDn
  generalize es3 : ({ sb with heap := sb.heap.push { cls := .type "set", dict := Option.none, data := .set #[] 0 (.fresh 0 0 (!Y.w.params.followText "set-order")) } } : Shared) = sc
  have ic : Inv Y pins σ (upd Hb D (SetK Y.prog Y.w D (fun _ => false) 0)) sc := by
    rw [← es3]
    refine ib.laid (t' := sb.toks) (fun c0 o e => Heap.get?_push_of_some _ e) (Nat.le_of_eq eD) ?_
    rw [← eD]
    exact setK_new setK_first
  have e3h : sc.heap = sb.heap.push { cls := .type "set", dict := Option.none, data := .set #[] 0 (.fresh 0 0 (!Y.w.params.followText "set-order")) } := by rw [← es3]
  have sz : ∀ c0 ∈ ft, c0 < sb.heap.objs.size := fun c0 hb => by
    obtain ⟨o, e, _⟩ := TT.obj _ _ stb c0 hb
    exact Heap.lt_size e
  have fc : ∀ c0 ∈ ft, FpOk Y pins (upd Hb D (SetK Y.prog Y.w D (fun _ => false) 0)) c0 ∧ c0 < sc.heap.objs.size := fun c0 hb => by
    have hlt := sz c0 hb
    refine ⟨⟨?_, (fb c0 hb).2⟩, by rw [e3h, Heap.size_push]; exact Nat.lt_succ_of_lt hlt⟩
    rw [upd_ne (by rw [← eD]; exact Nat.ne_of_lt hlt)]
    exact (fb c0 hb).1
  have stc : tk 0 sc.heap := TT.keep _ _ _ stb fun c0 _ o e => by rw [e3h]; exact Heap.get?_push_of_some _ e
  have id4 := block_start ic bo qN fc
  have pg := qg sc (upd Hb D (SetK Y.prog Y.w D (fun _ => false) 0)) sc.heap.objs.size (cellsFrom (sc.heap.objs.size + 1) scope.names (cloFrom Y.env.cells scope.names [])) ft
  have pt := qt sc (upd Hb D (SetK Y.prog Y.w D (fun _ => false) 0)) sc.heap.objs.size (cellsFrom (sc.heap.objs.size + 1) scope.names (cloFrom Y.env.cells scope.names [])) ft
  have pe := qe sc (upd Hb D (SetK Y.prog Y.w D (fun _ => false) 0)) sc.heap.objs.size (cellsFrom (sc.heap.objs.size + 1) scope.names (cloFrom Y.env.cells scope.names [])) ft
  show codeAny _ _ (.compStart (.SetComp el [⟨tr, itx, fs, 0⟩] scope pos) 0 (.ref it) (.ref D) (compEnvC scope (cellsFrom (sc.heap.objs.size + 1) scope.names (cloFrom Y.env.cells scope.names [])) sc.heap.objs.size Y.env)) (compPost (model Y.prog Y.w) Y.A Y.xe use Qf (.ref D) sc.heap.objs.size) { sc with heap := pushCells (sc.heap.push { cls := .type "dict", data := .dict #[] }) scope.names }
  have nfp : ∀ c0 ∈ ft, (upd Hb D (SetK Y.prog Y.w D (fun _ => false) 0)) c0 = Option.none := fun c0 hb => (fc c0 hb).1.1
  generalize ece : compEnvC scope (cellsFrom (sc.heap.objs.size + 1) scope.names (cloFrom Y.env.cells scope.names [])) sc.heap.objs.size Y.env = ce at id4 pg pt pe ⊢
  have eL : ce.locals = sc.heap.objs.size := by subst ece; rfl
  generalize eH3 : upd Hb D (SetK Y.prog Y.w D (fun _ => false) 0) = Hc at ic id4 pg pt pe ww0 nfp fc
  generalize es4 : ({ sc with heap := pushCells (sc.heap.push { cls := .type "dict", data := .dict #[] }) scope.names } : Shared) = sd at id4 ⊢
  have std : tk 0 sd.heap := TT.keep _ _ _ stc fun c0 _ o e => by rw [← es4]; exact pushCells_keeps _ _ _ _ (Heap.get?_push_of_some _ e)
  have sat : ∀ {σ' : L2.St} {H' : Hp} {s' : Shared}, Inv (Y.blk sc Hc scope ce ft) [] σ' H' s' → (∀ c0 ∈ ft, H' c0 = Option.none) → ∀ c0 ∈ ft, FpOk (Y.blk sc Hc scope ce ft) [] H' c0 := fun {σ' H' s'} iw hn c0 hb =>
    ⟨hn c0 hb, (iw.ok.exf c0 hb).1, iw.ok.exfs c0 hb, .inl hb, fun x c e => (iw.ok.exf c0 hb).2 x c e, fun p hp => absurd (show p ∈ ([] : List (Addr × Obj)) ++ [] from hp) (by simp)⟩
  have lp : codeAny (model Y.prog Y.w) Y.A (.compLoop (.SetComp el [⟨tr, itx, fs, 0⟩] scope pos) 0 (.ref it) (.ref D) ce) (compPost (model Y.prog Y.w) Y.A Y.xe use Qf (.ref D) sc.heap.objs.size) sd := by
    refine compLoopS_any (fun n s' => ∃ i H', Inv (Y.blk sc Hc scope ce ft) [] (wipe σ (mine.map (·.2))) H' s' ∧ tk i s'.heap ∧ (∀ c0 ∈ ft, H' c0 = Option.none) ∧ WW i n H') ?_ mm0 ⟨0, Hc, id4, std, nfp, ww0⟩
    rintro n se ⟨i, He, ie, ste, n5, w5⟩
    rcases trn i n He w5 with ⟨stop, qq⟩ | ⟨go, Nx, hNx, step⟩
    · have td := TT.done (Y.blk sc Hc scope ce ft) rfl rfl rfl qc i [] se _ He (fun _ _ => False) ie (sat ie n5) ste stop
      refine thnF td fun r sf ⟨hr, if6⟩ => ?_
      subst hr
      have ig : Inv Y pins σ He sf := ic.call' (ch := ft) if6.os if6.base if6.hok if6.bare fun c0 hb => ⟨(fc c0 hb).1.2.2.2.1, (fc c0 hb).1.2.1, (fc c0 hb).1.2.2.2.2.1, (fc c0 hb).1.2.2.2.2.2⟩
      have nC0 : He sc.heap.objs.size = Option.none := by
        have z : He ce.locals = Option.none := if6.free
        rw [eL] at z
        exact z
      obtain ⟨m, hn, _⟩ := if6.loc
      have hn : sf.heap.Ns ce.locals m := hn
      rw [eL] at hn
      exact kont D sc.heap.objs.size sf m He ig qq hn (ic.fpOk (Nat.le_refl _) nC0)
    · have ti := TT.item (Y.blk sc Hc scope ce ft) rfl rfl rfl qc i [] se _ He (fun _ _ => False) ie (sat ie n5) ste go
      refine thnF ti fun r sf ⟨u, hr, h6⟩ => ?_
      subst hr
      refine thnF h6 fun _ sg ⟨x, Hg, ig, r7, y7, stg, n7⟩ => ?_
      have ig' := ig.pinned (sat ig n7) (TT.obj _ _ stg)
      refine thnF (pg.run _ sg _ Hg x u _ ig' r7 (step x Hg y7)) fun _ sh ⟨σ8, Hh, ih8, hw8, q8⟩ => ?_
      refine thnF (pt.run _ sh σ8 Hh _ ih8 q8) fun c0 si ⟨Hi, ii, q9⟩ => ?_
      have fini : ∀ {s' : Shared} {H' : Hp}, Inv (Y.blk sc Hc scope ce ft) ([] ++ pinsAt ft sg.heap) σ8 H' s' → Nx H' → ∃ m, m < n ∧ ∃ i H', Inv (Y.blk sc Hc scope ce ft) [] (wipe σ (mine.map (·.2))) H' s' ∧ tk i s'.heap ∧ (∀ c0 ∈ ft, H' c0 = Option.none) ∧ WW i m H' := fun {s' H'} iw nx => by
        obtain ⟨m', hm, w'⟩ := hNx H' nx
        have pin' : ∀ c0 ∈ ft, ∀ o, sg.heap.get? c0 = some o → s'.heap.get? c0 = some o ∧ H' c0 = Option.none := fun c0 hb o e =>
          let z := iw.pin (c0, o) (List.mem_append_right _ (List.mem_append_right _ (mem_pinsAt hb e)))
          ⟨z.1, z.2.1⟩
        have hl : (wipe σ (mine.map (·.2))).length = σ8.length := by rw [← hw8, wipe_length]
        refine ⟨m', hm, i + 1, H', (iw.unpinned (pins := [])).weak hl (fun j v e => ?_), TT.keep _ _ _ stg fun c0 hb o e => (pin' c0 hb o e).1, fun c0 hb => ?_, w'⟩
        · rw [← hw8] at e
          exact (wipe_some e).1
        · obtain ⟨o, e, _⟩ := TT.obj _ _ stg c0 hb
          exact (pin' c0 hb o e).2
      cases c0 with
      | false =>
        simp only [Bool.false_eq_true, if_false] at q9 ⊢
        exact fini ii q9
      | true =>
        simp only [if_true] at q9 ⊢
        refine thnF (pe.run _ si σ8 Hi _ ii q9) fun z sj ⟨yv, Hj, ij, r10, ck, S0, n0, ey, hD10, hz10, nx⟩ => ?_
        subst ey
        exact addK_ok (Y := Y.blk sc Hc scope ce ft) ij r10 hD10 hz10 fun sk ik => fini ik nx
  exact codeAny_compStart_set lp (TT.self Y.A 0 _ _ _ std lp)

theorem pe_scK {el tr itx : Expr} {fs : List Expr} {scope : Scope} {mine : List (PySem.Str × Nat)} {pos : Pos} {wi : TI} {g : TG} {tt : TT} {te : TE} (qc : Y.calm = true) (qN : Y.N.Nodup) (qi : PI Y tr itx wi) (bo : BlkOk Y.N Y.env.scope scope mine)
    (qg : ∀ (s : Shared) (H : Hp) (C : Addr) (cl : List (PySem.Str × Addr)) (ft : List Addr), PG (Y.blk s H scope (compEnvC scope cl C Y.env) ft) tr g) (qt : ∀ (s : Shared) (H : Hp) (C : Addr) (cl : List (PySem.Str × Addr)) (ft : List Addr), PTs (Y.blk s H scope (compEnvC scope cl C Y.env) ft) fs tt)
    (qe : ∀ (s : Shared) (H : Hp) (C : Addr) (cl : List (PySem.Str × Addr)) (ft : List Addr), PE (Y.blk s H scope (compEnvC scope cl C Y.env) ft) el te) (qs : ∀ x, foldedSetIterable itx Y.env x = pure x) :
    PE Y (.SetComp el [⟨tr, itx, fs, 0⟩] scope pos) (tScK Y.prog Y.w wi g tt te (mine.map (·.2))) := by
  refine ⟨fun pins s σ H Q iv h => ?_⟩
  rw [eval_SetComp]
  refine scK_core qc qN iv qi bo qg qt qe qs h fun D C s1 m H1 i1 q hn f => ⟨m, hn, fun h2 sb => ?_⟩
  obtain ⟨fa, fb, fc, fd, fe, ff⟩ := f
  exact ⟨.ref D, H1, i1.turned (t' := s1.toks) (fun c o hc e => (sb.2 c hc).trans e) fa fb fd fe ff, rfl, q⟩
/-- len of a set of keys -/
def rLenK (P : Program) (w : World) : List V → Hp → VK → Prop := fun xs H Q => ∃ (a : Addr) (S : Key → Bool) (n : Nat), xs = [V.ref a] ∧ H a = some (SetK P w a S n) ∧ Q (.int n) H
theorem cr_lenK : CallR Y (.builtin "len") (rLenK Y.prog Y.w) := by
  intro pins s σ H xs us Q iv r h
  obtain ⟨a, S, n, rfl, ha, q⟩ := h
  cases r with
  | cons r1 rt =>
    cases rt
    cases r1
    obtain ⟨o, es, ep, t, ho, hex, hd, hel, hm, hb, hf, hn⟩ := setK_get iv ha
    refine call_len_set ho hex hd hf ?_ ⟨.int n, H, iv.tok _, ⟨_, by rw [hn]⟩, q⟩
    have : scanBound = 4096 := rfl
    omega
end
/-! ### the walk -/
theorem textsOf_app : ∀ {a b : List D} {ts : List (List Nat)}, textsOf (a ++ b) = some ts → ∃ ta tb, textsOf a = some ta ∧ textsOf b = some tb ∧ ts = ta ++ tb
  | [], b, ts, h => ⟨[], ts, rfl, h, rfl⟩
  | d :: a, b, ts, h => by
    cases d <;> first | (cases h; done) | skip
    rename_i x
    have h : (match textsOf (a ++ b) with
      | some c => some (x :: c)
      | none => none) = some ts := h
    split at h
    · rename_i c hc
      cases h
      obtain ⟨ta, tb, e1, e2, rfl⟩ := textsOf_app hc
      refine ⟨x :: ta, tb, ?_, e2, rfl⟩
      unfold textsOf
      rw [e1]
    · cases h
theorem textsOf_len : ∀ {a : List D} {ts : List (List Nat)}, textsOf a = some ts → ts.length = a.length
  | [], ts, h => by cases h; rfl
  | d :: a, ts, h => by
    cases d <;> first | (cases h; done) | skip
    rename_i x
    have h : (match textsOf a with
      | some c => some (x :: c)
      | none => none) = some ts := h
    split at h
    · rename_i c hc
      cases h
      simp [textsOf_len hc]
    · cases h
theorem lcRun_pre {f : D → Sta → Res (Option D)} : ∀ {xs acc : List D} {s : Sta} {accF : List D} {sF : Sta}, lcRun f xs acc s = .ok accF sF → ∃ rest, accF = acc ++ rest
  | [], acc, s, accF, sF, h => by
    cases h
    exact ⟨[], by simp⟩
  | x :: xs, acc, s, accF, sF, h => by
    rcases lcRun_ok h with ⟨s', _, e⟩ | ⟨d, s', _, _, e⟩
    · exact lcRun_pre e
    · obtain ⟨rest, e⟩ := lcRun_pre e
      exact ⟨d :: rest, by rw [e]; simp⟩
theorem unlike_le : ∀ l : List (List Nat), unlike l ≤ l.length
  | [] => Nat.le_refl _
  | x :: r => by
    unfold unlike
    have := unlike_le r
    split <;> simp <;> omega
theorem unlike_snoc : ∀ (l : List (List Nat)) (x : List Nat), unlike (l ++ [x]) = if l.contains x = true then unlike l else unlike l + 1
  | [], x => by simp [unlike]
  | y :: r, x => by
    show (if (r ++ [x]).contains y = true then unlike (r ++ [x]) else unlike (r ++ [x]) + 1) = if (y :: r).contains x = true then (if r.contains y = true then unlike r else unlike r + 1) else (if r.contains y = true then unlike r else unlike r + 1) + 1
    rw [unlike_snoc r x]
    by_cases e : y = x
    · subst e
      by_cases h : y ∈ r <;> simp [h]
    · have e' : ¬ x = y := fun q => e q.symm
      by_cases h1 : y ∈ r <;> by_cases h2 : x ∈ r <;> simp [h1, h2, e, e']
/-- the set holds the texts ts -/
def SetIs (S : Key → Bool) (ts : List (List Nat)) : Prop := ∀ x : List Nat, S (.inr ⟨x.toArray⟩) = ts.contains x
theorem SetIs.add {S : Key → Bool} {ts : List (List Nat)} (h : SetIs S ts) (x : List Nat) : SetIs (fun j => S j || decide (j = .inr ⟨x.toArray⟩)) (ts ++ [x]) := by
  intro y
  show (S (.inr ⟨y.toArray⟩) || decide ((.inr ⟨y.toArray⟩ : Key) = .inr ⟨x.toArray⟩)) = _
  rw [h y]
  have e : ((.inr ⟨y.toArray⟩ : Key) = .inr ⟨x.toArray⟩) ↔ y = x := by
    constructor
    · intro q
      have q := Sum.inr.inj q
      have q := congrArg (fun z : Str => z.cps.toList) q
      simpa using q
    · rintro rfl
      rfl
  simp [e]
section
variable {B : Bas} {cl : CallT}
theorem sc_walk {P : Program} {w : World} {vs : List Nat} {t : Tg} {cd el : E} {l : List D} {J : It} {r : En} {σ : L2.St} {z1 H1 : Hp} {s1 : Sta} {tt : TT} {te : TE} {K : PySem.W.Frag} {Qd : Hp → Prop} {Dl : Addr} {accF : List D} {sF : Sta} {tsF : List (List Nat)} (hK : K = B.K) (ht : tgIn vs t = true) (yl : Yl B z1 l J) (en : EnR B z1 r σ) (st1 : StR B.dp z1 H1 s1)
    (hD : H1 Dl = Option.none)
    (htt : ∀ (r : En) (s : Sta) (σ : L2.St) (z H : Hp) (b : Bool) (s' : Sta) (Q : Bool → Hp → Prop), EnR B z r σ → StR B.dp z H s → evE cl cd r s = .ok (.bl b) s' → (∀ z' H', Gr B.dp z H z' H' → StR B.dp z' H' s' → Q b H') → tt σ H Q)
    (hte : ∀ (r : En) (s : Sta) (σ : L2.St) (z H : Hp) (d : D) (s' : Sta) (Q : VK), EnR B z r σ → StR B.dp z H s → evE cl el r s = .ok d s' → (∀ z' H', Gr B.dp z H z' H' → StR B.dp z' H' s' → ∀ v, Rp B z' d v → Q v H') → te σ H Q)
    (hrun : lcRun (lcTurn cl t cd el (wipeE r vs)) l [] s1 = .ok accF sF) (hts : textsOf accF = some tsF) (hlen : tsF.length ≤ 1000)
    (fin : ∀ z' H' S, Gr B.dp z1 H1 z' H' → StR B.dp z' H' sF → H' Dl = some (SetK P w Dl S (unlike tsF)) → Qd H') :
    ∃ W : Nat → Nat → Hp → Prop, (∃ m, W 0 m (upd H1 Dl (SetK P w Dl (fun _ => false) 0))) ∧ ∀ i m H, W i m H →
      (J.stop i H ∧ Qd H) ∨ (J.go i H ∧ ∃ Nx : Hp → Prop, (∀ H', Nx H' → ∃ m', m' < m ∧ W (i + 1) m' H') ∧ ∀ x H', J.yld i H x H' → gOf K t x (L2.wipe σ vs) H' fun σ2 H2 => L2.wipe σ2 vs = L2.wipe σ vs ∧ tt σ2 H2 fun b H3 =>
        if b = true then te σ2 H3 fun y H4 => ∃ (c : Key) (S : Key → Bool) (n : Nat), y = kV c ∧ H4 Dl = some (SetK P w Dl S n) ∧ n + 1 < scanBound ∧ Nx (upd H4 Dl (SetK P w Dl (fun j => S j || decide (j = c)) (if S c = true then n else n + 1))) else Nx H3) := by
  have ndp : some Dl ≠ B.dp := ne_dp st1 hD
  let Pv : Nat → Hp → Prop := fun i H' => ∃ z' s' acc ts S, Gr B.dp z1 H1 z' H' ∧ StR B.dp z' H' s' ∧ z' Dl = Option.none ∧ H' Dl = some (SetK P w Dl S (unlike ts)) ∧ SetIs S ts ∧ textsOf acc = some ts ∧ lcRun (lcTurn cl t cd el (wipeE r vs)) (l.drop i) acc s' = .ok accF sF
  refine ⟨fun i m H' => m = l.length - i ∧ i ≤ l.length ∧ Pv i H', ⟨_, rfl, Nat.zero_le _, z1, s1, [], [], _, Gr.allocO st1.le hD, st1.allocO hD, st1.le.free hD, upd_same, fun _ => rfl, rfl, hrun⟩, ?_⟩
  rintro i m H' ⟨rfl, hi, z', s', acc, ts, S, g, st, hz, hH, hS, hacc, hrun'⟩
  by_cases hlt : i < l.length
  · have hd : l[i]? = some l[i] := List.getElem?_eq_getElem hlt
    refine .inr ⟨yl.go i l[i] z' H' hd g.sub st.le, Pv (i + 1), fun H'' p => ⟨l.length - (i + 1), by omega, rfl, hlt, p⟩, fun v H2 y => ?_⟩
    obtain ⟨z2, g2, kp2, rv⟩ := yl.yld i l[i] z' H' v H2 hd g.sub st.le y
    have st2 : StR B.dp z2 H2 s' := st.grow g2 fun p e => by rw [kp2 p _ (st.at_ p e), st.at_ p e]
    have hz2 : z2 Dl = Option.none := g2.new Dl _ hH hz
    have hH2 := kp2 _ _ hH
    have gg2 := g.tr st g2
    have en2 : EnR B z2 (wipeE r vs) (L2.wipe σ vs) := ((en.mono g.sub).mono g2.sub).wipe vs
    have edrop : l.drop i = l[i] :: l.drop (i + 1) := List.drop_eq_getElem_cons hlt
    rw [edrop] at hrun'
    have trn : ∃ o s'', lcTurn cl t cd el (wipeE r vs) l[i] s' = .ok o s'' ∧ ((o = Option.none ∧ lcRun (lcTurn cl t cd el (wipeE r vs)) (l.drop (i + 1)) acc s'' = .ok accF sF) ∨ (∃ d, o = some d ∧ acc.length < most ∧ lcRun (lcTurn cl t cd el (wipeE r vs)) (l.drop (i + 1)) (acc ++ [d]) s'' = .ok accF sF)) := by
      rcases lcRun_ok hrun' with ⟨s'', e1, e2⟩ | ⟨d, s'', e1, e2, e3⟩
      · exact ⟨_, s'', e1, .inl ⟨rfl, e2⟩⟩
      · exact ⟨_, s'', e1, .inr ⟨d, rfl, e2, e3⟩⟩
    obtain ⟨o, s'', e1, e2⟩ := trn
    obtain ⟨r', kk, s2, b1, b2, b3⟩ := turn_ok e1
    refine gOf_ok hK st2.le b1 rv en2 fun σ2 en3 hw => ⟨?_, ?_⟩
    · rw [hw vs ht, wipe_wipe fun _ h => h]
    · refine htt r' s' σ2 z2 H2 kk s2 _ en3 st2 b2 fun z3 H3 g3 st3 => ?_
      have hz3 : z3 Dl = Option.none := g3.new Dl _ hH2 hz2
      have hH3 := g3.keep _ _ hH2 ndp
      have gg3 := gg2.tr st2 g3
      rcases b3 with ⟨rfl, d, b4, rfl⟩ | ⟨rfl, rfl, rfl⟩
      · rcases e2 with ⟨e3, _⟩ | ⟨d', e3, e4, e5⟩
        · cases e3
        · cases e3
          rw [if_pos rfl]
          obtain ⟨rest, er⟩ := lcRun_pre e5
          rw [er] at hts
          obtain ⟨ta, tb, f1, f2, f3⟩ := textsOf_app hts
          obtain ⟨tc, te', f4, f5, f6⟩ := textsOf_app f1
          rw [hacc] at f4
          cases f4
          refine hte r' s2 σ2 z3 H3 d s'' _ (en3.mono g3.sub) st3 b4 fun z4 H4 g4 st4 y ry => ?_
          have hz4 : z4 Dl = Option.none := g4.new Dl _ hH3 hz3
          have hH4 := g4.keep _ _ hH3 ndp
          have gg4 := gg3.tr st3 g4
          cases d <;> first | (cases f5; done) | skip
          rename_i tx
          have f5 : some [tx] = some te' := f5
          cases f5
          obtain ⟨rfl, _⟩ := rp_str.mp ry
          have lt : unlike ts + 1 < scanBound := by
            have q1 := unlike_le ts
            have q2 : scanBound = 4096 := rfl
            have q3 : ts.length ≤ tsF.length := by rw [f3, f6]; simp [Nat.add_assoc]
            omega
          refine ⟨.inr ⟨tx.toArray⟩, S, unlike ts, rfl, hH4, lt, z4, s'', acc ++ [.str tx], ts ++ [tx], _, gg4.mut hD hz4, st4.mut hz4 ndp, hz4, ?_, hS.add tx, ?_, e5⟩
          · rw [upd_same, unlike_snoc, hS tx]
          · rw [f1, f6]
      · rcases e2 with ⟨_, e4⟩ | ⟨d', e3, _⟩
        · rw [if_neg Bool.false_ne_true]
          exact ⟨z3, _, acc, ts, S, gg3, st3, hz3, hH3, hS, hacc, e4⟩
        · cases e3
  · have e : i = l.length := by omega
    subst e
    refine .inl ⟨yl.stop H' (g.sub.trans st.le), ?_⟩
    rw [List.drop_length] at hrun'
    have hrun' : Res.ok acc s' = .ok accF sF := hrun'
    cases hrun'
    rw [hacc] at hts
    cases hts
    exact fin z' H' S g st hH
theorem slen_eq (vs : List Nat) (t : Tg) (it cd el : E) (r : En) (s : Sta) : evE cl (.slen vs t it cd el) r s = ((evE cl it r s).bind fun x s => ofO s (itemsD x)).bind fun l s => (lcRun (lcTurn cl t cd el (wipeE r vs)) l [] s).bind fun l s => ofO s (slenD l) := by
  rw [Res.bind_assoc]
  rfl
end
end Wk
/-! Wk, soundness 10: list comprehensions as values; all expressions at once; new lists. -/
namespace Wk
open PySem PySem.Spec PyProof.Rows L2
section
variable {B : Bas} {cl : CallT} {k : Nat} {c : Cfg} {X : Cx} {W : WX}
/-- what a comprehension's parts give -/
structure LcOk (B : Bas) (cl : CallT) (k : Nat) (c : Cfg) (X : Cx) (W : WX) (vs : List Nat) (t : Tg) (it cd el : E) (elt tg iter : Expr) (ifs : List Expr) (scope : Scope) : Prop where
  blk : blkC c.N c.sc scope (ownOf c vs) = true
  tin : tgIn vs t = true
  tgo : chT (inBlk c scope) t tg = true
  el : ∀ X', Blk X scope X' → SndE B cl X' W0 elt el
  cd : (ifs = [] ∧ cd = .cst (.bl true)) ∨ ∃ x, ifs = [x] ∧ ∀ X', Blk X scope X' → SndT B cl X' W0 x cd
  it : SndI B cl X W tg iter it
  nset : ∀ x, foldedSetIterable iter X.env x = pure x
theorem own_map (c : Cfg) (vs : List Nat) : (ownOf c vs).map (·.2) = vs := by
  unfold ownOf
  rw [List.map_map]
  exact List.map_id'' (fun _ => rfl) vs
theorem lc_tests {cd : E} {ifs : List Expr} {scope : Scope} (h : (ifs = [] ∧ cd = .cst (.bl true)) ∨ ∃ x, ifs = [x] ∧ ∀ X', Blk X scope X' → SndT B cl X' W0 x cd) :
    ∃ tt : TT, (∀ X', Blk X scope X' → PTs X' ifs tt) ∧ ∀ (r : En) (s : Sta) (σ : L2.St) (z H : Hp) (b : Bool) (s' : Sta) (Q : Bool → Hp → Prop), EnR B z r σ → StR B.dp z H s → evE cl cd r s = .ok (.bl b) s' → (∀ z' H', Gr B.dp z H z' H' → StR B.dp z' H' s' → Q b H') → tt σ H Q := by
  rcases h with ⟨rfl, rfl⟩ | ⟨x, rfl, h⟩
  · refine ⟨_, fun X' _ => pts_nil, fun r s σ z H b s' Q en st e q => ?_⟩
    have e : Res.ok (D.bl true) s = .ok (.bl b) s' := e
    cases e
    exact q z H (Gr.refl st.le) st
  · refine ⟨fun σ H Q => ∀ X', Blk X scope X' → WT X' x σ H Q, fun X' hX => pts_one ⟨fun pins s σ H Q I q => q X' hX pins s I⟩, fun r s σ z H b s' Q en st e q X' hX => ?_⟩
    refine h X' hX r s σ z H Q en st ?_
    rw [e]
    exact fun z' H' g t => q z' H' g t
theorem lc_elt {el : E} {elt : Expr} {scope : Scope} (h : ∀ X', Blk X scope X' → SndE B cl X' W0 elt el) :
    ∃ te : TE, (∀ X', Blk X scope X' → PE X' elt te) ∧ ∀ (r : En) (s : Sta) (σ : L2.St) (z H : Hp) (d : D) (s' : Sta) (Q : VK), EnR B z r σ → StR B.dp z H s → evE cl el r s = .ok d s' → (∀ z' H', Gr B.dp z H z' H' → StR B.dp z' H' s' → ∀ v, Rp B z' d v → Q v H') → te σ H Q := by
  refine ⟨fun σ H Q => ∀ X', Blk X scope X' → WE X' elt σ H Q, fun X' hX => ⟨fun pins s σ H Q I q => q X' hX pins s I⟩, fun r s σ z H d s' Q en st e q X' hX => ?_⟩
  refine h X' hX r s σ z H Q en st ?_
  rw [e]
  exact fun z' H' g t => q z' H' g t
theorem lc_eq (vs : List Nat) (t : Tg) (it cd el : E) (r : En) (s : Sta) : evE cl (.lc vs t it cd el) r s = ((evE cl it r s).bind fun x s => ofO s (itemsD x)).bind fun l s => (lcRun (lcTurn cl t cd el (wipeE r vs)) l [] s).bind fun l s => .ok (.lst l) s := by
  rw [Res.bind_assoc]
  rfl
/-- the reading of a comprehension: its new list at a free place, not yet frozen -/
theorem lc_read (x : XOk B cl k c X W) {vs : List Nat} {t : Tg} {it cd el : E} {elt tg iter : Expr} {ifs : List Expr} {scope : Scope} (L : LcOk B cl k c X W vs t it cd el elt tg iter ifs scope) :
    ∃ tt te, (∀ (s : Shared) (H : Hp) (C : Addr) (cs : List (Str × Addr)) (fp : List Addr), PTs (X.blk s H scope (compEnvC scope cs C X.env) fp) ifs tt) ∧
      (∀ (s : Shared) (H : Hp) (C : Addr) (cs : List (Str × Addr)) (fp : List Addr), PE (X.blk s H scope (compEnvC scope cs C X.env) fp) elt te) ∧
      (∀ (s : Shared) (H : Hp) (C : Addr) (cs : List (Str × Addr)) (fp : List Addr), PG (X.blk s H scope (compEnvC scope cs C X.env) fp) tg (gOf X.K t)) ∧
      BlkOk X.N X.env.scope scope (ownOf c vs) ∧
      ∀ (r : En) (s : Sta) (σ : L2.St) (z H : Hp) (Q : VK) (A : Type) (K : A → Hp → Hp → Prop) (f : D → Sta → Res A), EnR B z r σ → StR B.dp z H s → Po B z H ((evE cl (.lc vs t it cd el) r s).bind f) K (WXs W σ) →
        (∀ acc s' z1 H1 p z' H' vacc, Gr B.dp z H z1 H1 → H1 p = Option.none → some p ≠ B.dp → Gr B.dp z1 H1 z' H' → StR B.dp z' H' s' → z' p = Option.none → H' p = some (.lst vacc) → RpL B z' acc vacc → H p = Option.none → Gr B.dp z H z' H' →
          Po B z H (f (.lst acc) s') K (WXs W σ) → Q (.ref p) H') →
        tLc (WI X tg iter) (gOf X.K t) tt te ((ownOf c vs).map (·.2)) σ H Q := by
  obtain ⟨tt, t1, t2⟩ := lc_tests L.cd
  obtain ⟨te, e1, e2⟩ := lc_elt L.el
  refine ⟨tt, te, fun s H C cs fp => t1 _ ⟨s, H, C, cs, fp, rfl⟩, fun s H C cs fp => e1 _ ⟨s, H, C, cs, fp, rfl⟩, fun s H C cs fp => pg_of (x.blk (blkOk_by L.blk).kind ⟨s, H, C, cs, fp, rfl⟩) L.tgo, ?_, ?_⟩
  · rw [x.hN, x.sc]
    exact blkOk_by L.blk
  · intro r s σ z H Q A K f en st p fin
    rw [own_map]
    rw [lc_eq, Res.bind_assoc] at p
    refine L.it r s σ z H _ en st ?_
    rcases p.bind with ⟨l, s1, q1, p1⟩ | ⟨y, s1, q1, p1⟩
    · rw [q1]
      intro z1 H1 g1 st1 J yl Dl hD
      have p1' := p1
      rw [Res.bind_assoc] at p1'
      rcases p1'.bind with ⟨acc, sF, q2, p2⟩ | ⟨y, s2, q2, _⟩
      · refine lc_walk x.hK L.tin yl (en.mono g1.sub) st1 hD t2 e2 q2 fun z' H' vacc g' st' hz hH hr => ?_
        have hn : H Dl = Option.none := by
          cases q : H Dl with
          | none => rfl
          | some o =>
            have := g1.keep Dl o q (ne_dp st1 hD)
            rw [hD] at this
            cases this
        exact fin acc sF z1 H1 Dl z' H' vacc g1 hD (ne_dp st1 hD) g' st' hz hH hr hn (g1.tr st1 g') p2
      · exact absurd q2 lcRun_not
    · rw [q1]
      exact p1
theorem snd_lc (x : XOk B cl k c X W) {vs : List Nat} {t : Tg} {it cd el : E} {elt tg iter : Expr} {ifs : List Expr} {scope : Scope} {pos : Pos} (L : LcOk B cl k c X W vs t it cd el elt tg iter ifs scope) :
    SndE B cl X W (.ListComp elt [⟨tg, iter, ifs, 0⟩] scope pos) (.lc vs t it cd el) := by
  intro r s σ z H Q en st p
  obtain ⟨tt, te, h1, h2, h3, h4, h5⟩ := lc_read x L
  refine WE.of (pe_lc x.calm x.nd piW h4 h3 h1 h2 L.nset) ?_
  have e : (evE cl (.lc vs t it cd el) r s).bind (fun d s => .ok d s) = evE cl (.lc vs t it cd el) r s := by
    cases evE cl (.lc vs t it cd el) r s <;> rfl
  rw [← e] at p
  refine h5 r s σ z H Q D _ _ en st p fun acc s' z1 H1 q z' H' vacc g1 hn hd g' st' hz hH hr hn0 gg p2 => ?_
  refine p2 _ _ (gg.freeze hn0 hH hz) (st'.freeze hH hd) _ ?_
  exact rp_lst.mpr ⟨q, vacc, rfl, upd_same, hr.mono (same_upd hz)⟩
theorem snd_slen (x : XOk B cl k c X W) {vs : List Nat} {t : Tg} {it cd el : E} {elt tg iter : Expr} {ifs : List Expr} {scope : Scope} {p pos2 pos : Pos} (hgl : glB c "len" = true) (L : LcOk B cl k c X W vs t it cd el elt tg iter ifs scope) :
    SndE B cl X W (.Call (.Name "len" p) [.SetComp elt [⟨tg, iter, ifs, 0⟩] scope pos2] [] pos) (.slen vs t it cd el) := by
  intro r s σ z H Q en st pp
  obtain ⟨tt, t1, t2⟩ := lc_tests L.cd
  obtain ⟨te, e1, e2⟩ := lc_elt L.el
  have hm := x.bns "len" (by decide +kernel)
  obtain ⟨g1, g2⟩ := x.gl hgl
  have bo : BlkOk X.N X.env.scope scope (ownOf c vs) := by
    rw [x.hN, x.sc]
    exact blkOk_by L.blk
  have pe := pe_scK (Y := X) (pos := pos2) (g := gOf X.K t) (tr := tg) (tt := tt) (te := te) x.calm x.nd piW bo (fun s H C cs fp => pg_of (x.blk (blkOk_by L.blk).kind ⟨s, H, C, cs, fp, rfl⟩) L.tgo) (fun s H C cs fp => t1 _ ⟨s, H, C, cs, fp, rfl⟩) (fun s H C cs fp => e1 _ ⟨s, H, C, cs, fp, rfl⟩) L.nset
  refine WE.of (pe_callB cr_lenK g1 hm (by decide +kernel) (pa_cons pe pa_nil rfl) (by decide +kernel) g2 rfl rfl) ?_
  rw [slen_eq] at pp
  refine L.it r s σ z H _ en st ?_
  rw [own_map]
  rcases pp.bind with ⟨l, s1, q1, p1⟩ | ⟨y, s1, q1, p1⟩
  · rw [q1]
    intro z1 H1 gg1 st1 J yl Dl hD
    have p1' := p1
    rcases p1'.bind with ⟨acc, sF, q2, p2⟩ | ⟨y, s2, q2, _⟩
    · obtain ⟨d, e, p3⟩ := p2.ofO1
      unfold slenD at e
      split at e
      · rename_i ts hts
        split at e
        · rename_i hlen
          cases e
          refine sc_walk x.hK L.tin yl (en.mono gg1.sub) st1 hD t2 e2 q2 hts hlen fun z' H' S gr st' hS => ?_
          exact ⟨Dl, S, _, rfl, hS, p3 z' H' (gg1.tr st1 gr) st' _ (rp_int.mpr rfl)⟩
        · cases e
      · cases e
    · exact absurd q2 lcRun_not
  · rw [q1]
    exact p1
end
/-! ### all expressions -/
theorem no_set {c : Cfg} {es : List Expr} {j : Nat} {p : Pos} : ∀ ir : E, chE ir c (.Set es j p) = false := by
  intro ir
  cases ir <;> first | rfl | skip
  rename_i b a
  cases b <;> rfl
theorem no_setI {c : Cfg} {es : List Expr} {j : Nat} {p : Pos} : ∀ ir : E, chI ir c (.Set es j p) = false := by
  intro ir
  cases ir <;> first | rfl | skip
  rename_i b a
  cases b <;> rfl
theorem folded_of {ir : E} {c : Cfg} {e : Expr} (h : chI ir c e = true) (env : PySem.Env) (v : Value) : foldedSetIterable e env v = pure v := by
  cases e <;> first | rfl | skip
  rw [no_setI] at h
  cases h
/-- an iterable that is an expression -/
def isRng : E → Bool
  | .rng _ => true
  | .rng2 _ _ => true
  | _ => false
theorem chI_chE {ir : E} {c : Cfg} {e : Expr} (hr : isRng ir = false) (h : chI ir c e = true) : chE ir c e = true := by
  cases ir <;> first | (cases hr; done) | exact h | (cases h; done)
/-- e is true or false by its value alone -/
theorem true_val {e : Expr} (env : PySem.Env) (h : (match e with | .UnaryOp .Not _ _ => false | .BoolOp _ _ _ => false | .IfExp _ _ _ _ => false | .Compare _ _ _ _ => false | _ => true) = true) :
    ∀ whole, isTrue e env whole = (do let v ← whole; standAt e.pos; holding [v] (truthy v)) := by
  intro whole
  cases e <;> first | (cases h; done) | rfl | skip
  rename_i op _ _
  cases op <;> first | (cases h; done) | rfl
theorem snd_all (B : Bas) (cl : CallT) (k : Nat) : ∀ (ir : E),
    (∀ (c : Cfg) (e : Expr) (X : Cx) (W : WX), chE ir c e = true → XOk B cl k c X W → SndE B cl X W e ir ∧ SndT B cl X W e ir) ∧
    (∀ (c : Cfg) (es : List Expr) (X : Cx) (W : WX), chL ir c es = true → XOk B cl k c X W → SndA B cl X W es ir) ∧
    (∀ (c : Cfg) (e tg : Expr) (X : Cx) (W : WX), chI ir c e = true → XOk B cl k c X W → SndI B cl X W tg e ir) := by
  intro ir
  -- from the first part alone, where the node is no argument list and no range
  have mk : ∀ {ir : E}, isRng ir = false → (∀ (c : Cfg) (es : List Expr), chL ir c es = true → False) →
      (∀ (c : Cfg) (e : Expr) (X : Cx) (W : WX), chE ir c e = true → XOk B cl k c X W → SndE B cl X W e ir ∧ SndT B cl X W e ir) →
      (∀ (c : Cfg) (e : Expr) (X : Cx) (W : WX), chE ir c e = true → XOk B cl k c X W → SndE B cl X W e ir ∧ SndT B cl X W e ir) ∧
      (∀ (c : Cfg) (es : List Expr) (X : Cx) (W : WX), chL ir c es = true → XOk B cl k c X W → SndA B cl X W es ir) ∧
      (∀ (c : Cfg) (e tg : Expr) (X : Cx) (W : WX), chI ir c e = true → XOk B cl k c X W → SndI B cl X W tg e ir) := fun hr hl h =>
    ⟨h, fun c es X W q _ => (hl c es q).elim, fun c e tg X W q x => sni_of x (h c e X W (chI_chE hr q) x).1⟩
  induction ir with
  | nil =>
    refine ⟨fun c e X W h => (by cases h), fun c es X W h x => ?_, fun c e tg X W h => (by cases h)⟩
    cases es with
    | nil => exact sna_nil
    | cons => cases h
  | cons a b iha ihb =>
    refine ⟨fun c e X W h => (by cases h), fun c es X W h x => ?_, fun c e tg X W h => (by cases h)⟩
    cases es with
    | nil => cases h
    | cons e es =>
      have h' := chL_cons h
      exact sna_cons h'.1 (iha.1 c e X W h'.1 x).1 (ihb.2.1 c es X W h'.2 x)
  | var i =>
    refine mk rfl (fun c es h => by cases h) fun c e X W h x => ?_
    have s := snd_var x h
    refine ⟨s, snt_of (true_val _ ?_) s⟩
    have h : kVar i c e = true := h
    unfold kVar at h
    split at h <;> first | rfl | (cases h; done)
  | cst d =>
    refine mk rfl (fun c es h => by cases h) fun c e X W h x => ?_
    have s : SndE B cl X W e (.cst d) := snd_cst h
    refine ⟨s, snt_of (true_val _ ?_) s⟩
    have h : kCst d e = true := h
    unfold kCst at h
    split at h <;> first | rfl | (cases h; done)
  | glb g d =>
    refine mk rfl (fun c es h => by cases h) fun c e X W h x => ?_
    have s := snd_glb x h
    refine ⟨s, snt_of (true_val _ ?_) s⟩
    have h : kGlb g d c e = true := h
    unfold kGlb at h
    split at h <;> first | rfl | (cases h; done)
  | bin o a b iha ihb =>
    refine mk rfl (fun c es h => by cases h) fun c e X W h x => ?_
    have h : kBin o (chE a c) (chE b c) e = true := h
    unfold kBin at h
    split at h
    · rename_i l op r pos _
      rw [Bool.and_eq_true, Bool.and_eq_true] at h
      have e1 : op = opB o := of_decide_eq_true h.1.1
      subst e1
      have s := snd_bin (pos := pos) x (o := o) (iha.1 c l X W h.1.2 x).1 (ihb.1 c r X W h.2 x).1
      exact ⟨s, snt_of (true_val _ rfl) s⟩
    · cases h
  | cmp o a b iha ihb =>
    refine mk rfl (fun c es h => by cases h) fun c e X W h x => ?_
    have h : kCmp o (chE a c) (chE b c) e = true := h
    unfold kCmp at h
    split at h
    · rename_i l op r pos _
      rw [Bool.and_eq_true, Bool.and_eq_true, Bool.and_eq_true, Bool.not_eq_true'] at h
      have e1 : op = opC o := of_decide_eq_true h.1.1.1
      subst e1
      exact ⟨snd_cmp (pos := pos) x (o := o) h.2 (iha.1 c l X W h.1.1.2 x).1 (ihb.1 c r X W h.1.2 x).1, snt_cmp (pos := pos) x (o := o) h.2 (iha.1 c l X W h.1.1.2 x).1 (ihb.1 c r X W h.1.2 x).1⟩
    · cases h
  | chain o p a b d iha ihb ihd =>
    refine mk rfl (fun c es h => by cases h) fun c e X W h x => ?_
    have h : kChain o p (chE a c) (chE b c) (chE d c) e = true := h
    unfold kChain at h
    split at h
    · rename_i l op op' m r pos _
      simp only [Bool.and_eq_true] at h
      obtain ⟨⟨⟨⟨⟨h0, h1⟩, h2⟩, h3⟩, h4⟩, h5⟩ := h
      have e1 : op = opC o := of_decide_eq_true h1
      have e2 : op' = opC p := of_decide_eq_true h2
      subst e1 e2
      exact ⟨snd_chain (pos := pos) x h0 (iha.1 c l X W h3 x).1 (ihb.1 c m X W h4 x).1 (ihd.1 c r X W h5 x).1, snt_chain (pos := pos) x h0 (iha.1 c l X W h3 x).1 (ihb.1 c m X W h4 x).1 (ihd.1 c r X W h5 x).1⟩
    · cases h
  | and a b iha ihb =>
    refine mk rfl (fun c es h => by cases h) fun c e X W h x => ?_
    have h : kAnd (chE a c) (chE b c) e = true := h
    unfold kAnd at h
    split at h
    · rw [Bool.and_eq_true] at h
      exact ⟨snd_and2 (iha.1 c _ X W h.1 x).1 (ihb.1 c _ X W h.2 x).1, snt_and2 (iha.1 c _ X W h.1 x).2 (ihb.1 c _ X W h.2 x).2⟩
    · rw [Bool.and_eq_true] at h
      exact ⟨snd_andN (iha.1 c _ X W h.1 x).1 (ihb.1 c _ X W h.2 x).1, snt_andN (iha.1 c _ X W h.1 x).2 (ihb.1 c _ X W h.2 x).2⟩
    · cases h
  | or a b iha ihb =>
    refine mk rfl (fun c es h => by cases h) fun c e X W h x => ?_
    have h : kOr (chE a c) (chE b c) e = true := h
    unfold kOr at h
    split at h
    · rw [Bool.and_eq_true] at h
      exact ⟨snd_or2 (iha.1 c _ X W h.1 x).1 (ihb.1 c _ X W h.2 x).1, snt_or2 (iha.1 c _ X W h.1 x).2 (ihb.1 c _ X W h.2 x).2⟩
    · rw [Bool.and_eq_true] at h
      exact ⟨snd_orN (iha.1 c _ X W h.1 x).1 (ihb.1 c _ X W h.2 x).1, snt_orN (iha.1 c _ X W h.1 x).2 (ihb.1 c _ X W h.2 x).2⟩
    · cases h
  | not a iha =>
    refine mk rfl (fun c es h => by cases h) fun c e X W h x => ?_
    have h : kNot (chE a c) e = true := h
    unfold kNot at h
    split at h
    · exact ⟨snd_not (iha.1 c _ X W h x).1, snt_not (iha.1 c _ X W h x).2⟩
    · cases h
  | ite t a b iht iha ihb =>
    refine mk rfl (fun c es h => by cases h) fun c e X W h x => ?_
    have h : kIte (chE t c) (chE a c) (chE b c) e = true := h
    unfold kIte at h
    split at h
    · rw [Bool.and_eq_true, Bool.and_eq_true] at h
      exact ⟨snd_ite (iht.1 c _ X W h.1.1 x).2 (iha.1 c _ X W h.1.2 x).1 (ihb.1 c _ X W h.2 x).1, snt_ite (iht.1 c _ X W h.1.1 x).2 (iha.1 c _ X W h.1.2 x).2 (ihb.1 c _ X W h.2 x).2⟩
    · cases h
  | tup a iha =>
    refine mk rfl (fun c es h => by cases h) fun c e X W h x => ?_
    have h : kTup (chL a c) e = true := h
    unfold kTup at h
    split at h
    · rename_i es j pos _
      have s : SndE B cl X W (.Tuple es j pos) (.tup a) := snd_tup (iha.2.1 c es X W h x)
      exact ⟨s, snt_of (true_val _ rfl) s⟩
    · cases h
  | lst a iha =>
    refine mk rfl (fun c es h => by cases h) fun c e X W h x => ?_
    have h : kLst (chL a c) e = true := h
    unfold kLst at h
    split at h
    · rename_i es pos _
      have s : SndE B cl X W (.List es pos) (.lst a) := snd_lst (iha.2.1 c es X W h x)
      exact ⟨s, snt_of (true_val _ rfl) s⟩
    · cases h
  | ix a b iha ihb =>
    refine mk rfl (fun c es h => by cases h) fun c e X W h x => ?_
    have h : kIx (chE a c) (chE b c) e = true := h
    unfold kIx at h
    split at h
    · rename_i v i pos _
      rw [Bool.and_eq_true, Bool.and_eq_true, Bool.not_eq_true'] at h
      have s := snd_ix (pos := pos) x h.2 (iha.1 c v X W h.1.1 x).1 (ihb.1 c i X W h.1.2 x).1
      exact ⟨s, snt_of (true_val _ rfl) s⟩
    · cases h
  | sl a lo hi iha ihl ihh =>
    refine mk rfl (fun c es h => by cases h) fun c e X W h x => ?_
    have h : kSl (chE a c) (kPart (isNonC lo) (chE lo c)) (kPart (isNonC hi) (chE hi c)) e = true := h
    unfold kSl at h
    split at h
    · rename_i v l u p2 pos _
      rw [Bool.and_eq_true, Bool.and_eq_true] at h
      have pl : SndP B cl X W l lo := by
        have q := h.1.2
        cases l with
        | none => exact snp_none q
        | some y =>
          have q : (chE lo c y && !isNonC lo) = true := q
          rw [Bool.and_eq_true, Bool.not_eq_true'] at q
          exact snp_some q.2 (ihl.1 c y X W q.1 x).1
      have pu : SndP B cl X W u hi := by
        have q := h.2
        cases u with
        | none => exact snp_none q
        | some y =>
          have q : (chE hi c y && !isNonC hi) = true := q
          rw [Bool.and_eq_true, Bool.not_eq_true'] at q
          exact snp_some q.2 (ihh.1 c y X W q.1 x).1
      have s := snd_sl (pos := pos) (p2 := p2) x (iha.1 c v X W h.1.1 x).1 pl pu
      exact ⟨s, snt_of (true_val _ rfl) s⟩
    · cases h
  | isi a t iha =>
    refine mk rfl (fun c es h => by cases h) fun c e X W h x => ?_
    have h : kIsi t c (chE a c) e = true := h
    unfold kIsi at h
    split at h
    · rename_i f p y ty pos _
      rw [Bool.and_eq_true, Bool.and_eq_true, Bool.and_eq_true] at h
      obtain ⟨⟨⟨h1, h2⟩, h3⟩, h4⟩ := h
      have e1 : f = "isinstance" := of_decide_eq_true h1
      subst e1
      unfold kTy at h4
      split at h4
      · rename_i n p2
        rw [Bool.and_eq_true, Bool.and_eq_true] at h4
        obtain ⟨⟨h5, h6⟩, h7⟩ := h4
        have e2 : n = tyStr t := of_decide_eq_true h5
        subst e2
        obtain ⟨m, hm⟩ := Option.isSome_iff_exists.mp h7
        have s := snd_isi (p := p) (p2 := p2) (pos := pos) x hm h2 h6 h3 (iha.1 c y X W h3 x).1
        exact ⟨s, snt_of (true_val _ rfl) s⟩
      · rename_i n p2 m p3 j p4
        simp only [Bool.and_eq_true] at h4
        obtain ⟨⟨⟨⟨h5, h6⟩, h7⟩, h8⟩, h9⟩ := h4
        have e2 : n = "list" := of_decide_eq_true h6
        have e3 : m = "tuple" := of_decide_eq_true h7
        subst e2 e3
        cases t <;> first | (cases h5; done) | skip
        have s := snd_isi2 (p := p) (p2 := p2) (p3 := p3) (p4 := p4) (pos := pos) (j := j) x h2 h8 h9 h3 (iha.1 c y X W h3 x).1
        exact ⟨s, snt_of (true_val _ rfl) s⟩
      · cases h4
    · cases h
  | bi b a iha =>
    refine mk rfl (fun c es h => by cases h) fun c e X W h x => ?_
    have h : kBi b c (chE a c) e = true := h
    by_cases hb : b = .neg
    · subst hb
      have h : kNeg (chE a c) e = true := h
      unfold kNeg at h
      split at h
      · rename_i y pos _ _
        have s : SndE B cl X W (.UnaryOp .USub y pos) (.bi .neg a) := snd_neg (iha.1 c y X W h x).1
        exact ⟨s, snt_of (true_val _ rfl) s⟩
      · cases h
    · have hh : (biOk b && kC1 (biName b) c (chE a c) e) = true := by
        cases b <;> first | exact h | exact absurd rfl hb
      clear h
      rw [Bool.and_eq_true] at hh
      have h0 := hh.1
      have hq := hh.2
      clear hh
      unfold kC1 at hq
      split at hq
      · rename_i f p y pos
        rw [Bool.and_eq_true, Bool.and_eq_true] at hq
        have e1 : f = biName b := of_decide_eq_true hq.1.1
        subst e1
        have s := snd_bi (pp := p) (pos := pos) x h0 hq.1.2 hq.2 (iha.1 c y X W hq.2 x).1
        exact ⟨s, snt_of (true_val _ rfl) s⟩
      · cases hq
  | mn a b iha ihb =>
    refine mk rfl (fun c es h => by cases h) fun c e X W h x => ?_
    have h : kC2 "min" c (chE a c) (chE b c) e = true := h
    unfold kC2 at h
    split at h
    · rename_i f p y z pos _
      rw [Bool.and_eq_true, Bool.and_eq_true, Bool.and_eq_true] at h
      obtain ⟨⟨⟨h1, h2⟩, h3⟩, h4⟩ := h
      have e1 : f = "min" := of_decide_eq_true h1
      subst e1
      have s := snd_mn (p := p) (pos := pos) x h2 h3 h4 (iha.1 c y X W h3 x).1 (ihb.1 c z X W h4 x).1
      exact ⟨s, snt_of (true_val _ rfl) s⟩
    · cases h
  | mx a b iha ihb =>
    refine mk rfl (fun c es h => by cases h) fun c e X W h x => ?_
    have h : kC2 "max" c (chE a c) (chE b c) e = true := h
    unfold kC2 at h
    split at h
    · rename_i f p y z pos _
      rw [Bool.and_eq_true, Bool.and_eq_true, Bool.and_eq_true] at h
      obtain ⟨⟨⟨h1, h2⟩, h3⟩, h4⟩ := h
      have e1 : f = "max" := of_decide_eq_true h1
      subst e1
      have s := snd_mx (p := p) (pos := pos) x h2 h3 h4 (iha.1 c y X W h3 x).1 (ihb.1 c z X W h4 x).1
      exact ⟨s, snt_of (true_val _ rfl) s⟩
    · cases h
  | call f a iha =>
    refine mk rfl (fun c es h => by cases h) fun c e X W h x => ?_
    have h : kCall f c (chL a c) e = true := h
    unfold kCall at h
    split at h
    · rename_i n p args pos _
      rw [Bool.and_eq_true, Bool.and_eq_true] at h
      obtain ⟨⟨h1, h2⟩, h3⟩ := h
      split at h2
      · rename_i y ps ht
        rw [Bool.and_eq_true] at h2
        have e1 : n = y := of_decide_eq_true h2.1
        subst e1
        have s := snd_call (p := p) (pos := pos) x h1 ht (of_decide_eq_true h2.2) h3 (iha.2.1 c args X W h3 x)
        exact ⟨s, snt_of (true_val _ rfl) s⟩
      · cases h2
    · cases h
  | lc vs t it cd el iht ihc ihe =>
    refine mk rfl (fun c es h => by cases h) fun c e X W h x => ?_
    have h : kLc vs t c (chE el) (chE cd) (isTrueC cd) (chI it c) e = true := h
    unfold kLc at h
    split at h
    · rename_i elt tg iter ifs scope pos _
      simp only [Bool.and_eq_true] at h
      obtain ⟨⟨⟨⟨⟨h1, h2⟩, h3⟩, h4⟩, h5⟩, h6⟩ := h
      have L : LcOk B cl k c X W vs t it cd el elt tg iter ifs scope := by
        refine ⟨h1, h2, h3, fun X' hX => (ihe.1 _ elt X' W0 h4 (x.blk (blkOk_by h1).kind hX)).1, ?_, iht.2.2 c iter tg X W h6 x, fun v => folded_of h6 X.env v⟩
        unfold kIfs at h5
        split at h5
        · refine .inl ⟨rfl, ?_⟩
          unfold isTrueC at h5
          split at h5
          · rfl
          · cases h5
        · rename_i y
          exact .inr ⟨y, rfl, fun X' hX => (ihc.1 _ y X' W0 h5 (x.blk (blkOk_by h1).kind hX)).2⟩
        · cases h5
      have s : SndE B cl X W (.ListComp elt [⟨tg, iter, ifs, 0⟩] scope pos) (.lc vs t it cd el) := snd_lc x L
      exact ⟨s, snt_of (true_val _ rfl) s⟩
    · cases h
  | slen vs t it cd el iht ihc ihe =>
    refine mk rfl (fun c es h => by cases h) fun c e X W h x => ?_
    have h : kSc vs t c (chE el) (chE cd) (isTrueC cd) (chI it c) e = true := h
    unfold kSc at h
    split at h
    · rename_i f p elt tg iter ifs scope pos2 pos _
      simp only [Bool.and_eq_true] at h
      obtain ⟨⟨⟨⟨⟨⟨⟨h0, hg⟩, h1⟩, h2⟩, h3⟩, h4⟩, h5⟩, h6⟩ := h
      have e1 : f = "len" := of_decide_eq_true h0
      subst e1
      have L : LcOk B cl k c X W vs t it cd el elt tg iter ifs scope := by
        refine ⟨h1, h2, h3, fun X' hX => (ihe.1 _ elt X' W0 h4 (x.blk (blkOk_by h1).kind hX)).1, ?_, iht.2.2 c iter tg X W h6 x, fun v => folded_of h6 X.env v⟩
        unfold kIfs at h5
        split at h5
        · refine .inl ⟨rfl, ?_⟩
          unfold isTrueC at h5
          split at h5
          · rfl
          · cases h5
        · rename_i y
          exact .inr ⟨y, rfl, fun X' hX => (ihc.1 _ y X' W0 h5 (x.blk (blkOk_by h1).kind hX)).2⟩
        · cases h5
      have s := snd_slen (p := p) (pos2 := pos2) (pos := pos) x hg L
      exact ⟨s, snt_of (true_val _ rfl) s⟩
    · cases h
  | rng a iha =>
    refine ⟨fun c e X W h => (by cases h), fun c es X W h => (by cases h), fun c e tg X W h x => ?_⟩
    have h : kC1 "range" c (chE a c) e = true := h
    unfold kC1 at h
    split at h
    · rename_i f p y pos _
      rw [Bool.and_eq_true, Bool.and_eq_true] at h
      obtain ⟨⟨h1, h2⟩, h3⟩ := h
      have e1 : f = "range" := of_decide_eq_true h1
      subst e1
      exact sni_rng x h2 h3 (iha.1 c y X W h3 x).1
    · cases h
  | rng2 a b iha ihb =>
    refine ⟨fun c e X W h => (by cases h), fun c es X W h => (by cases h), fun c e tg X W h x => ?_⟩
    have h : kC2 "range" c (chE a c) (chE b c) e = true := h
    unfold kC2 at h
    split at h
    · rename_i f p y z pos _
      rw [Bool.and_eq_true, Bool.and_eq_true, Bool.and_eq_true] at h
      obtain ⟨⟨⟨h1, h2⟩, h3⟩, h4⟩ := h
      have e1 : f = "range" := of_decide_eq_true h1
      subst e1
      exact sni_rng2 x h2 h3 h4 (iha.1 c y X W h3 x).1 (ihb.1 c z X W h4 x).1
    · cases h
end Wk
/-! Wk, soundness 11: new lists; the frames of statements. -/
namespace Wk
open PySem PySem.Spec PyProof.Rows L2
/-- a result that is a new list, held by nobody, or any other value -/
def FrV (B : Bas) (h0 z h : Hp) (d : D) (v : V) : Prop := match d with
  | .lst l => ∃ p vs, v = .ref p ∧ h p = some (.lst vs) ∧ z p = Option.none ∧ some p ≠ B.dp ∧ RpL B z l vs ∧ h0 p = Option.none
  | d => Rp B z d v
def SndF (B : Bas) (cl : CallT) (X : Cx) (W : WX) (e : Expr) (ir : E) : Prop :=
  ∀ (r : En) (s : Sta) (σ : L2.St) (z H : Hp) (Q : VK), EnR B z r σ → StR B.dp z H s → Po B z H (evE cl ir r s) (fun d z' h' => ∀ v, FrV B H z' h' d v → Q v h') (WXs W σ) → WE X e σ H Q
theorem Gr.free {dp : Option Addr} {z h z' h' : Hp} {p : Addr} (g : Gr dp z h z' h') (n : h' p = Option.none) (d : some p ≠ dp) : h p = Option.none := by
  cases q : h p with
  | none => rfl
  | some o =>
    have := g.keep p o q d
    rw [n] at this
    cases this
section
variable {B : Bas} {cl : CallT} {k : Nat} {c : Cfg} {X : Cx} {W : WX}
theorem snf_lst {a : E} {es : List Expr} {pos : Pos} (ha : SndA B cl X W es a) : SndF B cl X W (.List es pos) (.lst a) := by
  intro r s σ z H Q en st p
  refine WE.of (pe_lst paW) ?_
  rw [lst_ls] at p
  have p0 := p
  refine ha.bind (K := fun d z' h' => ∀ v, FrV B H z' h' d v → Q v h') en st p fun l s1 vs z1 H1 g1 st1 r1 p1 => ?_
  split at p1
  · rename_i hl
    refine ⟨by rw [r1.length]; exact most_le hl, fun q hq => ?_⟩
    have nd := ne_dp st1 hq
    exact p1 _ _ (Gr.allocO st1.le hq) (st1.allocO hq) _ ⟨q, vs, rfl, upd_same, st1.le.free hq, nd, r1, g1.free hq nd⟩
  · exact p1.elim
theorem snf_add (x : XOk B cl k c X W) {a b : E} {l r' : Expr} {pos : Pos} (ha : SndE B cl X W l a) (hb : SndE B cl X W r' b) : SndF B cl X W (.BinOp l .Add r' pos) (.bin .add a b) := by
  intro r s σ z H Q en st p
  refine WE.of (pe_op (op_cat.or (op_add.or (op_add_str.or op_catA))) peW peW) ?_
  have p : Po B z H ((evE cl a r s).bind fun x s => (evE cl b r s).bind fun y s => ofO s (binD .add x y)) (fun d z' h' => ∀ v, FrV B H z' h' d v → Q v h') (WXs W σ) := p
  refine ha.bind en st p fun d1 s1 v1 z1 H1 g1 st1 r1 p1 => ?_
  refine hb.bind (en.mono g1.sub) st1 p1 fun d2 s2 v2 z2 H2 g2 st2 r2 p2 => ?_
  obtain ⟨d, e, p3⟩ := p2.ofO1
  by_cases hl : ∃ l m, d1 = .lst l ∧ d2 = .lst m
  · obtain ⟨l, m, rfl, rfl⟩ := hl
    simp only [binD] at e
    split at e
    · rename_i hm
      cases e
      obtain ⟨p, xs, rfl, k1, l1⟩ := rp_lst.mp (r1.mono g2.sub)
      obtain ⟨q, ys, rfl, k2, l2⟩ := rp_lst.mp r2
      refine .inl ⟨p, q, xs, ys, rfl, rfl, st2.le _ _ k1, st2.le _ _ k2, by rw [l1.length, l2.length]; exact most_le hm, fun a' hn => ?_⟩
      have nd := ne_dp st2 hn
      exact p3 _ _ (Gr.allocO st2.le hn) (st2.allocO hn) _ ⟨a', _, rfl, upd_same, st2.le.free hn, nd, l1.append l2, g1.free (g2.free hn nd) nd⟩
    · cases e
  · have nl : ∀ l, d ≠ .lst l := by
      intro l q
      subst q
      cases d1 <;> cases d2 <;> simp only [binD] at e <;> first
        | (cases e; done)
        | (split at e <;> cases e; done)
        | exact hl ⟨_, _, rfl, rfl⟩
    have w : Want B z2 H2 s2 d Q := fun z' h' g t v q => p3 z' h' g t v (by
      unfold FrV
      split
      · exact absurd rfl (nl _)
      · exact q)
    obtain ⟨rr, ho, hw⟩ := bin_wp (B := B) x.hK .add
    right
    cases d1 <;> cases d2 <;> simp only [binD] at e <;> try (cases e; done)
    · cases e
      cases rp_int.mp r1
      cases rp_int.mp r2
      exact .inl ⟨_, _, rfl, rfl, w.here st2 (rp_int.mpr rfl)⟩
    · rename_i a b
      split at e
      · rename_i hm
        cases e
        obtain ⟨rfl, c1⟩ := rp_str.mp r1
        obtain ⟨rfl, c2⟩ := rp_str.mp r2
        refine .inr (.inl ⟨_, _, rfl, rfl, ?_, w.here st2 (rp_str.mpr ⟨?_, ?_⟩)⟩)
        · show a.toArray.size + b.toArray.size ≤ sizeLine
          simpa using most_le hm
        · show V.str ⟨a.toArray ++ b.toArray⟩ = _
          simp
        · intro c hc
          rcases List.mem_append.mp hc with hc | hc
          · exact c1 c hc
          · exact c2 c hc
      · cases e
    · rename_i a b
      split at e
      · rename_i hm
        cases e
        obtain ⟨p, xs, rfl, k1, l1⟩ := rp_tup.mp (r1.mono g2.sub)
        obtain ⟨q, ys, rfl, k2, l2⟩ := rp_tup.mp r2
        have n1 := l1.length
        have n2 := l2.length
        refine .inr (.inr ⟨p, q, xs, ys, rfl, rfl, by rw [x.hK]; exact Same.tup st2.le k1, by rw [x.hK]; exact Same.tup st2.le k2, by rw [n1, n2]; exact most_le hm, fun e0 => ?_, fun _ e0 => ?_, fun _ _ a' ha => ?_⟩)
        · have : a = [] := List.eq_nil_of_length_eq_zero (by rw [← n1, e0]; rfl)
          subst this
          exact w.here st2 (rp_tup.mpr ⟨q, ys, rfl, k2, l2⟩)
        · have : b = [] := List.eq_nil_of_length_eq_zero (by rw [← n2, e0]; rfl)
          subst this
          rw [List.append_nil] at w
          exact w.here st2 (rp_tup.mpr ⟨p, xs, rfl, k1, l1⟩)
        · exact w.new st2 ha (Rp.newT st2.le ha (l1.append l2))
      · cases e
    · exact absurd ⟨_, _, rfl, rfl⟩ hl
theorem snf_lc (x : XOk B cl k c X W) {vs : List Nat} {t : Tg} {it cd el : E} {elt tg iter : Expr} {ifs : List Expr} {scope : Scope} {pos : Pos} (L : LcOk B cl k c X W vs t it cd el elt tg iter ifs scope) :
    SndF B cl X W (.ListComp elt [⟨tg, iter, ifs, 0⟩] scope pos) (.lc vs t it cd el) := by
  intro r s σ z H Q en st p
  obtain ⟨tt, te, h1, h2, h3, h4, h5⟩ := lc_read x L
  refine WE.of (pe_lc x.calm x.nd piW h4 h3 h1 h2 L.nset) ?_
  have e : (evE cl (.lc vs t it cd el) r s).bind (fun d s => .ok d s) = evE cl (.lc vs t it cd el) r s := by
    cases evE cl (.lc vs t it cd el) r s <;> rfl
  rw [← e] at p
  refine h5 r s σ z H Q D _ _ en st p fun acc s' z1 H1 q z' H' vacc g1 hn hd g' st' hz hH hr hn0 gg p2 => ?_
  exact p2 z' H' gg st' _ ⟨q, vacc, rfl, hH, hz, hd, hr, hn0⟩
/-- a[lo:hi] -/
theorem snf_sl (x : XOk B cl k c X W) {a lo hi : E} {v : Expr} {l h : Option Expr} {pos p2 : Pos} (ha : SndE B cl X W v a) (hl : SndP B cl X W l lo) (hh : SndP B cl X W h hi) : SndF B cl X W (.Subscript v (.Slice l h none p2) pos) (.sl a lo hi) := by
  intro r s σ z H Q en st p
  obtain ⟨tl, pl, wl⟩ := hl
  obtain ⟨th, ph, wh⟩ := hh
  refine WE.of (pe_slice (sl_list.or (sl_tupA.or sl_str)) peW pl ph) ?_
  have p : Po B z H ((evE cl a r s).bind fun x s => (prt cl lo r s).bind fun i s => (prt cl hi r s).bind fun j s => ofO s (slD x i j)) (fun d z' h' => ∀ v, FrV B H z' h' d v → Q v h') (WXs W σ) := p
  refine ha.bind en st p fun d1 s1 v1 z1 H1 g1 st1 r1 p1 => ?_
  refine wl r s1 σ z1 H1 D _ _ _ (en.mono g1.sub) st1 p1 fun i s2 z2 H2 g2 st2 p2 => ?_
  refine wh r s2 σ z2 H2 D _ _ _ ((en.mono g1.sub).mono g2.sub) st2 p2 fun j s3 z3 H3 g3 st3 p3 => ?_
  obtain ⟨d, e, p4⟩ := p3.ofO1
  have r3 := (r1.mono g2.sub).mono g3.sub
  cases d1 with
  | lst l =>
    simp only [slD] at e
    cases e
    obtain ⟨a, vs, rfl, k, hl⟩ := rp_lst.mp r3
    refine .inl ⟨a, vs, rfl, SqL.of (st3.le _ _ k), fun p hp => ?_⟩
    have nd := ne_dp st3 hp
    exact p4 _ _ (Gr.allocO st3.le hp) (st3.allocO hp) _ ⟨p, _, rfl, upd_same, st3.le.free hp, nd, hl.cut i j, g1.free (g2.free (g3.free hp nd) nd) nd⟩
  | tup l =>
    simp only [slD] at e
    cases e
    obtain ⟨a, vs, rfl, k, hl⟩ := rp_tup.mp r3
    have kk : SqT X.K H3 a vs := by rw [x.hK]; exact Same.tup st3.le k
    refine .inr (.inl ⟨a, vs, rfl, kk, fun q => ?_, fun _ p hp => p4 _ _ (Gr.alloc st3.le hp) (st3.alloc hp) _ (Rp.newT st3.le hp (hl.cut i j))⟩)
    have e2 : cut l i j = l := by
      unfold cut
      rw [sIx_eq, sIx_eq, ← hl.length, q.1, q.2, hl.length]
      simp
    rw [e2] at p4
    exact p4.here st3 _ r3
  | str y =>
    simp only [slD] at e
    split at e
    · rename_i hl
      cases e
      obtain ⟨rfl, hc⟩ := rp_str.mp r3
      refine .inr (.inr ⟨_, rfl, ?_, p4.here st3 _ (show Rp B z3 (.str (cut y i j)) _ from rp_str.mpr ⟨?_, ?_⟩)⟩)
      · show y.toArray.size ≤ sizeLine
        simpa using most_le hl
      · unfold cutS cut
        simp [sIx_eq, Str.length]
      · intro c hcc
        unfold cut at hcc
        exact hc c (List.mem_of_mem_drop (List.mem_of_mem_take hcc))
    · cases e
  | _ => simp [slD] at e
end

/-! ### frames -/
/-- an own list of the frame -/
def Own (B : Bas) (z h : Hp) (d : D) (p : Addr) : Prop := match d with
  | .lst l => ∃ vs, h p = some (.lst vs) ∧ RpL B z l vs
  | _ => False
/-- the slots bear a frame; h0: the heap at the def's entry -/
structure FrR (B : Bas) (h0 z h : Hp) (fr : Fr) (σ : L2.St) : Prop where
  len : fr.length = σ.length
  sh : ∀ (i : Nat) (d : D), fr[i]? = some (.sh d) → ∃ v, σ[i]? = some (some v) ∧ Rp B z d v
  ow : ∀ (i : Nat) (d : D), fr[i]? = some (.ow d) → ∃ p, σ[i]? = some (some (.ref p)) ∧ z p = Option.none ∧ some p ≠ B.dp ∧ h0 p = Option.none ∧ Own B z h d p
  inj : ∀ (i j : Nat) (p : Addr) (d e : D), fr[i]? = some (.ow d) → fr[j]? = some (.ow e) → σ[i]? = some (some (.ref p)) → σ[j]? = some (some (.ref p)) → i = j
theorem Own.at_ {B : Bas} {z h : Hp} {d : D} {p : Addr} (o : Own B z h d p) : ∃ u, h p = some u := by
  unfold Own at o
  split at o
  · obtain ⟨vs, e, _⟩ := o
    exact ⟨_, e⟩
  · exact o.elim
theorem Own.mono {B : Bas} {z h z' h' : Hp} {d : D} {p : Addr} (o : Own B z h d p) (s : Same z z') (e : h' p = h p) : Own B z' h' d p := by
  unfold Own at o ⊢
  split at o
  · obtain ⟨vs, e1, e2⟩ := o
    exact ⟨vs, by rw [e]; exact e1, e2.mono s⟩
  · exact o.elim
theorem Own.rp {B : Bas} {z h : Hp} {d : D} {p : Addr} (o : Own B z h d p) (e : z p = h p) : Rp B z d (.ref p) := by
  unfold Own at o
  split at o
  · obtain ⟨vs, e1, e2⟩ := o
    exact rp_lst.mpr ⟨p, vs, rfl, by rw [e]; exact e1, e2⟩
  · exact o.elim
/-- p is an own list of a slot among ts -/
def OwnAt (ts : List Nat) (fr : Fr) (σ : L2.St) (p : Addr) : Prop := ∃ (i : Nat) (d : D), i ∈ ts ∧ fr[i]? = some (.ow d) ∧ σ[i]? = some (some (.ref p))
open Classical in
/-- the frozen heap with the own lists of ts -/
noncomputable def zF (ts : List Nat) (fr : Fr) (σ : L2.St) (z h : Hp) : Hp := fun a => if OwnAt ts fr σ a then h a else z a
theorem zF_in {ts : List Nat} {fr : Fr} {σ : L2.St} {z h : Hp} {a : Addr} (o : OwnAt ts fr σ a) : zF ts fr σ z h a = h a := by
  unfold zF
  rw [if_pos o]
theorem zF_out {ts : List Nat} {fr : Fr} {σ : L2.St} {z h : Hp} {a : Addr} (o : ¬ OwnAt ts fr σ a) : zF ts fr σ z h a = z a := by
  unfold zF
  rw [if_neg o]
section
variable {B : Bas} {h0 z h : Hp} {fr : Fr} {σ : L2.St} {s : Sta} {ts : List Nat}
theorem FrR.own (f : FrR B h0 z h fr σ) {p : Addr} (o : OwnAt ts fr σ p) : z p = Option.none ∧ some p ≠ B.dp ∧ h0 p = Option.none ∧ ∃ u, h p = some u := by
  obtain ⟨i, d, _, e1, e2⟩ := o
  obtain ⟨q, e3, h1, h2, h3, h4⟩ := f.ow i d e1
  rw [e2] at e3
  cases e3
  exact ⟨h1, h2, h3, h4.at_⟩
theorem FrR.sub (f : FrR B h0 z h fr σ) : Same z (zF ts fr σ z h) := fun a o e => by
  rw [zF_out fun q => by rw [(f.own q).1] at e; cases e]
  exact e
theorem FrR.le (f : FrR B h0 z h fr σ) (l : Same z h) : Same (zF ts fr σ z h) h := fun a o e => by
  by_cases q : OwnAt ts fr σ a
  · rwa [zF_in q] at e
  · rw [zF_out q] at e
    exact l a o e
theorem FrR.st (f : FrR B h0 z h fr σ) (t : StR B.dp z h s) : StR B.dp (zF ts fr σ z h) h s :=
  ⟨f.le t.le, fun p e => by rw [zF_out fun q => (f.own q).2.1 e.symm]; exact t.nz p e, t.at_⟩
theorem view_get (ts : List Nat) : ∀ (fr : Fr) (k i : Nat) (d : D), (viewAt ts k fr)[i]? = some (some d) → fr[i]? = some (.sh d) ∨ (fr[i]? = some (.ow d) ∧ (k + i) ∈ ts)
  | [], k, i, d, h => by simp [viewAt, slV] at h
  | .no :: r, k, 0, d, h => by simp [viewAt, slV] at h
  | .sh e :: r, k, 0, d, h => by
    simp [viewAt, slV] at h
    subst h
    exact .inl rfl
  | .ow e :: r, k, 0, d, h => by
    simp only [viewAt, slV] at h
    split at h
    · rename_i hc
      simp at h
      subst h
      exact .inr ⟨rfl, by simpa using hc⟩
    · simp at h
  | .no :: r, k, i + 1, d, h => by
    have := view_get ts r (k + 1) i d (by simpa [viewAt, slV] using h)
    rw [show k + (i + 1) = k + 1 + i by omega]
    simpa using this
  | .sh e :: r, k, i + 1, d, h => by
    have := view_get ts r (k + 1) i d (by simpa [viewAt, slV] using h)
    rw [show k + (i + 1) = k + 1 + i by omega]
    simpa using this
  | .ow e :: r, k, i + 1, d, h => by
    have := view_get ts r (k + 1) i d (by simpa [viewAt, slV] using h)
    rw [show k + (i + 1) = k + 1 + i by omega]
    simpa using this
theorem view_len (ts : List Nat) : ∀ (fr : Fr) (k : Nat), (viewAt ts k fr).length = fr.length
  | [], _ => rfl
  | .no :: r, k => by simp [viewAt, slV, view_len ts r]
  | .sh _ :: r, k => by simp [viewAt, slV, view_len ts r]
  | .ow _ :: r, k => by simp [viewAt, slV, view_len ts r]
theorem FrR.en (f : FrR B h0 z h fr σ) : EnR B (zF ts fr σ z h) (view ts fr) σ where
  len := by unfold view; rw [view_len, f.len]
  at_ := fun i d e => by
    rcases view_get ts fr 0 i d e with e | ⟨e, hi⟩
    · obtain ⟨v, q1, q2⟩ := f.sh i d e
      exact ⟨v, q1, q2.mono f.sub⟩
    · obtain ⟨p, q1, q2, q3, q4, q5⟩ := f.ow i d e
      have o : OwnAt ts fr σ p := ⟨i, d, by simpa using hi, e, q1⟩
      refine ⟨.ref p, q1, ?_⟩
      have : Own B (zF ts fr σ z h) h d p := q5.mono f.sub rfl
      exact this.rp (zF_in o)
theorem freeze_get (ts : List Nat) : ∀ (fr : Fr) (k i : Nat), (freezeAt ts k fr)[i]? = (match fr[i]? with
    | some (.ow d) => if (k + i) ∈ ts then some (.sh d) else some (.ow d)
    | x => x)
  | [], k, i => by simp [freezeAt, slF]
  | x :: r, k, 0 => by
    cases x <;> simp [freezeAt, slF]
    split <;> rfl
  | x :: r, k, i + 1 => by
    have := freeze_get ts r (k + 1) i
    rw [show k + (i + 1) = k + 1 + i by omega]
    cases x <;> simpa [freezeAt, slF] using this
theorem freeze_len (ts : List Nat) : ∀ (fr : Fr) (k : Nat), (freezeAt ts k fr).length = fr.length
  | [], _ => rfl
  | x :: r, k => by cases x <;> simp [freezeAt, slF, freeze_len ts r]
theorem freeze_sh {i : Nat} {d : D} (e : (freeze ts fr)[i]? = some (.sh d)) : fr[i]? = some (.sh d) ∨ (fr[i]? = some (.ow d) ∧ i ∈ ts) := by
  unfold freeze at e
  rw [freeze_get] at e
  split at e
  · rename_i d' q
    split at e
    · rename_i hi
      cases e
      exact .inr ⟨q, by simpa using hi⟩
    · cases e
  · exact .inl e
theorem freeze_ow {i : Nat} {d : D} (e : (freeze ts fr)[i]? = some (.ow d)) : fr[i]? = some (.ow d) ∧ i ∉ ts := by
  unfold freeze at e
  rw [freeze_get] at e
  split at e
  · rename_i d' q
    split at e
    · cases e
    · rename_i hi
      cases e
      exact ⟨q, by simpa using hi⟩
  · rename_i x hx
    exact absurd e (hx d)
variable {z0 z' h' : Hp} {s' : Sta}
/-- behind an expression whose value hangs on no heap: all own lists stay own -/
theorem FrR.keep (f : FrR B h0 z h fr σ) (t : StR B.dp z h s) (G : Gr B.dp z0 h0 z h) (g : Gr B.dp (zF ts fr σ z h) h z' h') (t' : StR B.dp z' h' s') : FrR B h0 z h' fr σ ∧ StR B.dp z h' s' ∧ Gr B.dp z0 h0 z h' := by
  have le : Same z h' := (f.sub.trans g.sub).trans g.le
  refine ⟨⟨f.len, f.sh, fun i d e => ?_, f.inj⟩, ⟨le, t.nz, t'.at_⟩, ⟨G.sub, le, fun a o e n => g.keep a o (G.keep a o e n) n, G.new⟩⟩
  obtain ⟨p, q1, q2, q3, q4, q5⟩ := f.ow i d e
  obtain ⟨u, hu⟩ := q5.at_
  exact ⟨p, q1, q2, q3, q4, q5.mono (Same.refl z) (by rw [g.keep p u hu q3, hu])⟩
/-- behind any expression: the own lists of the slots that it named are shared -/
theorem FrR.frz (f : FrR B h0 z h fr σ) (t : StR B.dp z h s) (G : Gr B.dp z0 h0 z h) (g : Gr B.dp (zF ts fr σ z h) h z' h') : FrR B h0 z' h' (freeze ts fr) σ ∧ Gr B.dp z0 h0 z' h' := by
  have sub := f.sub.trans g.sub
  refine ⟨⟨by unfold freeze; rw [freeze_len, f.len], fun i d e => ?_, fun i d e => ?_, fun i j p d e e1 e2 e3 e4 => ?_⟩, ⟨G.sub.trans sub, g.le, fun a o e n => g.keep a o (G.keep a o e n) n, fun a o e n => ?_⟩⟩
  · rcases freeze_sh e with e | ⟨e, hi⟩
    · obtain ⟨v, q1, q2⟩ := f.sh i d e
      exact ⟨v, q1, q2.mono sub⟩
    · obtain ⟨p, q1, q2, q3, q4, q5⟩ := f.ow i d e
      have o : OwnAt ts fr σ p := ⟨i, d, hi, e, q1⟩
      have : Own B (zF ts fr σ z h) h d p := q5.mono f.sub rfl
      exact ⟨.ref p, q1, (this.rp (zF_in o)).mono g.sub⟩
  · obtain ⟨e, hi⟩ := freeze_ow e
    obtain ⟨p, q1, q2, q3, q4, q5⟩ := f.ow i d e
    obtain ⟨u, hu⟩ := q5.at_
    have no : ¬ OwnAt ts fr σ p := fun ⟨j, d', hj, e1, e2⟩ => by
      have := f.inj i j p d d' e e1 q1 e2
      subst this
      exact hi hj
    exact ⟨p, q1, g.new p u hu (by rw [zF_out no]; exact q2), q3, q4, q5.mono sub (by rw [g.keep p u hu q3, hu])⟩
  · exact f.inj i j p d e (freeze_ow e1).1 (freeze_ow e2).1 e3 e4
  · by_cases ha : some a = B.dp
    · exact g.new a _ (t.at_ a ha.symm) (by rw [zF_out fun q => (f.own q).2.1 ha]; exact t.nz a ha.symm)
    · refine g.new a o (G.keep a o e ha) ?_
      rw [zF_out fun q => by rw [(f.own q).2.2.1] at e; cases e]
      exact G.new a o e n
/-- a slot is stored: a shared value -/
theorem FrR.set (f : FrR B h0 z h fr σ) {i : Nat} {d : D} {v : V} (r : Rp B z d v) : FrR B h0 z h (fr.set i (.sh d)) (σ.set i (some v)) where
  len := by simp [f.len]
  sh := fun j d' e => by
    rw [List.getElem?_set] at e ⊢
    split at e
    · rename_i hij
      subst hij
      split at e
      · rename_i hl
        cases e
        rw [if_pos rfl, if_pos (by rw [← f.len]; exact hl)]
        exact ⟨v, rfl, r⟩
      · cases e
    · rename_i hij
      rw [if_neg hij]
      exact f.sh j d' e
  ow := fun j d' e => by
    rw [List.getElem?_set] at e ⊢
    split at e
    · split at e <;> cases e
    · rename_i hij
      rw [if_neg hij]
      exact f.ow j d' e
  inj := fun j k p d1 d2 e1 e2 e3 e4 => by
    rw [List.getElem?_set] at e1 e2 e3 e4
    split at e1
    · split at e1 <;> cases e1
    · split at e2
      · split at e2 <;> cases e2
      · rename_i n1 n2
        rw [if_neg n1] at e3
        rw [if_neg n2] at e4
        exact f.inj j k p d1 d2 e1 e2 e3 e4
/-- a slot is stored: a new list -/
theorem FrR.setO (f : FrR B h0 z h fr σ) {i : Nat} {d : D} {p : Addr} (q1 : z p = Option.none) (q2 : some p ≠ B.dp) (q3 : h0 p = Option.none) (o : Own B z h d p) (new : ∀ (j : Nat) (e : D), j ≠ i → fr[j]? = some (.ow e) → σ[j]? ≠ some (some (.ref p))) : FrR B h0 z h (fr.set i (.ow d)) (σ.set i (some (.ref p))) where
  len := by simp [f.len]
  sh := fun j d' e => by
    rw [List.getElem?_set] at e ⊢
    split at e
    · split at e <;> cases e
    · rename_i hij
      rw [if_neg hij]
      exact f.sh j d' e
  ow := fun j d' e => by
    rw [List.getElem?_set] at e ⊢
    split at e
    · rename_i hij
      subst hij
      split at e
      · rename_i hl
        cases e
        rw [if_pos rfl, if_pos (by rw [← f.len]; exact hl)]
        exact ⟨p, rfl, q1, q2, q3, o⟩
      · cases e
    · rename_i hij
      rw [if_neg hij]
      exact f.ow j d' e
  inj := fun j k q d1 d2 e1 e2 e3 e4 => by
    rw [List.getElem?_set] at e1 e2 e3 e4
    by_cases h1 : i = j
    · by_cases h2 : i = k
      · rw [← h1, ← h2]
      · rw [if_neg h2] at e2 e4
        rw [if_pos h1] at e3
        split at e3
        · cases e3
          exact absurd e4 (new k d2 (fun x => h2 x.symm) e2)
        · cases e3
    · rw [if_neg h1] at e1 e3
      by_cases h2 : i = k
      · rw [if_pos h2] at e4
        split at e4
        · cases e4
          exact absurd e3 (new j d1 (fun x => h1 x.symm) e1)
        · cases e4
      · rw [if_neg h2] at e2 e4
        exact f.inj j k q d1 d2 e1 e2 e3 e4
end
end Wk
/-! Wk, soundness 12: the check of statements; the statements, one by one. -/
namespace Wk
open PySem PySem.Spec PyProof.Rows L2
/-! ### the check -/
def isComp : Expr → Bool
  | .ListComp _ _ _ _ => true
  | .SetComp _ _ _ _ => true
  | .DictComp _ _ _ _ _ => true
  | _ => false
def isTupE : Expr → Bool
  | .Tuple _ _ _ => true
  | _ => false
def isFr : E → Bool
  | .lst _ => true
  | .lc _ _ _ _ _ => true
  | .bin .add _ _ => true
  | .sl _ _ _ => true
  | _ => false
def isLcE : E → Bool
  | .lc _ _ _ _ _ => true
  | _ => false
def kAsg (own : Bool) (i : Nat) (ir : E) (c : Cfg) : Stmt → Bool
  | .Assign [.Name x _] e _ => slotB c i x && locB c x && chE ir c e && (if own then isFr ir else !isComp e)
  | _ => false
def kAsgT (t : Tg) (a : Expr → Bool) (c : Cfg) : Stmt → Bool
  | .Assign [.Tuple es k p] e _ => chT c t (.Tuple es k p) && a e && !isComp e && !isTupE e
  | _ => false
def kPar (i j : Nat) (o1 o2 : Bool) (a b : E) (c : Cfg) : Stmt → Bool
  | .Assign [.Tuple [.Name x px, .Name y py] _ _] (.Tuple [e, f] _ _) _ => slotB c i x && slotB c j y && lkB c x .local && lkB c y .local && !decide (i = j) && !decide (x = y) && (py.line == px.line) &&
      !([e, f].all (foldedForSure 8)) && !([e, f].all (constantsAlone 8)) && chE a c e && chE b c f && (!o1 || (isFr a && !isLcE a)) && (!o2 || (isFr b && !isLcE b))
  | _ => false
def kExp (a : Expr → Bool) : Stmt → Bool
  | .Expr e _ => a e && !isComp e
  | _ => false
def kRet (a : Expr → Bool) : Stmt → Bool
  | .Return (some e) _ => a e
  | _ => false
def kRet0 : Stmt → Bool
  | .Return none _ => true
  | _ => false
def kIf (t : Expr → Bool) (a b : List Stmt → Bool) : Stmt → Bool
  | .If e x y _ => t e && a x && b y
  | _ => false
def kFor (t : Tg) (c : Cfg) (it : Expr → Bool) (b : List Stmt → Bool) : Stmt → Bool
  | .For tg iter x [] _ => chT c t tg && it iter && b x
  | _ => false
def kWhl (t : Expr → Bool) (b : List Stmt → Bool) : Stmt → Bool
  | .While e x [] _ => t e && b x
  | _ => false
def kRse (n : Nat) (c : Cfg) : Stmt → Bool
  | .Raise (some (.Call (.Name x _) [.Constant (.str _) _ _] [] _)) none _ => glB c x && decide (c.xs.lookup n = some x)
  | _ => false
def kApp (i : Nat) (c : Cfg) (a : Expr → Bool) : Stmt → Bool
  | .Expr (.Call (.Attribute (.Name x _) m apos) [e] [] cpos) _ => decide (m = ("append" : Str)) && slotB c i x && visB c x && a e && (apos.endLine == cpos.line)
  | _ => false
def kSet (i : Nat) (c : Cfg) (a b : Expr → Bool) : Stmt → Bool
  | .Assign [.Subscript (.Name x _) ix _] e _ => slotB c i x && visB c x && a ix && b e && !isComp e
  | _ => false
def kPass : Stmt → Bool
  | .Pass _ => true
  | _ => false
def kBrk : Stmt → Bool
  | .Break _ => true
  | _ => false
def kCont : Stmt → Bool
  | .Continue _ => true
  | _ => false
mutual
def chS : S → Cfg → Stmt → Bool
  | .nop => fun _ e => kPass e
  | .seq _ _ => fun _ _ => false
  | .asg _ own i e => fun c st => kAsg own i e c st
  | .asgT _ t e => fun c st => kAsgT t (chE e c) c st
  | .par _ i j o1 o2 a b => fun c st => kPar i j o1 o2 a b c st
  | .exp _ e => fun c st => kExp (chE e c) st
  | .ret _ e => fun c st => kRet (chE e c) st
  | .ret0 => fun _ st => kRet0 st
  | .ite _ t a b => fun c st => kIf (chE t c) (chSs a c) (chSs b c) st
  | .for _ t it b => fun c st => kFor t c (chI it c) (chSs b c) st
  | .whl _ t b => fun c st => kWhl (chE t c) (chSs b c) st
  | .rse n => fun c st => kRse n c st
  | .rseF _ _ _ => fun _ _ => false
  | .app _ i e => fun c st => kApp i c (chE e c) st
  | .setIx _ i k v => fun c st => kSet i c (chE k c) (chE v c) st
  | .brk => fun _ st => kBrk st
  | .cont => fun _ st => kCont st
def chSs : S → Cfg → List Stmt → Bool
  | .nop => fun _ sts => sts.isEmpty
  | .seq a b => fun c sts => (match sts with
    | st :: r => chS a c st && chSs b c r
    | [] => false)
  | _ => fun _ _ => false
end

/-! ### what is wanted behind a statement -/
def PoS (B : Bas) (z0 h0 : Hp) (r : Res Fl) (Dn : Ends) (W : WX) : Prop := match r with
  | .ok fl s => (match fl with
    | .nx fr => ∀ σ z h, FrR B h0 z h fr σ → StR B.dp z h s → Gr B.dp z0 h0 z h → Dn.nx σ h
    | .rt d => ∀ v z h, StR B.dp z h s → Gr B.dp z0 h0 z h → Rp B z d v → Dn.rt v h
    | .bk fr => ∀ σ z h, FrR B h0 z h fr σ → StR B.dp z h s → Gr B.dp z0 h0 z h → Dn.bk σ h
    | .ct fr => ∀ σ z h, FrR B h0 z h fr σ → StR B.dp z h s → Gr B.dp z0 h0 z h → Dn.ct σ h)
  | .exc x s => ∀ σ z h, StR B.dp z h s → Gr B.dp z0 h0 z h → ∀ cls dd, ExR B x z h cls dd → W cls dd σ h
  | .bad => False
def SndS (B : Bas) (cl : CallT) (X : Cx) (W : WX) (st : Stmt) (ir : S) : Prop :=
  ∀ (fr : Fr) (s : Sta) (σ : L2.St) (z0 h0 z h : Hp) (Dn : Ends), FrR B h0 z h fr σ → StR B.dp z h s → Gr B.dp z0 h0 z h → PoS B z0 h0 (xec cl ir fr s) Dn W → WS X st Dn σ h
def SndSs (B : Bas) (cl : CallT) (X : Cx) (W : WX) (sts : List Stmt) (ir : S) : Prop :=
  ∀ (fr : Fr) (s : Sta) (σ : L2.St) (z0 h0 z h : Hp) (Dn : Ends), FrR B h0 z h fr σ → StR B.dp z h s → Gr B.dp z0 h0 z h → PoS B z0 h0 (xec cl ir fr s) Dn W → WSs X sts Dn σ h
/-- the bind of a statement's run -/
theorem PoS.bind {B : Bas} {z0 h0 : Hp} {A : Type} {m : Res A} {f : A → Sta → Res Fl} {Dn : Ends} {W : WX} (p : PoS B z0 h0 (m.bind f) Dn W) :
    (∃ a s, m = .ok a s ∧ PoS B z0 h0 (f a s) Dn W) ∨ (∃ x s, m = .exc x s ∧ PoS B z0 h0 (.exc x s) Dn W) := by
  cases m with
  | ok a s => exact .inl ⟨a, s, rfl, p⟩
  | exc x s => exact .inr ⟨x, s, rfl, p⟩
  | bad => exact p.elim
theorem PoS.ofO {B : Bas} {z0 h0 : Hp} {A : Type} {o : Option A} {s : Sta} {f : A → Sta → Res Fl} {Dn : Ends} {W : WX} (p : PoS B z0 h0 ((Wk.ofO s o).bind f) Dn W) : ∃ a, o = some a ∧ PoS B z0 h0 (f a s) Dn W := by
  cases o with
  | none => exact p.elim
  | some a => exact ⟨a, rfl, p⟩
section
variable {B : Bas} {cl : CallT} {k : Nat} {c : Cfg} {X : Cx} {W : WX} {fr : Fr} {s : Sta} {σ : L2.St} {z0 h0 z h : Hp} {ts : List Nat}
/-- an expression of a statement, run over the frame -/
theorem run_e {e : Expr} {ir : E} {Q : VK} (he : SndE B cl X W e ir) (f : FrR B h0 z h fr σ) (t : StR B.dp z h s) (G : Gr B.dp z0 h0 z h) (hx : ∀ x s', evE cl ir (view ts fr) s = .exc x s' → ∀ σ z h, StR B.dp z h s' → Gr B.dp z0 h0 z h → ∀ cls dd, ExR B x z h cls dd → W cls dd σ h) (hb : evE cl ir (view ts fr) s ≠ .bad)
    (q : ∀ d s' v z' h', evE cl ir (view ts fr) s = .ok d s' → Gr B.dp (zF ts fr σ z h) h z' h' → StR B.dp z' h' s' → Rp B z' d v → Q v h') : WE X e σ h Q := by
  refine he (view ts fr) s σ _ h Q f.en (f.st t) ?_
  cases e1 : evE cl ir (view ts fr) s with
  | ok d s' => exact fun z' h' g t' v r => q d s' v z' h' e1 g t' r
  | exc x s' => exact fun z' h' g t' cls dd ex => hx x s' e1 σ z' h' t' (f.frz t G g).2 cls dd ex
  | bad => exact absurd e1 hb
theorem run_f {e : Expr} {ir : E} {Q : VK} (he : SndF B cl X W e ir) (f : FrR B h0 z h fr σ) (t : StR B.dp z h s) (G : Gr B.dp z0 h0 z h) (hx : ∀ x s', evE cl ir (view ts fr) s = .exc x s' → ∀ σ z h, StR B.dp z h s' → Gr B.dp z0 h0 z h → ∀ cls dd, ExR B x z h cls dd → W cls dd σ h) (hb : evE cl ir (view ts fr) s ≠ .bad)
    (q : ∀ d s' v z' h', evE cl ir (view ts fr) s = .ok d s' → Gr B.dp (zF ts fr σ z h) h z' h' → StR B.dp z' h' s' → FrV B h z' h' d v → Q v h') : WE X e σ h Q := by
  refine he (view ts fr) s σ _ h Q f.en (f.st t) ?_
  cases e1 : evE cl ir (view ts fr) s with
  | ok d s' => exact fun z' h' g t' v r => q d s' v z' h' e1 g t' r
  | exc x s' => exact fun z' h' g t' cls dd ex => hx x s' e1 σ z' h' t' (f.frz t G g).2 cls dd ex
  | bad => exact absurd e1 hb
theorem run_t {e : Expr} {ir : E} {Q : Bool → Hp → Prop} (he : SndT B cl X W e ir) (f : FrR B h0 z h fr σ) (t : StR B.dp z h s) (G : Gr B.dp z0 h0 z h)
    (hx : ∀ x s', ((evE cl ir (view ts fr) s).bind fun x s => ofO s (blD x)) = .exc x s' → ∀ σ z h, StR B.dp z h s' → Gr B.dp z0 h0 z h → ∀ cls dd, ExR B x z h cls dd → W cls dd σ h) (hb : ((evE cl ir (view ts fr) s).bind fun x s => ofO s (blD x)) ≠ .bad)
    (q : ∀ b s' h', ((evE cl ir (view ts fr) s).bind fun x s => ofO s (blD x)) = .ok b s' → FrR B h0 z h' fr σ → StR B.dp z h' s' → Gr B.dp z0 h0 z h' → Q b h') : WT X e σ h Q := by
  refine he (view ts fr) s σ _ h Q f.en (f.st t) ?_
  cases e1 : ((evE cl ir (view ts fr) s).bind fun x s => ofO s (blD x)) with
  | ok d s' =>
    intro z' h' g t'
    obtain ⟨f1, f2, f3⟩ := f.keep t G g t'
    exact q d s' h' e1 f1 f2 f3
  | exc x s' => exact fun z' h' g t' cls dd ex => hx x s' e1 σ z' h' t' (f.frz t G g).2 cls dd ex
  | bad => exact absurd e1 hb
/-- behind an expression: the frame as afterE tells -/
theorem FrR.after {z' h' : Hp} {s' : Sta} {d : D} {v : V} (f : FrR B h0 z h fr σ) (t : StR B.dp z h s) (G : Gr B.dp z0 h0 z h) (g : Gr B.dp (zF ts fr σ z h) h z' h') (t' : StR B.dp z' h' s') (r : Rp B z' d v) :
    ∃ z2, FrR B h0 z2 h' (afterE ts fr d) σ ∧ StR B.dp z2 h' s' ∧ Gr B.dp z0 h0 z2 h' ∧ Rp B z2 d v := by
  unfold afterE
  split
  · rename_i hs
    obtain ⟨f1, f2, f3⟩ := f.keep t G g t'
    exact ⟨z, f1, f2, f3, r.scal hs⟩
  · obtain ⟨f1, f2⟩ := f.frz t G g
    exact ⟨z', f1, t', f2, r⟩
theorem frz_at {i : Nat} {d : D} (hi : (freeze ts fr)[i]? = some (.ow d)) : fr[i]? = some (.ow d) := (freeze_ow hi).1

/-! ### the statements -/
theorem sns_nop {pos : Pos} : SndS B cl X W (.Pass pos) .nop := by
  intro fr s σ z0 h0 z h Dn f t G p
  exact WS.of ps_pass (p σ z h f t G)
theorem snss_nil : SndSs B cl X W [] .nop := by
  intro fr s σ z0 h0 z h Dn f t G p
  exact WSs.of pss_nil (p σ z h f t G)
theorem snss_cons {st : Stmt} {r : List Stmt} {a b : S} (ha : SndS B cl X W st a) (hb : SndSs B cl X W r b) : SndSs B cl X W (st :: r) (.seq a b) := by
  intro fr s σ z0 h0 z h Dn f t G p
  refine WSs.of (pss_cons psW pssW) ?_
  have p : PoS B z0 h0 ((xec cl a fr s).bind fun fl s => match fl with
    | .nx r' => xec cl b r' s
    | x => .ok x s) Dn W := p
  refine ha fr s σ z0 h0 z h _ f t G ?_
  rcases p.bind with ⟨fl, s1, e1, p1⟩ | ⟨x, s1, e1, p1⟩
  · rw [e1]
    cases fl with
    | nx r' => exact fun σ' z' h' f' t' G' => hb r' s1 σ' z0 h0 z' h' Dn f' t' G' p1
    | rt d => exact p1
    | bk r' => exact p1
    | ct r' => exact p1
  · rw [e1]
    exact p1
theorem swaps_no {e : Expr} {tg : Option Expr} {l : Nat} {env : PySem.Env} (h : isComp e = false) : swapsWith e tg l env = pure false := by
  cases e <;> first | rfl | (cases h; done)
theorem sns_exp {e : Expr} {ir : E} {pos : Pos} (hc : isComp e = false) (he : SndE B cl X W e ir) : SndS B cl X W (.Expr e pos) (.exp ts ir) := by
  intro fr s σ z0 h0 z h Dn f t G p
  refine WS.of (ps_expr peW (swaps_no hc)) ?_
  have p : PoS B z0 h0 ((evE cl ir (view ts fr) s).bind fun d s => .ok (.nx (afterE ts fr d)) s) Dn W := p
  refine run_e (ts := ts) he f t G (fun x s' e1 => ?_) (fun e1 => ?_) fun d s' v z' h' e1 g t' r => ?_
  · rw [e1] at p
    exact p
  · rw [e1] at p
    exact p
  · rw [e1] at p
    obtain ⟨z2, f2, t2, G2, _⟩ := f.after t G g t' r
    exact p σ z2 h' f2 t2 G2
theorem sns_ret {e : Expr} {ir : E} {pos : Pos} (he : SndE B cl X W e ir) : SndS B cl X W (.Return (some e) pos) (.ret ts ir) := by
  intro fr s σ z0 h0 z h Dn f t G p
  refine WS.of (ps_ret peW) ?_
  have p : PoS B z0 h0 ((evE cl ir (view ts fr) s).bind fun d s => .ok (.rt d) s) Dn W := p
  refine run_e (ts := ts) he f t G (fun x s' e1 => ?_) (fun e1 => ?_) fun d s' v z' h' e1 g t' r => ?_
  · rw [e1] at p
    exact p
  · rw [e1] at p
    exact p
  · rw [e1] at p
    exact p v z' h' t' (f.frz t G g).2 r
theorem sns_ret0 {pos : Pos} : SndS B cl X W (.Return Option.none pos) .ret0 := by
  intro fr s σ z0 h0 z h Dn f t G p
  exact WS.of ps_retN ((show PoS B z0 h0 (.ok (.rt .non) s) Dn W from p) .non z h t G (rp_non.mpr rfl))
theorem sns_brk {pos : Pos} : SndS B cl X W (.Break pos) .brk := by
  intro fr s σ z0 h0 z h Dn f t G p
  exact WS.of ps_break ((show PoS B z0 h0 (.ok (.bk fr) s) Dn W from p) σ z h f t G)
theorem sns_cont {pos : Pos} : SndS B cl X W (.Continue pos) .cont := by
  intro fr s σ z0 h0 z h Dn f t G p
  exact WS.of ps_continue ((show PoS B z0 h0 (.ok (.ct fr) s) Dn W from p) σ z h f t G)
theorem sns_ite {e : Expr} {ir : E} {a b : S} {x y : List Stmt} {pos : Pos} (he : SndT B cl X W e ir) (ha : SndSs B cl X W x a) (hb : SndSs B cl X W y b) : SndS B cl X W (.If e x y pos) (.ite ts ir a b) := by
  intro fr s σ z0 h0 z h Dn f t G p
  refine WS.of (ps_if ptW pssW pssW) ?_
  have p : PoS B z0 h0 ((evE cl ir (view ts fr) s).bind fun x s => (ofO s (blD x)).bind fun k s => if k then xec cl a fr s else xec cl b fr s) Dn W := p
  rw [Res.assocB] at p
  refine run_t (ts := ts) he f t G (fun x s' e1 => ?_) (fun e1 => ?_) fun q s' h' e1 f1 t1 G1 => ?_
  · rw [e1] at p
    exact p
  · rw [e1] at p
    exact p
  · rw [e1] at p
    cases q with
    | true => exact ha fr s' σ z0 h0 z h' Dn f1 t1 G1 p
    | false => exact hb fr s' σ z0 h0 z h' Dn f1 t1 G1 p
/-- a value stored to a name -/
theorem sns_asg (x : XOk B cl k c X W) {n : Str} {i : Nat} {e : Expr} {ir : E} {p1 pos : Pos} (hi : slotB c i n = true) (hl : locB c n = true) (hc : isComp e = false) (he : SndE B cl X W e ir) : SndS B cl X W (.Assign [.Name n p1] e pos) (.asg ts false i ir) := by
  intro fr s σ z0 h0 z h Dn f t G p
  obtain ⟨l1, l2⟩ := x.loc hl
  refine WS.of (ps_set x.nd (x.slot hi) l1 peW (swaps_no hc) l2) ?_
  have p : PoS B z0 h0 ((evE cl ir (view ts fr) s).bind fun d s => .ok (.nx ((afterE ts fr d).set i (.sh d))) s) Dn W := p
  refine run_e (ts := ts) he f t G (fun x s' e1 => ?_) (fun e1 => ?_) fun d s' v z' h' e1 g t' r => ?_
  · rw [e1] at p
    exact p
  · rw [e1] at p
    exact p
  · rw [e1] at p
    obtain ⟨z2, f2, t2, G2, r2⟩ := f.after t G g t' r
    exact p _ z2 h' (f2.set r2) t2 G2
/-- behind a new value: the slot takes it -/
theorem FrR.fresh {z' h' : Hp} {s' : Sta} {d : D} {v : V} {i : Nat} (f : FrR B h0 z h fr σ) (t : StR B.dp z h s) (G : Gr B.dp z0 h0 z h) (g : Gr B.dp (zF ts fr σ z h) h z' h') (t' : StR B.dp z' h' s') (r : FrV B h z' h' d v) :
    ∃ z2, FrR B h0 z2 h' ((afterE ts fr d).set i (slotOf true d)) (σ.set i (some v)) ∧ StR B.dp z2 h' s' ∧ Gr B.dp z0 h0 z2 h' := by
  by_cases hl : ∃ l, d = .lst l
  · obtain ⟨l, rfl⟩ := hl
    obtain ⟨p, vs, rfl, q1, q2, q3, q4, q5⟩ := r
    obtain ⟨f1, f2⟩ := f.frz t G g
    refine ⟨z', ?_, t', f2⟩
    show FrR B h0 z' h' ((freeze ts fr).set i (.ow (.lst l))) _
    refine f1.setO q2 q3 (G.free q5 q3) ⟨vs, q1, q4⟩ fun j e hj e1 e2 => ?_
    obtain ⟨p', e3, _, _, _, o⟩ := f.ow j e (freeze_ow e1).1
    rw [e2] at e3
    cases e3
    obtain ⟨u, hu⟩ := o.at_
    rw [q5] at hu
    cases hu
  · have r' : Rp B z' d v := by
      unfold FrV at r
      split at r
      · exact absurd ⟨_, rfl⟩ hl
      · exact r
    have e : slotOf true d = .sh d := by
      unfold slotOf
      cases d <;> first | rfl | exact absurd ⟨_, rfl⟩ hl | skip
      unfold Rp at r'
      exact r'.elim
    rw [e]
    obtain ⟨z2, f2, t2, G2, r2⟩ := f.after t G g t' r'
    exact ⟨z2, f2.set r2, t2, G2⟩
theorem sns_asgF (x : XOk B cl k c X W) {n : Str} {i : Nat} {e : Expr} {ir : E} {p1 pos : Pos} (hi : slotB c i n = true) (hl : locB c n = true) (hs : swapsWith e (some (.Name n p1)) pos.line X.env = pure false) (he : SndF B cl X W e ir) : SndS B cl X W (.Assign [.Name n p1] e pos) (.asg ts true i ir) := by
  intro fr s σ z0 h0 z h Dn f t G p
  obtain ⟨l1, l2⟩ := x.loc hl
  refine WS.of (ps_set x.nd (x.slot hi) l1 peW hs l2) ?_
  have p : PoS B z0 h0 ((evE cl ir (view ts fr) s).bind fun d s => .ok (.nx ((afterE ts fr d).set i (slotOf true d))) s) Dn W := p
  refine run_f (ts := ts) he f t G (fun x s' e1 => ?_) (fun e1 => ?_) fun d s' v z' h' e1 g t' r => ?_
  · rw [e1] at p
    exact p
  · rw [e1] at p
    exact p
  · rw [e1] at p
    obtain ⟨z2, f2, t2, G2⟩ := f.fresh (i := i) t G g t' r
    exact p _ z2 h' f2 t2 G2
theorem sw_eq {elt : Expr} {gs : List Comprehension} {scope : Scope} {pos py : Pos} {y : Str} {l : Nat} {env : PySem.Env} : swapsWith (.ListComp elt gs scope pos) (some (.Name y py)) l env =
    pure (env.blockKind == .function && env.kindOf y == some .local && py.line == pos.line && !(scope.names.any fun (n, k) => n == y && (k == .local || k == .cell))) := rfl
/-- name = [..] -/
theorem sns_asgLc (x : XOk B cl k c X W) {n : Str} {i : Nat} {vs : List Nat} {t' : Tg} {it cd el : E} {elt tg iter : Expr} {ifs : List Expr} {scope : Scope} {p1 pos cpos : Pos} (hi : slotB c i n = true) (hl : locB c n = true)
    (L : LcOk B cl k c X W vs t' it cd el elt tg iter ifs scope) : SndS B cl X W (.Assign [.Name n p1] (.ListComp elt [⟨tg, iter, ifs, 0⟩] scope cpos) pos) (.asg ts true i (.lc vs t' it cd el)) := by
  by_cases hb : (X.env.blockKind == .function && X.env.kindOf n == some .local && p1.line == cpos.line && !(scope.names.any fun (m, k) => m == n && (k == .local || k == .cell))) = true
  · intro fr s σ z0 h0 z h Dn f t G p
    have hsw : swapsWith (.ListComp elt [⟨tg, iter, ifs, 0⟩] scope cpos) (some (.Name n p1)) pos.line X.env = pure true := by rw [sw_eq, hb]
    have hloc : X.env.scope.names.lookup n = some .local := by
      simp only [Bool.and_eq_true] at hb
      exact eq_of_beq hb.1.1.2
    obtain ⟨tt, te, h1, h2, h3, h4, h5⟩ := lc_read x L
    refine WS.of (ps_setLc x.calm x.nd (x.slot hi) hloc hsw piW h4 h3 h1 h2 L.nset) ?_
    have p : PoS B z0 h0 ((evE cl (.lc vs t' it cd el) (view ts fr) s).bind fun d s => .ok (.nx ((afterE ts fr d).set i (slotOf true d))) s) Dn W := p
    have key : Po B (zF ts fr σ z h) h ((evE cl (.lc vs t' it cd el) (view ts fr) s).bind fun d s => .ok d s) (fun d z' h' => ∀ v, FrV B h z' h' d v → Dn.nx (σ.set i (some v)) h') (WXs W σ) := by
      rcases p.bind with ⟨d, s1, e1, p1⟩ | ⟨y, s1, e1, p1⟩
      · rw [e1]
        intro z' h' g t' v r
        obtain ⟨z2, f2, t2, G2⟩ := f.fresh (i := i) t G g t' r
        exact p1 _ z2 h' f2 t2 G2
      · rw [e1]
        intro z' h' g t' cls dd ex
        exact p1 σ z' h' t' (f.frz t G g).2 cls dd ex
    exact h5 (view ts fr) s σ _ h _ D _ _ f.en (f.st t) key fun acc s' z1 H1 q z' H' vacc g1 hn hd g' st' hz hH hr hn0 gg p2 => p2 z' H' gg st' _ ⟨q, vacc, rfl, hH, hz, hd, hr, hn0⟩
  · refine sns_asgF x hi hl ?_ (snf_lc x L)
    rw [sw_eq, Bool.eq_false_iff.mpr hb]
end
end Wk
/-! Wk, soundness 13: unpacking, loops, raise, append, stores to a place; all statements. -/
namespace Wk
open PySem PySem.Spec PyProof.Rows L2
mutual
theorem gOf_okF {B : Bas} {K : PySem.W.Frag} (hK : K = B.K) {h0 z H : Hp} (le : Same z H) : ∀ {t : Tg} {d : D} {r r' : Fr} {σ : L2.St} {v : V} {Q : L2.St → Hp → Prop}, bindF t d r = some r' → Rp B z d v → FrR B h0 z H r σ →
    (∀ σ', FrR B h0 z H r' σ' → Q σ' H) → gOf K t v σ H Q
  | .nm i, d, r, r', σ, v, Q, e, h, en, q => by
    simp only [bindF] at e
    cases e
    simp only [gOf]
    exact q _ (en.set h)
  | .tp t, d, r, r', σ, v, Q, e, h, en, q => by
    cases d <;> simp only [bindF] at e <;> try (cases e; done)
    obtain ⟨a, vs, rfl, k1, hl⟩ := rp_tup.mp h
    simp only [gOf]
    obtain ⟨e1, e2⟩ := gsOf_okF hK le e hl en q
    exact ⟨a, vs, rfl, by rw [hK]; exact Same.tup le k1, e1, e2⟩
  | .nil, d, r, r', σ, v, Q, e, h, en, q => by simp [bindF] at e
  | .cons _ _, d, r, r', σ, v, Q, e, h, en, q => by simp [bindF] at e
theorem gsOf_okF {B : Bas} {K : PySem.W.Frag} (hK : K = B.K) {h0 z H : Hp} (le : Same z H) : ∀ {t : Tg} {l : List D} {r r' : Fr} {σ : L2.St} {vs : List V} {Q : L2.St → Hp → Prop}, bindFs t l r = some r' → RpL B z l vs → FrR B h0 z H r σ →
    (∀ σ', FrR B h0 z H r' σ' → Q σ' H) → vs.length = lenT t ∧ gsOf K t vs σ H Q
  | .nil, l, r, r', σ, vs, Q, e, h, en, q => by
    cases l with
    | nil =>
      simp only [bindFs] at e
      cases e
      unfold RpL at h
      subst h
      exact ⟨rfl, rfl, q σ en⟩
    | cons => simp [bindFs] at e
  | .cons a b, l, r, r', σ, vs, Q, e, h, en, q => by
    cases l with
    | nil => simp [bindFs] at e
    | cons d l =>
      simp only [bindFs] at e
      unfold RpL at h
      obtain ⟨v, ws, rfl, h1, h2⟩ := h
      cases q1 : bindF a d r with
      | none => rw [q1] at e; cases e
      | some r1 =>
        rw [q1] at e
        have e : bindFs b l r1 = some r' := e
        have len : ws.length = lenT b := by
          rw [h2.length, bindFs_len e]
        refine ⟨by simp [lenT, len], v, ws, rfl, ?_⟩
        refine gOf_okF hK le q1 h1 en fun σ1 en1 => ?_
        exact (gsOf_okF hK le e h2 en1 q).2
  | .nm _, l, r, r', σ, vs, Q, e, h, en, q => by simp [bindFs] at e
  | .tp _, l, r, r', σ, vs, Q, e, h, en, q => by simp [bindFs] at e
theorem bindFs_len : ∀ {t : Tg} {l : List D} {r r' : Fr}, bindFs t l r = some r' → l.length = lenT t
  | .nil, l, r, r', e => by
    cases l with
    | nil => rfl
    | cons => simp [bindFs] at e
  | .cons a b, l, r, r', e => by
    cases l with
    | nil => simp [bindFs] at e
    | cons d l =>
      simp only [bindFs] at e
      cases q1 : bindF a d r with
      | none => rw [q1] at e; cases e
      | some r1 =>
        rw [q1] at e
        have e : bindFs b l r1 = some r' := e
        simp [lenT, bindFs_len e]
  | .nm _, l, r, r', e => by simp [bindFs] at e
  | .tp _, l, r, r', e => by simp [bindFs] at e
end
section
variable {B : Bas} {cl : CallT} {k : Nat} {c : Cfg} {X : Cx} {W : WX} {ts : List Nat}
theorem Gr.rebase {dp : Option Addr} {z0 h0 z1 z h : Hp} (g : Gr dp z0 h0 z h) (a : Same z0 z1) (b : Same z1 z) : Gr dp z1 h0 z h :=
  ⟨b, g.le, g.keep, fun p o e n => g.new p o e (a.free n)⟩
theorem Gr.debase {dp : Option Addr} {z0 h0 z1 h1 z h : Hp} (g : Gr dp z0 h0 z1 h1) (b : Gr dp z1 h0 z h) : Gr dp z0 h0 z h :=
  ⟨g.sub.trans b.sub, b.le, b.keep, fun p o e n => b.new p o e (g.new p o e n)⟩
theorem sns_asgT (x : XOk B cl k c X W) {tgt : Tg} {es : List Expr} {j : Nat} {p1 pos : Pos} {e : Expr} {ir : E} (ht : chT c tgt (.Tuple es j p1) = true) (hc : isComp e = false) (hn : isTupE e = false) (he : SndE B cl X W e ir) :
    SndS B cl X W (.Assign [.Tuple es j p1] e pos) (.asgT ts tgt ir) := by
  intro fr s σ z0 h0 z h Dn f t G p
  have hw : swappedStores [.Tuple es j p1] e X.env = pure Option.none := by
    cases e <;> first | rfl | (cases hn; done)
  have h1 : (assignEach [.Tuple es j p1] X.env).map (·.2) = [assign (.Tuple es j p1) X.env] := by rw [assignEach_plain ht]; rfl
  have hs : swapsWithSole [.Tuple es j p1] e pos.line X.env = pure false := by
    show swapsWith e (some (.Tuple es j p1)) pos.line X.env = pure false
    exact swaps_no hc
  refine WS.of (ps_asg (te := WE X e) peW (pg_of x ht) hs hw h1) ?_
  have p : PoS B z0 h0 ((evE cl ir (view ts fr) s).bind fun d s => (ofO s (bindF tgt d (afterE ts fr d))).bind fun r' s => .ok (.nx r') s) Dn W := p
  refine run_e (ts := ts) he f t G (fun x s' e1 => ?_) (fun e1 => ?_) fun d s' v z' h' e1 g t' r => ?_
  · rw [e1] at p
    exact p
  · rw [e1] at p
    exact p
  · rw [e1] at p
    obtain ⟨r', e2, p2⟩ := (show PoS B z0 h0 ((ofO s' (bindF tgt d (afterE ts fr d))).bind fun r' s => .ok (.nx r') s) Dn W from p).ofO
    obtain ⟨z2, f2, t2, G2, r2⟩ := f.after t G g t' r
    exact gOf_okF x.hK t2.le e2 r2 f2 fun σ' f3 => p2 σ' z2 h' f3 t2 G2
theorem sns_for (x : XOk B cl k c X W) (po : PassesOwn (model X.prog X.w) X.A X.env X.xe) {tgt : Tg} {tg iter : Expr} {it : E} {body : List Stmt} {b : S} {pos : Pos} (ht : chT c tgt tg = true) (hf : ∀ v, foldedSetIterable iter X.env v = pure v) (hi : SndI B cl X W tg iter it) (hb : SndSs B cl X W body b) :
    SndS B cl X W (.For tg iter body [] pos) (.for ts tgt it b) := by
  intro fr s σ z0 h0 z h Dn f t G p
  refine WS.of (ps_for po x.calm piW (pg_of x ht) pssW hf) ?_
  have p : PoS B z0 h0 ((evE cl it (view ts fr) s).bind fun x s => (ofO s (itemsD x)).bind fun l s => forRun (fun x r s => (ofO s (bindF tgt x r)).bind fun r' s => xec cl b r' s) l (freeze ts fr) s) Dn W := p
  rw [← Res.bind_assoc] at p
  refine hi (view ts fr) s σ _ h _ f.en (f.st t) ?_
  rcases p.bind with ⟨l, s1, e1, p1⟩ | ⟨y, s1, e1, p1⟩
  · rw [e1]
    intro z1 h1 g1 st1 J yl
    obtain ⟨f1, G1⟩ := f.frz t G g1
    let F : D → Fr → Sta → Res Fl := fun x r s => (ofO s (bindF tgt x r)).bind fun r' s => xec cl b r' s
    let Pv : Nat → L2.St → Hp → Prop := fun i σ' h' => ∃ fr' s' z', FrR B h0 z' h' fr' σ' ∧ StR B.dp z' h' s' ∧ Gr B.dp z0 h0 z' h' ∧ Same z1 z' ∧ PoS B z0 h0 (forRun F (l.drop i) fr' s') Dn W
    refine ⟨fun i m σ' h' => m = l.length - i ∧ i ≤ l.length ∧ Pv i σ' h', ⟨_, rfl, Nat.zero_le _, freeze ts fr, s1, z1, f1, st1, G1, Same.refl z1, p1⟩, ?_⟩
    rintro i m σ' h' ⟨rfl, hi, fr', s', z', f', t', G', sm, p'⟩
    by_cases hlt : i < l.length
    · have hd : l[i]? = some l[i] := List.getElem?_eq_getElem hlt
      have edrop : l.drop i = l[i] :: l.drop (i + 1) := List.drop_eq_getElem_cons hlt
      rw [edrop] at p'
      refine .inr ⟨yl.go i l[i] z' h' hd sm t'.le, Pv (i + 1), fun σ2 h2 q => ⟨l.length - (i + 1), by omega, rfl, hlt, q⟩, fun v h2 y => ?_⟩
      obtain ⟨z2, g2, kp2, rv⟩ := yl.yld i l[i] z' h' v h2 hd sm t'.le y
      have t2 : StR B.dp z2 h2 s' := t'.grow g2 fun p e => by rw [kp2 p _ (t'.at_ p e), t'.at_ p e]
      have G2 : Gr B.dp z0 h0 z2 h2 := G'.tr t' g2
      have f2 : FrR B h0 z2 h2 fr' σ' := ⟨f'.len, fun j d e => (f'.sh j d e).imp fun v q => ⟨q.1, q.2.mono g2.sub⟩, fun j d e => by
        obtain ⟨p, q1, q2, q3, q4, q5⟩ := f'.ow j d e
        obtain ⟨u, hu⟩ := q5.at_
        exact ⟨p, q1, g2.new p u hu q2, q3, q4, q5.mono g2.sub (by rw [kp2 p u hu, hu])⟩, f'.inj⟩
      have p' : PoS B z0 h0 ((F l[i] fr' s').bind fun fl s => match fl with
        | .nx r' => forRun F (l.drop (i + 1)) r' s
        | .ct r' => forRun F (l.drop (i + 1)) r' s
        | .bk r' => .ok (.nx r') s
        | .rt d => .ok (.rt d) s) Dn W := p'
      cases eb : bindF tgt l[i] fr' with
      | none =>
        have : F l[i] fr' s' = .bad := by
          show ((ofO s' (bindF tgt l[i] fr')).bind fun r' s => xec cl b r' s) = .bad
          rw [eb]
          rfl
        rw [this] at p'
        exact p'.elim
      | some r' =>
        have eF : F l[i] fr' s' = xec cl b r' s' := by
          show ((ofO s' (bindF tgt l[i] fr')).bind fun r' s => xec cl b r' s) = _
          rw [eb]
          rfl
        rw [eF] at p'
        refine gOf_okF x.hK t2.le eb rv f2 fun σ3 f3 => ?_
        refine hb r' s' σ3 z1 h0 z2 h2 _ f3 t2 (G2.rebase G1.sub (sm.trans g2.sub)) ?_
        rcases p'.bind with ⟨fl, s2, e2, p2⟩ | ⟨y, s2, e2, p2⟩
        · rw [e2]
          cases fl with
          | nx r2 => exact fun σ4 z4 h4 f4 t4 G4 => ⟨r2, s2, z4, f4, t4, G1.debase G4, G4.sub, p2⟩
          | rt d => exact fun v z4 h4 t4 G4 => p2 v z4 h4 t4 (G1.debase G4)
          | bk r2 => exact fun σ4 z4 h4 f4 t4 G4 => p2 σ4 z4 h4 f4 t4 (G1.debase G4)
          | ct r2 => exact fun σ4 z4 h4 f4 t4 G4 => ⟨r2, s2, z4, f4, t4, G1.debase G4, G4.sub, p2⟩
        · rw [e2]
          exact fun σ4 z4 h4 t4 G4 => p2 σ4 z4 h4 t4 (G1.debase G4)
    · have e : i = l.length := by omega
      subst e
      refine .inl ⟨yl.stop h' (sm.trans t'.le), ?_⟩
      rw [List.drop_length] at p'
      exact (show PoS B z0 h0 (.ok (.nx fr') s') Dn W from p') σ' z' h' f' t' G'
  · rw [e1]
    intro z' h' g t' cls dd ex
    exact p1 σ z' h' t' (f.frz t G g).2 cls dd ex
theorem sns_whl (x : XOk B cl k c X W) (po : PassesOwn (model X.prog X.w) X.A X.env X.xe) {e : Expr} {ir : E} {body : List Stmt} {b : S} {pos : Pos} (he : SndT B cl X W e ir) (hb : SndSs B cl X W body b) :
    SndS B cl X W (.While e body [] pos) (.whl ts ir b) := by
  intro fr s σ z0 h0 z h Dn f t G p
  refine WS.of (ps_while po ptW pssW) ?_
  let C : Fr → Sta → Res Bool := fun r s => (evE cl ir (view ts r) s).bind fun x s => ofO s (blD x)
  let F : Fr → Sta → Res Fl := fun r s => xec cl b r s
  have p : PoS B z0 h0 (whlRun C F most fr s) Dn W := p
  refine ⟨fun m σ' h' => ∃ fr' s' z', FrR B h0 z' h' fr' σ' ∧ StR B.dp z' h' s' ∧ Gr B.dp z0 h0 z' h' ∧ PoS B z0 h0 (whlRun C F m fr' s') Dn W, ⟨most, fr, s, z, f, t, G, p⟩, ?_⟩
  rintro m σ' h' ⟨fr', s', z', f', t', G', p'⟩
  cases m with
  | zero => exact p'.elim
  | succ m =>
    have p' : PoS B z0 h0 ((C fr' s').bind fun k s => if k then (F fr' s).bind fun fl s => match fl with
      | .nx r' => whlRun C F m r' s
      | .ct r' => whlRun C F m r' s
      | .bk r' => .ok (.nx r') s
      | .rt d => .ok (.rt d) s
      else .ok (.nx fr') s) Dn W := p'
    refine run_t (ts := ts) he f' t' G' (fun y s2 e1 => ?_) (fun e1 => ?_) fun q s2 h2 e1 f2 t2 G2 => ?_
    · have e1 : C fr' s' = .exc y s2 := e1
      rw [e1] at p'
      exact p'
    · have e1 : C fr' s' = .bad := e1
      rw [e1] at p'
      exact p'
    · have e1 : C fr' s' = .ok q s2 := e1
      rw [e1] at p'
      cases q with
      | false =>
        rw [if_neg Bool.false_ne_true]
        exact (show PoS B z0 h0 (.ok (.nx fr') s2) Dn W from p') σ' z' h2 f2 t2 G2
      | true =>
        rw [if_pos rfl]
        refine ⟨fun σ3 h3 => ∃ fr3 s3 z3, FrR B h0 z3 h3 fr3 σ3 ∧ StR B.dp z3 h3 s3 ∧ Gr B.dp z0 h0 z3 h3 ∧ PoS B z0 h0 (whlRun C F m fr3 s3) Dn W, fun σ3 h3 q3 => ⟨m, Nat.lt_succ_self m, q3⟩, ?_⟩
        have p' : PoS B z0 h0 ((xec cl b fr' s2).bind fun fl s => match fl with
          | .nx r' => whlRun C F m r' s
          | .ct r' => whlRun C F m r' s
          | .bk r' => .ok (.nx r') s
          | .rt d => .ok (.rt d) s) Dn W := p'
        refine hb fr' s2 σ' z0 h0 z' h2 _ f2 t2 G2 ?_
        rcases p'.bind with ⟨fl, s3, e3, p3⟩ | ⟨y, s3, e3, p3⟩
        · rw [e3]
          cases fl with
          | nx r2 => exact fun σ4 z4 h4 f4 t4 G4 => ⟨r2, s3, z4, f4, t4, G4, p3⟩
          | rt d => exact p3
          | bk r2 => exact p3
          | ct r2 => exact fun σ4 z4 h4 f4 t4 G4 => ⟨r2, s3, z4, f4, t4, G4, p3⟩
        · rw [e3]
          exact p3
theorem sns_rse (x : XOk B cl k c X W) {n : Nat} {nm m : Str} {j : Nat} {p1 p2 p3 pos : Pos} (hg : glB c nm = true) (hx : c.xs.lookup n = some nm) :
    SndS B cl X W (.Raise (some (.Call (.Name nm p1) [.Constant (.str m) j p2] [] p3)) Option.none pos) (.rse n) := by
  intro fr s σ z0 h0 z h Dn f t G p
  obtain ⟨e1, e2, e3, e4, e5⟩ := x.exs n nm hx
  obtain ⟨g1, g2⟩ := x.gl hg
  refine WS.of (ps_raise x.calm x.tk (pmk_own PySem.F.excBase_ValueError e3 e1 e2 (raises_own e4 e5) g1 g2)) ?_
  exact (show PoS B z0 h0 (.exc ⟨n, Option.none⟩ s) Dn W from p) σ z h t G _ _ ⟨rfl, rfl⟩
theorem ownL_of {o : Option Sl} (h : ownL o = true) : ∃ l, o = some (.ow (.lst l)) := by
  unfold ownL at h
  split at h
  · exact ⟨_, rfl⟩
  · cases h
theorem isDice_of {o : Option Sl} (h : isDice o = true) : o = some (.sh .dice) := by
  unfold isDice at h
  split at h
  · rfl
  · cases h
/-- an own list takes another content -/
theorem FrR.mut {h0 z h : Hp} {fr : Fr} {σ : L2.St} {i : Nat} {d : D} {l' : List D} {p : Addr} {vs' : List V} (f : FrR B h0 z h fr σ) (e : fr[i]? = some (.ow d)) (q : σ[i]? = some (some (.ref p))) (r : RpL B z l' vs') :
    FrR B h0 z (upd h p (.lst vs')) (fr.set i (.ow (.lst l'))) σ where
  len := by simp [f.len]
  sh := fun j d' e1 => by
    rw [List.getElem?_set] at e1
    split at e1
    · split at e1 <;> cases e1
    · exact f.sh j d' e1
  ow := fun j d' e1 => by
    rw [List.getElem?_set] at e1
    obtain ⟨p0, q1, q2, q3, q4, q5⟩ := f.ow i d e
    rw [q] at q1
    cases q1
    split at e1
    · rename_i hij
      subst hij
      split at e1
      · cases e1
        exact ⟨p, q, q2, q3, q4, vs', upd_same, r⟩
      · cases e1
    · rename_i hij
      obtain ⟨p', a1, a2, a3, a4, a5⟩ := f.ow j d' e1
      have ne : p' ≠ p := fun x => by
        subst x
        exact hij (f.inj i j p' d d' e e1 q a1)
      exact ⟨p', a1, a2, a3, a4, a5.mono (Same.refl z) (upd_ne ne)⟩
  inj := fun j k2 p' d1 d2 e1 e2 e3 e4 => by
    have back : ∀ (m : Nat) (dd : D), (fr.set i (.ow (.lst l')))[m]? = some (.ow dd) → ∃ dd', fr[m]? = some (.ow dd') := fun m dd em => by
      rw [List.getElem?_set] at em
      split at em
      · rename_i hm
        subst hm
        exact ⟨d, e⟩
      · exact ⟨dd, em⟩
    obtain ⟨d1', e1'⟩ := back j d1 e1
    obtain ⟨d2', e2'⟩ := back k2 d2 e2
    exact f.inj j k2 p' d1' d2' e1' e2' e3 e4
theorem sns_app (x : XOk B cl k c X W) {i : Nat} {n : Str} {e : Expr} {ir : E} {p1 apos cpos pos : Pos} (hi : slotB c i n = true) (hv : visB c n = true) (hc : chE ir c e = true) (hl : (apos.endLine == cpos.line) = true) (he : SndE B cl X W e ir) :
    SndS B cl X W (.Expr (.Call (.Attribute (.Name n p1) "append" apos) [e] [] cpos) pos) (.app ts i ir) := by
  intro fr s σ z0 h0 z h Dn f t G p
  obtain ⟨v1, v2, v3⟩ := x.vis hv
  have few : ((backTo cpos (starEach [e] X.env)).all (fun x => !x.1) && (backToKw cpos (keywordEach [] X.env)).all (fun x => x.1.isSome) && decide ([e].length + ([] : List Keyword).length + (if ([] : List Keyword).isEmpty then 0 else 1) < 30)) = true := by
    rw [plain_star hc]
    rfl
  refine WS.of (ps_expr (pe_bm PySem.F.plainAttrs_list PySem.F.slot_list_append PySem.F.type_list_append mt_append (pe_var (x.slot hi) v1 v2 v3) (star1 hc) rfl few hl (plain_star hc [] X.env) rfl) rfl) ?_
  have p : PoS B z0 h0 (if ownL fr[i]? then (evE cl ir (view ts fr) s).bind fun d s => appTo (afterE ts fr d) i d s else .bad) Dn W := p
  split at p
  · rename_i ho
    obtain ⟨l0, hs⟩ := ownL_of ho
    obtain ⟨q, a1, a2, a3, a4, vs, a5, a6⟩ := f.ow i _ hs
    refine ⟨.ref q, a1, .inl ⟨rfl, vs, SqL.of a5⟩, ?_⟩
    refine run_e (ts := ts) he f t G (fun x s' e2 => ?_) (fun e2 => ?_) fun d s' v z' h' e2 g t' r => ?_
    · rw [e2] at p
      exact p
    · rw [e2] at p
      exact p
    · rw [e2] at p
      have p : PoS B z0 h0 (appTo (afterE ts fr d) i d s') Dn W := p
      obtain ⟨z2, f2, t2, G2, r2⟩ := f.after t G g t' r
      unfold appTo at p
      split at p
      · rename_i l hl2
        split at p
        · rename_i hm
          obtain ⟨q', b1, b2, b3, b4, vs', b5, b6⟩ := f2.ow i _ hl2
          rw [a1] at b1
          cases b1
          have n1 := b6.length
          refine ⟨q, vs', v, rfl, rfl, b5, by rw [n1]; exact most_lt hm, ?_⟩
          exact p σ z2 _ (f2.mut hl2 a1 (b6.append (RpL.one r2))) (t2.mut b2 b3) (G2.mut b4 b2)
        · exact p.elim
      · exact p.elim
  · exact p.elim
/-- behind two expressions -/
theorem FrR.after2 {h0 z0 z h z' h' : Hp} {fr : Fr} {σ : L2.St} {s s' : Sta} {d e : D} {v w : V} (f : FrR B h0 z h fr σ) (t : StR B.dp z h s) (G : Gr B.dp z0 h0 z h) (g : Gr B.dp (zF ts fr σ z h) h z' h') (t' : StR B.dp z' h' s') (r : Rp B z' d v) (r2 : Rp B z' e w) :
    ∃ z2, FrR B h0 z2 h' (afterB ts fr d e) σ ∧ StR B.dp z2 h' s' ∧ Gr B.dp z0 h0 z2 h' ∧ Rp B z2 d v ∧ Rp B z2 e w := by
  unfold afterB
  split
  · rename_i hs
    rw [Bool.and_eq_true] at hs
    obtain ⟨f1, f2, f3⟩ := f.keep t G g t'
    exact ⟨z, f1, f2, f3, r.scal hs.1, r2.scal hs.2⟩
  · obtain ⟨f1, f2⟩ := f.frz t G g
    exact ⟨z', f1, t', f2, r, r2⟩
theorem WE.mono {e : Expr} {σ : L2.St} {H : Hp} {Q Q' : VK} (w : WE X e σ H Q) (q : ∀ v h, Q v h → Q' v h) : WE X e σ H Q' := fun pins s I =>
  thn (w pins s I) fun _ _ ⟨v, H', I', r, x⟩ => ⟨v, H', I', r, q v H' x⟩
/-- two expressions of a statement -/
theorem run_2 {a b : Expr} {ia ib : E} {h0 z0 z h : Hp} {fr : Fr} {σ : L2.St} {s : Sta} {Q : V → V → Hp → Prop} {R : D → D → Sta → Res Fl} {Dn : Ends} (ha : SndE B cl X W a ia) (hb : SndE B cl X W b ib) (f : FrR B h0 z h fr σ) (t : StR B.dp z h s) (G : Gr B.dp z0 h0 z h)
    (p : PoS B z0 h0 ((evE cl ia (view ts fr) s).bind fun x s => (evE cl ib (view ts fr) s).bind fun y s => R x y s) Dn W)
    (q : ∀ x y s' v w z' h', Gr B.dp (zF ts fr σ z h) h z' h' → StR B.dp z' h' s' → Rp B z' x v → Rp B z' y w → PoS B z0 h0 (R x y s') Dn W → Q v w h') : WE X a σ h fun v h1 => WE X b σ h1 fun w h2 => Q v w h2 := by
  refine ha (view ts fr) s σ _ h _ f.en (f.st t) ?_
  rcases p.bind with ⟨x, s1, e1, p1⟩ | ⟨y, s1, e1, p1⟩
  · rw [e1]
    intro z1 h1 g1 t1 v r1
    refine hb (view ts fr) s1 σ z1 h1 _ (f.en.mono g1.sub) t1 ?_
    rcases p1.bind with ⟨y, s2, e2, p2⟩ | ⟨y, s2, e2, p2⟩
    · rw [e2]
      intro z2 h2 g2 t2 w r2
      exact q x y s2 v w z2 h2 (g1.tr t1 g2) t2 (r1.mono g2.sub) r2 p2
    · rw [e2]
      intro z2 h2 g2 t2 cls dd ex
      exact p2 σ z2 h2 t2 (f.frz t G (g1.tr t1 g2)).2 cls dd ex
  · rw [e1]
    intro z1 h1 g1 t1 cls dd ex
    exact p1 σ z1 h1 t1 (f.frz t G g1).2 cls dd ex
theorem sns_set (x : XOk B cl k c X W) {i : Nat} {n : Str} {e ix : Expr} {ik iv : E} {p1 p2 pos : Pos} (hi : slotB c i n = true) (hv : visB c n = true) (hc : isComp e = false) (hsl : isSl ix = false) (hk : SndE B cl X W ix ik) (he : SndE B cl X W e iv) :
    SndS B cl X W (.Assign [.Subscript (.Name n p1) ix p2] e pos) (.setIx ts i ik iv) := by
  intro fr s σ z0 h0 z h Dn f t G p
  obtain ⟨v1, v2, v3⟩ := x.vis hv
  have hs : swapsWithSole [.Subscript (.Name n p1) ix p2] e pos.line X.env = pure false := by
    show swapsWith e (some (.Subscript (.Name n p1) ix p2)) pos.line X.env = pure false
    exact swaps_no hc
  have ha : ∀ v, assign (.Subscript (.Name n p1) ix p2) X.env v = (do
      let ov ← holding [v] (eval (.Name n p1) X.env)
      let iv ← holding [v, ov] (eval ix X.env)
      standAt p2
      holding [v, ov, iv] (setItem ov iv v)
      release [v, ov, iv] []) := by
    intro v
    cases ix <;> first | rfl | (cases hsl; done)
  refine WS.of (ps_asg (te := WE X e) peW (pg_sub (pe_var (x.slot hi) v1 v2 v3) (peW (e := ix)) set_list ha) hs rfl rfl) ?_
  have p : PoS B z0 h0 (if ownL fr[i]? || isDice fr[i]? then (evE cl iv (view ts fr) s).bind fun y s => (evE cl ik (view ts fr) s).bind fun x s => setTo (afterB ts fr x y) i x y s else .bad) Dn W := p
  split at p
  · rename_i ho
    have slot : ∃ q, σ[i]? = some (some (.ref q)) := by
      rw [Bool.or_eq_true] at ho
      rcases ho with ho | ho
      · obtain ⟨l0, e0⟩ := ownL_of ho
        obtain ⟨q, a1, _⟩ := f.ow i _ e0
        exact ⟨q, a1⟩
      · obtain ⟨v, a1, a2⟩ := f.sh i _ (isDice_of ho)
        unfold Rp at a2
        obtain ⟨q, _, rfl⟩ := a2
        exact ⟨q, a1⟩
    obtain ⟨q, hq⟩ := slot
    have key := run_2 (ts := ts) (Q := fun v w h2 => rSetL (.ref q) w v h2 fun H3 => Dn.nx σ H3) he hk f t G p fun y x' s' v w z' h' g t' r1 r2 pp => by
      obtain ⟨z2, f2, t2, G2, r3, r4⟩ := f.after2 t G g t' r2 r1
      unfold setTo at pp
      split at pp
      · rename_i l hl
        obtain ⟨d, e3, pp⟩ := pp.ofO
        unfold setL at e3
        split at e3
        · rename_i j _
          split at e3
          · rename_i j' hj
            cases e3
            obtain ⟨q', b1, b2, b3, b4, vs', b5, b6⟩ := f2.ow i _ hl
            rw [hq] at b1
            cases b1
            cases rp_int.mp r3
            refine ⟨q, vs', j, j', rfl, rfl, b5, by rw [b6.length, ← ixAt_eq]; exact hj, ?_⟩
            exact pp σ z2 _ (f2.mut hl hq (RpL.set r4 j' b6)) (t2.mut b2 b3) (G2.mut b4 b2)
          · cases e3
        · cases e3
      · rename_i hd
        obtain ⟨v0, a1, a2⟩ := f2.sh i _ hd
        unfold Rp at a2
        obtain ⟨q', edp, rfl⟩ := a2
        rw [hq] at a1
        cases a1
        have hp := t2.at_ q edp
        have fin : ∀ (c' k' : Int) (s3 : Sta), s3.dice = (c', k') → FrR B h0 z2 (upd h' q (.lst [.int c', .int k'])) (afterB ts fr x' y) σ ∧ StR B.dp z2 (upd h' q (.lst [.int c', .int k'])) s3 ∧ Gr B.dp z0 h0 z2 (upd h' q (.lst [.int c', .int k'])) := fun c' k' s3 e3 => by
          have nz := t2.nz q edp
          refine ⟨⟨f2.len, f2.sh, fun j d e => ?_, f2.inj⟩, ⟨fun a u e => ?_, t2.nz, fun q2 e => ?_⟩, ⟨G2.sub, fun a u e => ?_, fun a u e ne => ?_, G2.new⟩⟩
          · obtain ⟨p', a1, a2, a3, a4, a5⟩ := f2.ow j d e
            have ne : p' ≠ q := fun e5 => a3 (by rw [e5]; exact edp.symm)
            exact ⟨p', a1, a2, a3, a4, a5.mono (Same.refl z2) (upd_ne ne)⟩
          · rw [upd_ne (ne_of_none e nz)]
            exact t2.le a u e
          · rw [edp] at e
            cases e
            rw [upd_same, e3]
          · rw [upd_ne (ne_of_none e nz)]
            exact G2.le a u e
          · have : a ≠ q := fun e5 => ne (by rw [e5]; exact edp.symm)
            rw [upd_ne this]
            exact G2.keep a u e ne
        split at pp
        · cases rp_int.mp r3
          cases rp_int.mp r4
          obtain ⟨F1, F2, F3⟩ := fin _ _ ⟨(_, s'.dice.2)⟩ rfl
          exact ⟨q, _, 0, 0, rfl, rfl, hp, rfl, pp σ z2 _ F1 F2 F3⟩
        · cases rp_int.mp r3
          cases rp_int.mp r4
          obtain ⟨F1, F2, F3⟩ := fin _ _ ⟨(s'.dice.1, _)⟩ rfl
          exact ⟨q, _, 1, 1, rfl, rfl, hp, rfl, pp σ z2 _ F1 F2 F3⟩
        · exact pp.elim
      · exact pp.elim
    -- the value first, then the name, then the place
    exact key.mono fun v h1 w => ⟨.ref q, hq, w⟩
  · exact p.elim
end
end Wk
/-! Wk, soundness 14: a, b = x, y; all statements at once; defs. -/
namespace Wk
open PySem PySem.Spec PyProof.Rows L2
/-- a value as a slot takes it: a new list (own), or any -/
def VaR (B : Bas) (hb z h : Hp) (o : Bool) (d : D) (v : V) : Prop := if o = true then FrV B hb z h d v else Rp B z d v
theorem FrV.mono {B : Bas} {hb z h z' h' : Hp} {d : D} {v : V} (r : FrV B hb z h d v) (g : Gr B.dp z h z' h') : FrV B hb z' h' d v := by
  unfold FrV at r ⊢
  split at r
  · obtain ⟨p, vs, e, q1, q2, q3, q4, q5⟩ := r
    exact ⟨p, vs, e, g.keep p _ q1 q3, g.new p _ q1 q2, q3, q4.mono g.sub, q5⟩
  · exact r.mono g.sub
theorem VaR.mono {B : Bas} {hb z h z' h' : Hp} {o : Bool} {d : D} {v : V} (r : VaR B hb z h o d v) (g : Gr B.dp z h z' h') : VaR B hb z' h' o d v := by
  unfold VaR at r ⊢
  split
  · rename_i ho
    rw [if_pos ho] at r
    exact r.mono g
  · rename_i ho
    rw [if_neg ho] at r
    exact r.mono g.sub
theorem FrV.back {B : Bas} {hb hb' z h : Hp} {d : D} {v : V} (r : FrV B hb z h d v) (k : ∀ p o, hb' p = some o → some p ≠ B.dp → ∃ u, hb p = some u) : FrV B hb' z h d v := by
  unfold FrV at r ⊢
  split at r
  · obtain ⟨p, vs, e, q1, q2, q3, q4, q5⟩ := r
    refine ⟨p, vs, e, q1, q2, q3, q4, ?_⟩
    cases q : hb' p with
    | none => rfl
    | some o =>
      obtain ⟨u, hu⟩ := k p o q q3
      rw [q5] at hu
      cases hu
  · exact r
def SndV (B : Bas) (cl : CallT) (X : Cx) (W : WX) (o : Bool) (e : Expr) (ir : E) : Prop :=
  ∀ (r : En) (s : Sta) (σ : L2.St) (z H : Hp) (Q : VK), EnR B z r σ → StR B.dp z H s → Po B z H (evE cl ir r s) (fun d z' h' => ∀ v, VaR B H z' h' o d v → Q v h') (WXs W σ) → WE X e σ H Q
theorem SndV.of {B : Bas} {cl : CallT} {X : Cx} {W : WX} {o : Bool} {e : Expr} {ir : E} (h1 : SndE B cl X W e ir) (h2 : o = true → SndF B cl X W e ir) : SndV B cl X W o e ir := by
  intro r s σ z H Q en st p
  cases o with
  | true => exact h2 rfl r s σ z H Q en st p
  | false => exact h1 r s σ z H Q en st p
section
variable {B : Bas} {cl : CallT} {k : Nat} {c : Cfg} {X : Cx} {W : WX} {ts : List Nat}
/-- a slot takes a value -/
theorem FrR.put {h0 z h : Hp} {fr : Fr} {σ : L2.St} {hb : Hp} {o : Bool} {d : D} {v : V} {i : Nat} (f : FrR B h0 z h fr σ) (r : VaR B hb z h o d v) (hh : ∀ p u, h0 p = some u → some p ≠ B.dp → ∃ u, hb p = some u)
    (new : ∀ p, v = .ref p → hb p = Option.none → ∀ (j : Nat) (e : D), j ≠ i → fr[j]? = some (.ow e) → σ[j]? ≠ some (some (.ref p))) : FrR B h0 z h (fr.set i (slotOf o d)) (σ.set i (some v)) := by
  unfold VaR at r
  unfold slotOf
  cases o with
  | false =>
    rw [if_neg Bool.false_ne_true] at r
    exact f.set r
  | true =>
    rw [if_pos rfl] at r
    cases d with
    | lst l =>
      obtain ⟨p, vs, rfl, q1, q2, q3, q4, q5⟩ := r
      refine f.setO q2 q3 ?_ ⟨vs, q1, q4⟩ (new p rfl q5)
      cases q : h0 p with
      | none => rfl
      | some u =>
        obtain ⟨w, hw⟩ := hh p u q q3
        rw [q5] at hw
        cases hw
    | dct a b =>
      unfold FrV at r
      simp only at r
      unfold Rp at r
      exact r.elim
    | non => exact f.set r
    | bl => exact f.set r
    | int => exact f.set r
    | str => exact f.set r
    | tup => exact f.set r
    | ins => exact f.set r
    | dice => exact f.set r
    | scr => exact f.set r
theorem VaR.scal {hb z h z' : Hp} {o : Bool} {d : D} {v : V} (hs : d.scal = true) (r : VaR B hb z h o d v) : VaR B hb z' h o d v := by
  unfold VaR at r ⊢
  cases o with
  | false => exact Rp.scal hs r
  | true =>
    rw [if_pos rfl] at r ⊢
    cases d <;> first | (cases hs; done) | exact Rp.scal (z := z) hs r
theorem sns_par (x : XOk B cl k c X W) {i j : Nat} {o1 o2 : Bool} {ia ib : E} {n m : Str} {e f' : Expr} {px py pt pt2 pos : Pos} {kt k2 : Nat} (hi : slotB c i n = true) (hj : slotB c j m = true) (hn : lkB c n .local = true) (hm : lkB c m .local = true) (hij : i ≠ j) (hnm : n ≠ m)
    (hl : (py.line == px.line) = true) (h8 : [e, f'].all (foldedForSure 8) = false) (h9 : [e, f'].all (constantsAlone 8) = false) (c1 : chE ia c e = true) (c2 : chE ib c f' = true) (ha : SndV B cl X W o1 e ia) (hb : SndV B cl X W o2 f' ib) :
    SndS B cl X W (.Assign [.Tuple [.Name n px, .Name m py] kt pt] (.Tuple [e, f'] k2 pt2) pos) (.par ts i j o1 o2 ia ib) := by
  intro fr s σ z0 h0 z h Dn f t G p
  have ln : X.env.scope.names.lookup n = some .local := by rw [x.sc]; exact lk_of hn
  have lm : X.env.scope.names.lookup m = some .local := by rw [x.sc]; exact lk_of hm
  have kd : X.env.blockKind = .function := by
    unfold Env.blockKind
    rw [x.sc, x.kind]
    rfl
  have st1 : ∀ {ir : E} {y : Expr}, chE ir c y = true → (match y with | .Starred .. => true | _ => false) = false := fun {ir y} q => by
    cases y <;> first | rfl | (rw [no_star] at q; cases q)
  have hw : swappedStores [.Tuple [.Name n px, .Name m py] kt pt] (.Tuple [e, f'] k2 pt2) X.env = pure (some [n, m]) := by
    have a1 : X.env.kindOf n = some .local := ln
    have a2 : X.env.kindOf m = some .local := lm
    have s1 := st1 c1
    have s2 := st1 c2
    have hany : ([e, f'].any fun | .Starred .. => true | _ => false) = false := by
      simp only [List.any_cons, List.any_nil, Bool.or_false]
      rw [s1, s2]
      rfl
    have hnm' : (m == n) = false := beq_eq_false_iff_ne.mpr (Ne.symm hnm)
    have hnm2 : (n == m) = false := beq_eq_false_iff_ne.mpr hnm
    unfold swappedStores
    simp only [kd, hany, h8, h9, List.length_cons, List.length_nil, a1, a2, hl, List.head?_cons, Option.map_some, Option.getD_some, Expr.pos, List.filterMap_cons, List.filterMap_nil, beq_self_eq_true]
    simp [List.eraseDups_cons, hnm', hnm2, hl, Expr.pos]
    intro q
    rcases q with q | q
    · clear h8 h9 ha s1 hany
      cases e <;> first | (exact Bool.noConfusion q; done) | (rw [no_star] at c1; cases c1)
    · clear h8 h9 hb s2 hany
      cases f' <;> first | (exact Bool.noConfusion q; done) | (rw [no_star] at c2; cases c2)
  have hs : swapsWithSole [.Tuple [.Name n px, .Name m py] kt pt] (.Tuple [e, f'] k2 pt2) pos.line X.env = pure false := rfl
  refine WS.of (ps_par x.calm x.nd (x.slot hi) (x.slot hj) hij ln lm (star2 c1 c2) hw hs) ?_
  have p : PoS B z0 h0 ((evE cl ia (view ts fr) s).bind fun x s => (evE cl ib (view ts fr) s).bind fun y s => .ok (.nx (((afterB ts fr x y).set i (slotOf o1 x)).set j (slotOf o2 y))) s) Dn W := p
  refine ha (view ts fr) s σ _ h _ f.en (f.st t) ?_
  rcases p.bind with ⟨d1, s1, e1, p1⟩ | ⟨y, s1, e1, p1⟩
  · rw [e1]
    intro z1 h1 g1 t1 v r1
    refine hb (view ts fr) s1 σ z1 h1 _ (f.en.mono g1.sub) t1 ?_
    rcases p1.bind with ⟨d2, s2, e2, p2⟩ | ⟨y, s2, e2, p2⟩
    · rw [e2]
      intro z2 h2 g2 t2 w r2
      refine ⟨v, w, rfl, ?_⟩
      have gg := g1.tr t1 g2
      have r1' := r1.mono g2
      -- the frame behind both
      have base : ∃ z3, FrR B h0 z3 h2 (afterB ts fr d1 d2) σ ∧ StR B.dp z3 h2 s2 ∧ Gr B.dp z0 h0 z3 h2 ∧ VaR B h z3 h2 o1 d1 v ∧ VaR B h1 z3 h2 o2 d2 w := by
        unfold afterB
        split
        · rename_i hsc
          rw [Bool.and_eq_true] at hsc
          obtain ⟨f1, f2, f3⟩ := f.keep t G gg t2
          exact ⟨z, f1, f2, f3, r1'.scal hsc.1, r2.scal hsc.2⟩
        · obtain ⟨f1, f2⟩ := f.frz t G gg
          exact ⟨z2, f1, t2, f2, r1', r2⟩
      obtain ⟨z3, f3, t3, G3, q1, q2⟩ := base
      have old : ∀ (j : Nat) (e : D), (afterB ts fr d1 d2)[j]? = some (.ow e) → ∃ e', fr[j]? = some (.ow e') := fun j e he => by
        unfold afterB at he
        split at he
        · exact ⟨e, he⟩
        · exact ⟨e, frz_at he⟩
      have hk : ∀ p u, h0 p = some u → some p ≠ B.dp → ∃ u, h p = some u := fun p u q nd => ⟨u, G.keep p u q nd⟩
      have hk1 : ∀ p u, h p = some u → some p ≠ B.dp → ∃ u, h1 p = some u := fun p u q nd => ⟨u, g1.keep p u q nd⟩
      have F1 := f3.put (i := i) q1 hk fun p ep hp j e hj he e3 => by
        obtain ⟨e', he'⟩ := old j e he
        obtain ⟨p', a1, _, _, _, a5⟩ := f.ow j e' he'
        rw [e3] at a1
        cases a1
        obtain ⟨u, hu⟩ := a5.at_
        rw [hp] at hu
        cases hu
      have F2 := F1.put (i := j) q2 (fun p u q nd => (hk p u q nd).elim fun u' q' => hk1 p u' q' nd) fun p ep hp j' e hj he e3 => by
        by_cases hji : i = j'
        · subst hji
          rw [List.getElem?_set] at e3
          rw [if_pos rfl] at e3
          split at e3
          · cases e3
            -- the first value is a new list at p: it stands in h1
            rw [List.getElem?_set, if_pos rfl] at he
            split at he
            · unfold VaR at r1
              cases o1 with
              | false => simp [slotOf] at he
              | true =>
                rw [if_pos rfl] at r1
                cases d1 with
                | lst l =>
                  obtain ⟨p', vs, ee, b1, _⟩ := r1
                  cases ee
                  rw [hp] at b1
                  cases b1
                | dct a b =>
                  unfold FrV at r1
                  simp only at r1
                  unfold Rp at r1
                  exact r1
                | _ => simp [slotOf, D.cont] at he
            · cases he
          · cases e3
        · rw [List.getElem?_set, if_neg hji] at e3 he
          obtain ⟨e', he'⟩ := old j' e he
          obtain ⟨p', a1, _, a3, _, a5⟩ := f.ow j' e' he'
          rw [e3] at a1
          cases a1
          obtain ⟨u, hu⟩ := a5.at_
          have := g1.keep p u hu a3
          rw [hp] at this
          cases this
      exact p2 _ z3 h2 F2 t3 G3
    · rw [e2]
      intro z2 h2 g2 t2 cls dd ex
      exact p2 σ z2 h2 t2 (f.frz t G (g1.tr t1 g2)).2 cls dd ex
  · rw [e1]
    intro z1 h1 g1 t1 cls dd ex
    exact p1 σ z1 h1 t1 (f.frz t G g1).2 cls dd ex
end

/-! ### all statements -/
theorem lcOk_of {B : Bas} {cl : CallT} {k : Nat} {c : Cfg} {X : Cx} {W : WX} (x : XOk B cl k c X W) {vs : List Nat} {t : Tg} {it cd el : E} {elt tg iter : Expr} {ifs : List Expr} {scope : Scope} (h1 : blkC c.N c.sc scope (ownOf c vs) = true) (h2 : tgIn vs t = true) (h3 : chT (inBlk c scope) t tg = true)
    (h4 : chE el (inBlk c scope) elt = true) (h5 : kIfs (isTrueC cd) (chE cd (inBlk c scope)) ifs = true) (h6 : chI it c iter = true) : LcOk B cl k c X W vs t it cd el elt tg iter ifs scope := by
  refine ⟨h1, h2, h3, fun X' hX => ((snd_all B cl k el).1 _ elt X' W0 h4 (x.blk (blkOk_by h1).kind hX)).1, ?_, (snd_all B cl k it).2.2 c iter tg X W h6 x, fun v => folded_of h6 X.env v⟩
  unfold kIfs at h5
  split at h5
  · refine .inl ⟨rfl, ?_⟩
    unfold isTrueC at h5
    split at h5
    · rfl
    · cases h5
  · rename_i y
    exact .inr ⟨y, rfl, fun X' hX => ((snd_all B cl k cd).1 _ y X' W0 h5 (x.blk (blkOk_by h1).kind hX)).2⟩
  · cases h5
theorem fr_snd {B : Bas} {cl : CallT} {k : Nat} {c : Cfg} {X : Cx} {W : WX} (x : XOk B cl k c X W) {ir : E} {e : Expr} (h : chE ir c e = true) (hf : isFr ir = true) : SndF B cl X W e ir := by
  cases ir with
  | lst a =>
    have h : kLst (chL a c) e = true := h
    unfold kLst at h
    split at h
    · exact snf_lst ((snd_all B cl k a).2.1 c _ X W h x)
    · cases h
  | lc vs t it cd el =>
    have h : kLc vs t c (chE el) (chE cd) (isTrueC cd) (chI it c) e = true := h
    unfold kLc at h
    split at h
    · rename_i elt tg iter ifs scope pos _
      simp only [Bool.and_eq_true] at h
      obtain ⟨⟨⟨⟨⟨h1, h2⟩, h3⟩, h4⟩, h5⟩, h6⟩ := h
      exact snf_lc x (lcOk_of x h1 h2 h3 h4 h5 h6)
    · cases h
  | bin o a b =>
    cases o <;> first | (cases hf; done) | skip
    have h : kBin .add (chE a c) (chE b c) e = true := h
    unfold kBin at h
    split at h
    · rename_i l op r pos _
      rw [Bool.and_eq_true, Bool.and_eq_true] at h
      have e1 : op = opB .add := of_decide_eq_true h.1.1
      subst e1
      exact snf_add (pos := pos) x ((snd_all B cl k a).1 c l X W h.1.2 x).1 ((snd_all B cl k b).1 c r X W h.2 x).1
    · cases h
  | sl a lo hi =>
    have h : kSl (chE a c) (kPart (isNonC lo) (chE lo c)) (kPart (isNonC hi) (chE hi c)) e = true := h
    unfold kSl at h
    split at h
    · rename_i v l u p2 pos _
      rw [Bool.and_eq_true, Bool.and_eq_true] at h
      have pl : SndP B cl X W l lo := by
        have q := h.1.2
        cases l with
        | none => exact snp_none q
        | some y =>
          have q : (chE lo c y && !isNonC lo) = true := q
          rw [Bool.and_eq_true, Bool.not_eq_true'] at q
          exact snp_some q.2 ((snd_all B cl k lo).1 c y X W q.1 x).1
      have pu : SndP B cl X W u hi := by
        have q := h.2
        cases u with
        | none => exact snp_none q
        | some y =>
          have q : (chE hi c y && !isNonC hi) = true := q
          rw [Bool.and_eq_true, Bool.not_eq_true'] at q
          exact snp_some q.2 ((snd_all B cl k hi).1 c y X W q.1 x).1
      exact snf_sl x ((snd_all B cl k a).1 c v X W h.1.1 x).1 pl pu
    · cases h
  | _ => cases hf
theorem no_slice {c : Cfg} {a b d : Option Expr} {p : Pos} : ∀ ir : E, chE ir c (.Slice a b d p) = false := by
  intro ir
  cases ir <;> first | rfl | skip
  rename_i b a
  cases b <;> rfl
theorem notSl {ir : E} {c : Cfg} {e : Expr} (h : chE ir c e = true) : isSl e = false := by
  cases e <;> first | rfl | skip
  rw [no_slice] at h
  cases h
theorem chSs_cons {a b : S} {c : Cfg} {e : Stmt} {es : List Stmt} (h : chSs (.seq a b) c (e :: es) = true) : chS a c e = true ∧ chSs b c es = true := by
  have h : (chS a c e && chSs b c es) = true := h
  rwa [Bool.and_eq_true] at h
theorem snd_stm (B : Bas) (cl : CallT) (k : Nat) : ∀ (ir : S),
    (∀ (c : Cfg) (st : Stmt) (X : Cx) (W : WX), chS ir c st = true → XOk B cl k c X W → PassesOwn (model X.prog X.w) X.A X.env X.xe → SndS B cl X W st ir) ∧
    (∀ (c : Cfg) (sts : List Stmt) (X : Cx) (W : WX), chSs ir c sts = true → XOk B cl k c X W → PassesOwn (model X.prog X.w) X.A X.env X.xe → SndSs B cl X W sts ir) := by
  intro ir
  induction ir with
  | nop =>
    refine ⟨fun c st X W h x po => ?_, fun c sts X W h x po => ?_⟩
    · have h : kPass st = true := h
      unfold kPass at h
      split at h
      · exact sns_nop
      · cases h
    · cases sts with
      | nil => exact snss_nil
      | cons => cases h
  | seq a b iha ihb =>
    refine ⟨fun c st X W h => (by cases h), fun c sts X W h x po => ?_⟩
    cases sts with
    | nil => cases h
    | cons st r =>
      have h' := chSs_cons h
      exact snss_cons (iha.1 c st X W h'.1 x po) (ihb.2 c r X W h'.2 x po)
  | asg ts own i e =>
    refine ⟨fun c st X W h x po => ?_, fun c sts X W h => (by cases h)⟩
    have h : kAsg own i e c st = true := h
    unfold kAsg at h
    split at h
    · rename_i n p1 v pos _
      rw [Bool.and_eq_true, Bool.and_eq_true, Bool.and_eq_true] at h
      obtain ⟨⟨⟨h1, h2⟩, h3⟩, h4⟩ := h
      cases own with
      | false =>
        have h4 : (!isComp v) = true := h4
        rw [Bool.not_eq_true'] at h4
        exact sns_asg x h1 h2 h4 ((snd_all B cl k e).1 c v X W h3 x).1
      | true =>
        have h4 : isFr e = true := h4
        by_cases hc : isComp v = false
        · exact sns_asgF x h1 h2 (swaps_no hc) (fr_snd x h3 h4)
        · cases e with
          | lc vs t it cd el =>
            have h3 : kLc vs t c (chE el) (chE cd) (isTrueC cd) (chI it c) v = true := h3
            unfold kLc at h3
            split at h3
            · rename_i elt tg iter ifs scope pos' _
              simp only [Bool.and_eq_true] at h3
              obtain ⟨⟨⟨⟨⟨a1, a2⟩, a3⟩, a4⟩, a5⟩, a6⟩ := h3
              exact sns_asgLc x h1 h2 (lcOk_of x a1 a2 a3 a4 a5 a6)
            · cases h3
          | lst a =>
            have h3 : kLst (chL a c) v = true := h3
            unfold kLst at h3
            split at h3
            · exact absurd rfl hc
            · cases h3
          | bin o a b =>
            have h3 : kBin o (chE a c) (chE b c) v = true := h3
            unfold kBin at h3
            split at h3
            · exact absurd rfl hc
            · cases h3
          | sl a lo hi =>
            have h3 : kSl (chE a c) (kPart (isNonC lo) (chE lo c)) (kPart (isNonC hi) (chE hi c)) v = true := h3
            unfold kSl at h3
            split at h3
            · exact absurd rfl hc
            · cases h3
          | _ => cases h4
    · cases h
  | asgT ts t e =>
    refine ⟨fun c st X W h x po => ?_, fun c sts X W h => (by cases h)⟩
    have h : kAsgT t (chE e c) c st = true := h
    unfold kAsgT at h
    split at h
    · rw [Bool.and_eq_true, Bool.and_eq_true, Bool.and_eq_true, Bool.not_eq_true', Bool.not_eq_true'] at h
      exact sns_asgT x h.1.1.1 h.1.2 h.2 ((snd_all B cl k e).1 c _ X W h.1.1.2 x).1
    · cases h
  | par ts i j o1 o2 a b =>
    refine ⟨fun c st X W h x po => ?_, fun c sts X W h => (by cases h)⟩
    have h : kPar i j o1 o2 a b c st = true := h
    unfold kPar at h
    split at h
    · simp only [Bool.and_eq_true, Bool.not_eq_true', decide_eq_false_iff_not] at h
      obtain ⟨⟨⟨⟨⟨⟨⟨⟨⟨⟨⟨⟨a1, a2⟩, a3⟩, a4⟩, a5⟩, a6⟩, a7⟩, a8⟩, a9⟩, a10⟩, a11⟩, a12⟩, a13⟩ := h
      have fr1 : o1 = true → isFr a = true := fun q => by
        rw [q] at a12
        simp at a12
        exact a12.1
      have fr2 : o2 = true → isFr b = true := fun q => by
        rw [q] at a13
        simp at a13
        exact a13.1
      exact sns_par x a1 a2 a3 a4 a5 a6 a7 a8 a9 a10 a11 (SndV.of ((snd_all B cl k a).1 c _ X W a10 x).1 fun q => fr_snd x a10 (fr1 q)) (SndV.of ((snd_all B cl k b).1 c _ X W a11 x).1 fun q => fr_snd x a11 (fr2 q))
    · cases h
  | exp ts e =>
    refine ⟨fun c st X W h x po => ?_, fun c sts X W h => (by cases h)⟩
    have h : kExp (chE e c) st = true := h
    unfold kExp at h
    split at h
    · rw [Bool.and_eq_true, Bool.not_eq_true'] at h
      exact sns_exp h.2 ((snd_all B cl k e).1 c _ X W h.1 x).1
    · cases h
  | ret ts e =>
    refine ⟨fun c st X W h x po => ?_, fun c sts X W h => (by cases h)⟩
    have h : kRet (chE e c) st = true := h
    unfold kRet at h
    split at h
    · exact sns_ret ((snd_all B cl k e).1 c _ X W h x).1
    · cases h
  | ret0 =>
    refine ⟨fun c st X W h x po => ?_, fun c sts X W h => (by cases h)⟩
    have h : kRet0 st = true := h
    unfold kRet0 at h
    split at h
    · exact sns_ret0
    · cases h
  | ite ts t a b iha ihb =>
    refine ⟨fun c st X W h x po => ?_, fun c sts X W h => (by cases h)⟩
    have h : kIf (chE t c) (chSs a c) (chSs b c) st = true := h
    unfold kIf at h
    split at h
    · rw [Bool.and_eq_true, Bool.and_eq_true] at h
      exact sns_ite ((snd_all B cl k t).1 c _ X W h.1.1 x).2 (iha.2 c _ X W h.1.2 x po) (ihb.2 c _ X W h.2 x po)
    · cases h
  | «for» ts t it b ihb =>
    refine ⟨fun c st X W h x po => ?_, fun c sts X W h => (by cases h)⟩
    have h : kFor t c (chI it c) (chSs b c) st = true := h
    unfold kFor at h
    split at h
    · rw [Bool.and_eq_true, Bool.and_eq_true] at h
      exact sns_for x po h.1.1 (fun v => folded_of h.1.2 X.env v) ((snd_all B cl k it).2.2 c _ _ X W h.1.2 x) (ihb.2 c _ X W h.2 x po)
    · cases h
  | whl ts t b ihb =>
    refine ⟨fun c st X W h x po => ?_, fun c sts X W h => (by cases h)⟩
    have h : kWhl (chE t c) (chSs b c) st = true := h
    unfold kWhl at h
    split at h
    · rw [Bool.and_eq_true] at h
      exact sns_whl x po ((snd_all B cl k t).1 c _ X W h.1 x).2 (ihb.2 c _ X W h.2 x po)
    · cases h
  | rse n =>
    refine ⟨fun c st X W h x po => ?_, fun c sts X W h => (by cases h)⟩
    have h : kRse n c st = true := h
    unfold kRse at h
    split at h
    · rw [Bool.and_eq_true] at h
      exact sns_rse x h.1 (of_decide_eq_true h.2)
    · cases h
  | rseF ts n e => exact ⟨fun c st X W h => (by cases h), fun c sts X W h => (by cases h)⟩
  | app ts i e =>
    refine ⟨fun c st X W h x po => ?_, fun c sts X W h => (by cases h)⟩
    have h : kApp i c (chE e c) st = true := h
    unfold kApp at h
    split at h
    · simp only [Bool.and_eq_true] at h
      obtain ⟨⟨⟨⟨a1, a2⟩, a3⟩, a4⟩, a5⟩ := h
      have e1 := of_decide_eq_true a1
      subst e1
      exact sns_app x a2 a3 a4 a5 ((snd_all B cl k e).1 c _ X W a4 x).1
    · cases h
  | setIx ts i kk v =>
    refine ⟨fun c st X W h x po => ?_, fun c sts X W h => (by cases h)⟩
    have h : kSet i c (chE kk c) (chE v c) st = true := h
    unfold kSet at h
    split at h
    · simp only [Bool.and_eq_true, Bool.not_eq_true'] at h
      obtain ⟨⟨⟨⟨a1, a2⟩, a3⟩, a4⟩, a5⟩ := h
      exact sns_set x a1 a2 a5 (notSl a3) ((snd_all B cl k kk).1 c _ X W a3 x).1 ((snd_all B cl k v).1 c _ X W a4 x).1
    · cases h
  | brk =>
    refine ⟨fun c st X W h x po => ?_, fun c sts X W h => (by cases h)⟩
    have h : kBrk st = true := h
    unfold kBrk at h
    split at h
    · exact sns_brk
    · cases h
  | cont =>
    refine ⟨fun c st X W h x po => ?_, fun c sts X W h => (by cases h)⟩
    have h : kCont st = true := h
    unfold kCont at h
    split at h
    · exact sns_cont
    · cases h
end Wk
/-! Wk, soundness 15: the defs of a text; the law. -/
namespace Wk
open PySem PySem.Spec PyProof.Rows L2
/-- a def of the text and its small form -/
structure Df where
  nm : Str
  ps : List Str
  N : List Str
  st : Stmt
/-- a text: its defs, its constants, its exceptions -/
structure Txt where
  P : List Fn
  ds : List (Nat × Df)
  gl : List (Nat × Str × D)
  xs : List (Nat × Str)
def Txt.tab (T : Txt) : List (Nat × Str × List Str) := T.ds.map fun d => (d.1, d.2.nm, d.2.ps)
def Txt.cfg (T : Txt) (d : Df) : Cfg := { N := d.N, sc := defScope d.st, fn := fun _ => true, tab := T.tab, gl := T.gl, xs := T.xs }
def scB (N ps : List Str) (sc : Scope) : Bool := decide (sc.kind = .function) && !sc.isCoroutine && !sc.isGenerator && decide N.Nodup && decide (N.take ps.length = ps) &&
  (ps.all fun x => decide (sc.names.lookup x = some .local) || decide (sc.names.lookup x = some .cell)) && (sc.names.all fun y => decide (y.2 ≠ .free))
theorem scB_ok {N ps : List Str} {sc : Scope} (h : scB N ps sc = true) : FnScope N ps sc := by
  unfold scB at h
  simp only [Bool.and_eq_true, decide_eq_true_eq, Bool.not_eq_true', List.all_eq_true, Bool.or_eq_true] at h
  obtain ⟨⟨⟨⟨⟨⟨h1, h2⟩, h3⟩, h4⟩, h5⟩, h6⟩, h7⟩ := h
  exact ⟨h1, h2, h3, h4, h5, h6, h7⟩
def Txt.dfB (T : Txt) (f : Nat) (d : Df) : Bool := match T.P[f]? with
  | some fn => scB d.N d.ps (defScope d.st) && decide (fn.np = d.ps.length) && decide (fn.ns = d.N.length) && chSs fn.body (T.cfg d) (defBody d.st)
  | none => false
/-- what the top has left of the text -/
structure Head (T : Txt) (B : Bas) (K : PySem.W.Frag) (mg : Str → Option Value) : Prop where
  hK : K = B.K
  fns : ∀ (f : Nat) (d : Df), T.ds.lookup f = some d → ∃ (fa : Addr) (fd : FuncData), Fun K d.nm d.nm d.st fa fd ∧ Binds K fd d.ps [] ∧ mg d.nm = some (.ref fa)
  gls : ∀ (g : Nat) (nm : Str) (d : D), T.gl.lookup g = some (nm, d) → ∃ u v, mg nm = some u ∧ RelV v u ∧ ∀ (B' : Bas) (z : Hp), B'.K = B.K → Rp B' z d v
  bns : ∀ x ∈ bnames, mg x = Option.none
  exs : ∀ (n : Nat) (nm : Str), T.xs.lookup n = some nm → mg nm = some (.ref (B.xa n)) ∧ PySem.W.keepIn K (.ref (B.xa n)) = true ∧ PySem.W.excIn K (B.xa n) vTail "ValueError.__new__" = true ∧
    PySem.W.subIn K (.ref (B.xa n)) (.type "BaseException") = some true ∧ PySem.W.typeIn K (.ref (B.xa n)) = some (.type "type")
theorem FnOk.fdEq {P : Program} {w : World} {K : PySem.W.Frag} {mg : Str → Option Value} {base : Heap} {CX : CXT} {k : Nat} {f : Addr} {fd fd' : FuncData} {ps : List Str} {sp : Sp} (F : FnOk P w K mg base CX k f fd ps sp) (e : fd = fd') : FnOk P w K mg base CX k f fd' ps sp := e ▸ F
theorem spF_at (B : Bas) (dp : Option Addr) (cl : CallT) (f n : Nat) : spF (B.at dp) cl f n = spF B cl f n := rfl
section
variable {T : Txt} {B : Bas} {P : Program} {w : World} {K : PySem.W.Frag} {mg : Str → Option Value} {base : Heap}
theorem spF_len {cl : CallT} {f n : Nat} {vs : List V} {H : Hp} {Q : VK} {E : XK} (h : spF B cl f n vs H Q E) : vs.length = n := by
  obtain ⟨dp, l, s, z, h1, h2, h3, h4⟩ := h
  rw [h3.length, h1]
theorem lk_map {A C : Type} (g : A → C) (f : Nat) : ∀ (l : List (Nat × A)), (l.map fun x => (x.1, g x.2)).lookup f = (l.lookup f).map g
  | [] => rfl
  | x :: l => by
    have ih := lk_map g f l
    obtain ⟨y, a⟩ := x
    rw [List.map_cons, List.lookup_cons, List.lookup_cons]
    cases h : f == y with
    | true => rfl
    | false => exact ih
theorem lk_mem {A : Type} {f : Nat} {a : A} : ∀ {l : List (Nat × A)}, l.lookup f = some a → (f, a) ∈ l
  | [], h => by cases h
  | x :: l, h => by
    obtain ⟨y, b⟩ := x
    rw [List.lookup_cons] at h
    cases q : f == y with
    | true =>
      rw [q] at h
      cases h
      have : f = y := by simpa using q
      subst this
      exact List.mem_cons_self ..
    | false =>
      rw [q] at h
      exact List.mem_cons_of_mem _ (lk_mem h)
theorem tab_get (d : Df) (f : Nat) (nm : Str) (ps : List Str) (h : (T.cfg d).tab.lookup f = some (nm, ps)) : ∃ e, T.ds.lookup f = some e ∧ e.nm = nm ∧ e.ps = ps := by
  have h : (T.ds.map fun d => (d.1, d.2.nm, d.2.ps)).lookup f = some (nm, ps) := h
  have e := lk_map (fun d : Df => (d.nm, d.ps)) f T.ds
  rw [e] at h
  cases q : T.ds.lookup f with
  | none => rw [q] at h; cases h
  | some e =>
    rw [q] at h
    cases h
    exact ⟨e, rfl, rfl, rfl⟩
/-- the context of a def's body -/
theorem xok_of (hd : Head T B K mg) {n : Nat} (ih : ∀ (f : Nat) (d : Df), T.ds.lookup f = some d → ∃ (fa : Addr) (fd : FuncData), Fun K d.nm d.nm d.st fa fd ∧ Binds K fd d.ps [] ∧ mg d.nm = some (.ref fa) ∧ FnOk P w K mg base (CX P w) n fa fd d.ps (spF B (runF T.P n) f d.ps.length))
    (d : Df) (dp : Option Addr) (hS : FnScope d.N d.ps (defScope d.st)) {q : Str} {fa : Addr} {cdv : Value} {A : Around} {outer : List PySem.Env} {s : Shared} {H : Hp} {E : XK} (hr : Room n (A.deeper (envOfC q (defScope d.st) s.heap.objs.size fa cdv))) :
    XOk (B.at dp) (runF T.P n) n (T.cfg d) (cxOf (CX P w) P w K mg base d.N q (defScope d.st) fa cdv A outer s H E) (fun cls dd _ H => E cls dd H) where
  hK := hd.hK
  hN := rfl
  sc := rfl
  nd := hS.nd
  calm := rfl
  room := hr
  tk := takes_of rfl rfl rfl rfl
  fn := rfl
  fns := fun f nm ps h => by
    obtain ⟨e, h1, rfl, rfl⟩ := tab_get d f nm ps h
    obtain ⟨fa', fd', q1, q2, q3, q4⟩ := ih f e h1
    exact ⟨fa', fd', q3, q1.kp, q2, q4⟩
  gls := fun g nm d' h => by
    obtain ⟨u, v, q1, q2, q3⟩ := hd.gls g nm d' h
    exact ⟨u, v, q1, q2, fun B' z e => q3 B' z e⟩
  bns := hd.bns
  kind := hS.kind
  exs := hd.exs
theorem start_fr {B' : Bas} {fn : Fn} {N : List Str} {l : List D} {vs : List V} {z H : Hp} (hn : fn.ns = N.length) (hl : l.length = fn.np) (hle : fn.np ≤ fn.ns) (r : RpL B' z l vs) : FrR B' H z H (startF fn l) (L2.start N vs) where
  len := by
    unfold startF L2.start
    simp [r.length, hl, hn]
  sh := fun i d e => by
    unfold startF at e
    unfold L2.start
    by_cases hi : i < l.length
    · rw [List.getElem?_append_left (by simpa using hi), List.getElem?_map] at e
      cases q : l[i]? with
      | none => rw [q] at e; cases e
      | some d' =>
        rw [q] at e
        cases e
        obtain ⟨v, q1, q2⟩ := r.get q
        refine ⟨v, ?_, q2⟩
        rw [List.getElem?_append_left (by simpa [r.length] using hi), List.getElem?_map, q1]
        rfl
    · rw [List.getElem?_append_right (by simpa using hi)] at e
      rw [List.getElem?_replicate] at e
      split at e <;> cases e
  ow := fun i d e => by
    unfold startF at e
    by_cases hi : i < l.length
    · rw [List.getElem?_append_left (by simpa using hi), List.getElem?_map] at e
      cases q : l[i]? with
      | none => rw [q] at e; cases e
      | some d' => rw [q] at e; cases e
    · rw [List.getElem?_append_right (by simpa using hi)] at e
      rw [List.getElem?_replicate] at e
      split at e <;> cases e
  inj := fun i j p d e h1 _ _ _ => by
    unfold startF at h1
    by_cases hi : i < l.length
    · rw [List.getElem?_append_left (by simpa using hi), List.getElem?_map] at h1
      cases q : l[i]? with
      | none => rw [q] at h1; cases h1
      | some d' => rw [q] at h1; cases h1
    · rw [List.getElem?_append_right (by simpa using hi)] at h1
      rw [List.getElem?_replicate] at h1
      split at h1 <;> cases h1
/-- THE DEFS: each keeps what the evaluator tells -/
theorem fns_ok (hd : Head T B K mg) (hT : ∀ x ∈ T.ds, T.dfB x.1 x.2 = true) : ∀ (n f : Nat) (d : Df), T.ds.lookup f = some d →
    ∃ (fa : Addr) (fd : FuncData), Fun K d.nm d.nm d.st fa fd ∧ Binds K fd d.ps [] ∧ mg d.nm = some (.ref fa) ∧ FnOk P w K mg base (CX P w) n fa fd d.ps (spF B (runF T.P n) f d.ps.length) := by
  intro n
  induction n with
  | zero =>
    intro f d h
    obtain ⟨fa, fd, q1, q2, q3⟩ := hd.fns f d h
    refine ⟨fa, fd, q1, q2, q3, ⟨fun vs H Q E q => spF_len q, fun A outer s H args us vs Q E _ _ _ _ q => ?_⟩⟩
    obtain ⟨dp, l, s, z, h1, h2, h3, h4⟩ := q
    exact h4.elim
  | succ n ih =>
    intro f d h
    obtain ⟨fa, fd, q1, q2, q3⟩ := hd.fns f d h
    have hb := hT (f, d) (lk_mem h)
    unfold Txt.dfB at hb
    obtain ⟨fn, hfn⟩ : ∃ fn, T.P[f]? = some fn := by
      cases q : T.P[f]? with
      | none => rw [q] at hb; cases hb
      | some fn => exact ⟨fn, rfl⟩
    rw [hfn] at hb
    simp only [Bool.and_eq_true, decide_eq_true_eq] at hb
    obtain ⟨⟨⟨b1, b2⟩, b3⟩, b4⟩ := hb
    have hS := scB_ok b1
    refine ⟨fa, fd, q1, q2, q3, Fun.okX q1 hS (fun vs H Q E q => spF_len q) fun cdv A outer s H vs Q E hr q => ?_⟩
    obtain ⟨dp, l, s', z, h1, h2, h3, h4⟩ := q
    refine ⟨WSs _ (defBody d.st), pssW, ?_⟩
    have x := xok_of (P := P) (w := w) (base := base) hd ih d dp hS (outer := outer) (H := H) (E := E) hr
    have e1 : runF T.P (n + 1) f l s' = runB (runF T.P n) fn l s' := by
      show (match T.P[f]? with
        | some fn => runB (runF T.P n) fn l s'
        | none => .bad) = _
      rw [hfn]
    rw [e1] at h4
    unfold runB at h4
    split at h4
    · rename_i hc
      refine (snd_stm (B.at dp) (runF T.P n) n fn.body).2 _ _ _ _ b4 x (passes_of rfl) (startF fn l) s' (L2.start d.N vs) z H z H _ (start_fr b3 hc.1 hc.2 h3) h2 (Gr.refl h2.le) ?_
      rcases h4.bind with ⟨fl, s1, e2, p⟩ | ⟨y, s1, e2, p⟩
      · rw [e2]
        cases fl with
        | nx r => exact fun σ z' h' _ t G => p z' h' G t _ (rp_non.mpr rfl)
        | rt d' => exact fun v z' h' t G r => p z' h' G t v r
        | bk r => exact p.elim
        | ct r => exact p.elim
      · rw [e2]
        exact fun σ z' h' t G cls dd ex => p z' h' G t cls dd ex
    · exact h4.elim
end
end Wk
/-! Wk, soundness 16: the law's own def, a round for each dice. -/
namespace Wk
open PySem PySem.Spec PyProof.Rows L2
theorem WSs.len {X : Cx} {sts : List Stmt} {Dn : Ends} {σ : L2.St} {H : Hp} (h : WSs X sts { Dn with nx := fun σ h => σ.length = X.N.length → Dn.nx σ h, ct := fun σ h => σ.length = X.N.length → Dn.ct σ h } σ H) : WSs X sts Dn σ H := fun pins s I => by
  refine thn (h pins s I) fun f s' q => ?_
  cases f with
  | next =>
    obtain ⟨σ', H', I', q⟩ := q
    exact ⟨σ', H', I', q I'.len⟩
  | brk => exact q
  | cont =>
    obtain ⟨σ', H', I', q⟩ := q
    exact ⟨σ', H', I', q I'.len⟩
  | ret u => exact q
/-- the frame at a round's start: the dice alone -/
def frD (n : Nat) : Fr := (List.replicate n Sl.no).set 1 (.sh .dice)
/-- the law's def: its names, its round, the calls' index of the rounds, how many -/
structure Lw where
  N : List Str
  st : Stmt
  b : S
  fr : Nat
  m : Int
def kLaw (L : Lw) (c : Cfg) : List Stmt → Bool
  | [.For (.Name x _) it body [] _, .Return (some (.Constant (.bool true) _ _)) _] => slotB c 1 x && locB c x && chE (.call L.fr (.cons (.var 0) (.cons (.cst (.int L.m)) .nil))) c it && chSs L.b c body
  | _ => false
def Txt.lwCfg (T : Txt) (L : Lw) : Cfg := { N := L.N, sc := defScope L.st, fn := fun _ => true, tab := T.tab, gl := T.gl, xs := T.xs }
def Txt.lwB (T : Txt) (L : Lw) : Bool := scB L.N ["script"] (defScope L.st) && decide (2 ≤ L.N.length) && kLaw L (T.lwCfg L) (defBody L.st)
def spLaw (K : PySem.W.Frag) : Sp := fun vs H Q _ => ∃ (a : Addr) (ns : List Int), vs = [.ref a] ∧ SqL K H a (ns.map V.int) ∧ ns.length ≤ 63 ∧ ∀ H', Q (.bl true) H'
section
variable {T : Txt} {B : Bas} {P : Program} {w : World} {K : PySem.W.Frag} {mg : Str → Option Value} {base : Heap}
theorem law_ok (hd : Head T B K mg) (hT : ∀ x ∈ T.ds, T.dfB x.1 x.2 = true) {L : Lw} (hL : T.lwB L = true) {n : Nat} {fa : Addr} {fd : FuncData} (F : Fun K "law" "law" L.st fa fd)
    (hrounds : ∀ ns : List Int, ns.length ≤ 63 → ∃ l s, runF T.P n L.fr [.scr ns, .int L.m] ⟨(0, 0)⟩ = .ok (.lst l) s ∧ ∀ d ∈ l, ∃ c k, d = .lst [.int c, .int k])
    (hround : ∀ c k : Int, ∃ r s, xec (runF T.P n) L.b (frD L.N.length) ⟨(c, k)⟩ = .ok (.nx r) s) :
    FnOk P w K mg base (CX P w) (n + 1) fa fd ["script"] (spLaw K) := by
  unfold Txt.lwB at hL
  simp only [Bool.and_eq_true, decide_eq_true_eq] at hL
  obtain ⟨⟨b1, b2⟩, b3⟩ := hL
  have hS := scB_ok b1
  unfold kLaw at b3
  split at b3
  · rename_i x px it body pf j p1 p2 ebody
    simp only [Bool.and_eq_true] at b3
    obtain ⟨⟨⟨c1, c2⟩, c3⟩, c4⟩ := b3
    refine Fun.okX F hS (fun vs H Q E q => ?_) fun cdv A outer s H vs Q E hr q => ?_
    · obtain ⟨a, ns, rfl, _⟩ := q
      rfl
    · obtain ⟨a, ns, rfl, hs, hlen, hq⟩ := q
      refine ⟨WSs _ (defBody L.st), pssW, ?_⟩
      have xok : ∀ dp : Option Addr, XOk (B.at dp) (runF T.P n) n (T.lwCfg L) (cxOf (CX P w) P w K mg base L.N "law" (defScope L.st) fa cdv A outer s H E) (fun cls dd _ H => E cls dd H) := fun dp =>
        xok_of (P := P) (w := w) (base := base) hd (fns_ok hd hT n) ⟨"law", ["script"], L.N, L.st⟩ dp hS (outer := outer) (H := H) (E := E) hr
      generalize hX : cxOf (CX P w) P w K mg base L.N "law" (defScope L.st) fa cdv A outer s H E = X at xok
      have po : PassesOwn (model X.prog X.w) X.A X.env X.xe := by
        rw [← hX]
        exact passes_of rfl
      have XK : X.K = K := by rw [← hX]; rfl
      have x0 := xok Option.none
      obtain ⟨l1, l2⟩ := x0.loc c2
      rw [ebody]
      have hf : ∀ v, foldedSetIterable it X.env v = pure v := fun v => folded_of (ir := .call L.fr (.cons (.var 0) (.cons (.cst (.int L.m)) .nil))) c3 X.env v
      refine WSs.of (pss_cons (ps_for po x0.calm (pi_list peW) (pg_name x0.nd (x0.slot c1) l1 l2) pssW hf) (pss_one (ps_ret pe_bl))) ?_
      -- the rounds
      have hlS : (L2.start L.N [V.ref a]).length = L.N.length := by
        unfold L2.start
        simp
        omega
      have sE := ((snd_all (B.at Option.none) (runF T.P n) n (.call L.fr (.cons (.var 0) (.cons (.cst (.int L.m)) .nil)))).1 _ it X _ c3 x0).1
      have en : EnR (B.at Option.none) H (some (.scr ns) :: List.replicate (L.N.length - 1) Option.none) (L2.start L.N [V.ref a]) := by
        refine ⟨by rw [hlS]; simp; omega, fun i d e => ?_⟩
        cases i with
        | zero =>
          simp at e
          subst e
          refine ⟨.ref a, rfl, ?_⟩
          unfold Rp
          refine ⟨a, rfl, ?_⟩
          have : (B.at Option.none).K = K := hd.hK.symm
          rw [this]
          exact hs
        | succ i =>
          have e : (List.replicate (L.N.length - 1) (Option.none : Option D))[i]? = some (some d) := e
          rw [List.getElem?_replicate] at e
          split at e <;> cases e
      have st0 : StR (B.at Option.none).dp H H ⟨(0, 0)⟩ := ⟨Same.refl H, fun p e => (nomatch e), fun p e => (nomatch e)⟩
      obtain ⟨l, s1, r1, r2⟩ := hrounds ns hlen
      refine sE _ ⟨(0, 0)⟩ _ H H _ en st0 ?_
      have ev : evE (runF T.P n) (.call L.fr (.cons (.var 0) (.cons (.cst (.int L.m)) .nil))) (some (.scr ns) :: List.replicate (L.N.length - 1) Option.none) ⟨(0, 0)⟩ = .ok (.lst l) s1 := r1
      rw [ev]
      intro z1 h1 g1 st1 v rv
      obtain ⟨a', vs, rfl, k1, k2⟩ := rp_lst.mp rv
      have ha' : h1 a' = some (.lst vs) := st1.le _ _ k1
      -- each dice is a list of two ints
      have dice : ∀ (i : Nat) (y : V), vs[i]? = some y → ∃ p c k, y = .ref p ∧ h1 p = some (.lst [.int c, .int k]) := fun i y e => by
        have hi : i < l.length := by
          rw [← k2.length]
          exact (List.getElem?_eq_some_iff.mp e).1
        have ed : l[i]? = some l[i] := List.getElem?_eq_getElem hi
        obtain ⟨y', e1, e2⟩ := k2.get ed
        rw [e] at e1
        cases e1
        obtain ⟨c, k, eck⟩ := r2 l[i] (List.getElem_mem hi)
        rw [eck] at e2
        obtain ⟨p, ws, rfl, e3, e4⟩ := rp_lst.mp e2
        unfold RpL at e4
        obtain ⟨v1, ws1, rfl, e5, e6⟩ := e4
        unfold RpL at e6
        obtain ⟨v2, ws2, rfl, e7, e8⟩ := e6
        unfold RpL at e8
        subst e8
        cases rp_int.mp e5
        cases rp_int.mp e7
        exact ⟨p, c, k, rfl, st1.le _ _ e3⟩
      refine ⟨a', rfl, ⟨vs, SqL.of ha'⟩, ?_⟩
      refine for_list (K := X.K) (a := a') (xs := vs) (fun i σ h => σ.length = X.N.length ∧ h a' = some (.lst vs) ∧ ∀ (j : Nat) (p : Addr), vs[j]? = some (.ref p) → ∃ c k, h p = some (.lst [.int c, .int k])) ⟨?_, ha', fun j p e => ?_⟩ (fun i σ h _ q => SqL.of q.2.1) (fun i y σ h e q => ?_) (fun σ h q => hq h)
      · rw [hlS, ← hX]
        rfl
      · obtain ⟨p', c, k, e1, e2⟩ := dice j _ e
        cases e1
        exact ⟨c, k, e2⟩
      · obtain ⟨q1, q2, q3⟩ := q
        obtain ⟨p, c0, k0, rfl, _⟩ := dice i y e
        obtain ⟨c, k, hp⟩ := q3 i p e
        have nap : a' ≠ p := fun ee => by
          subst ee
          rw [q2] at hp
          cases hp
          rw [List.getElem?_cons] at e
          split at e
          · cases e
          · rw [List.getElem?_cons] at e
            split at e
            · cases e
            · simp at e
        refine WSs.len ?_
        have x1 := xok (some p)
        obtain ⟨r, s2, ex⟩ := hround c k
        have hN : X.N.length = L.N.length := by rw [x1.hN]; rfl
        refine (snd_stm (B.at (some p)) (runF T.P n) n L.b).2 _ _ _ _ c4 x1 po (frD L.N.length) ⟨(c, k)⟩ _ (fun _ => Option.none) h (fun _ => Option.none) h _ ⟨?_, fun j d ej => ?_, fun j d ej => ?_, fun j j' p' d d' ej _ _ _ => ?_⟩ ⟨fun _ _ z => (nomatch z), fun _ _ => rfl, fun p' ep => ?_⟩ (Gr.refl fun _ _ z => nomatch z) ?_
        · unfold frD
          simp [q1, hN]
        · unfold frD at ej
          rw [List.getElem?_set] at ej
          split at ej
          · rename_i hj
            subst hj
            split at ej
            · cases ej
              refine ⟨.ref p, ?_, ?_⟩
              · rw [List.getElem?_set, if_pos rfl, if_pos (by rw [q1, hN]; omega)]
              · unfold Rp
                exact ⟨p, rfl, rfl⟩
            · cases ej
          · rw [List.getElem?_replicate] at ej
            split at ej <;> cases ej
        · unfold frD at ej
          rw [List.getElem?_set] at ej
          split at ej
          · split at ej <;> cases ej
          · rw [List.getElem?_replicate] at ej
            split at ej <;> cases ej
        · unfold frD at ej
          rw [List.getElem?_set] at ej
          split at ej
          · split at ej <;> cases ej
          · rw [List.getElem?_replicate] at ej
            split at ej <;> cases ej
        · cases ep
          exact hp
        · rw [ex]
          intro σ' z' h' f' t' G' hl'
          refine ⟨hl', ?_, fun j p' e' => ?_⟩
          · exact G'.keep a' _ q2 fun ee => by
              have ee : some a' = some p := ee
              cases ee
              exact nap rfl
          · obtain ⟨c', k', hp'⟩ := q3 j p' e'
            by_cases hpp : p' = p
            · subst hpp
              exact ⟨_, _, t'.at_ p' rfl⟩
            · exact ⟨c', k', G'.keep p' _ hp' fun ee => by
                have ee : some p' = some p := ee
                cases ee
                exact hpp rfl⟩
  · cases b3
end
/-- the end of a law row -/
theorem law_walk {l : PySem.W.OpenLaw} {n : Nat} {q : Program} {loose : List Str} {XP : (Str → Option Value) → Heap → Prop} {YP : World → Heap → Prop} {d : DefRec} {K : Params → PySem.W.Frag} (hn : l.most = some 63) (hdf : d.params.defaults = []) (hr : Room n callerA)
    (hY : ∀ (w : World) (h : Heap), YP w h → (K w.params).In h)
    (F : ∀ (w : World) (mg : Str → Option Value) (fa : Addr) (h : Heap), (K w.params).In h → h.Ns mainGlobals mg → mg d.name = some (.ref fa) →
      ∃ fd : FuncData, (∀ (s : Shared) (u : Value), BindsTo s fd ⟨[u], []⟩ [("script", u)]) ∧ ∀ base : Heap, (K w.params).In base → base.Ns mainGlobals mg → FnOk l.prog w (K w.params) mg base (CX l.prog w) n fa fd ["script"] (spLaw (K w.params))) :
    PySem.W.WalkO q loose XP YP l.row.toRowW d [] (fun f vs => PySem.call f vs) :=
  L2.walk_of (n := 63) (k := n) (x := "script") (CX := fun w => CX l.prog w) (sp := fun w => spLaw (K w.params)) hn (by decide) hdf hr hY F (fun _ _ a ns hl _ hS => ⟨a, ns, rfl, hS, hl, fun _ => rfl⟩) fun w H s e s' z => by
    obtain ⟨_, _, _, _, _, _, _, _, _, _, _, _, z⟩ := z
    exact z
end Wk
/-! Wk, the dice: what the law's own small defs do. Pure. -/
namespace Wk
/-! ### running -/
theorem runF_at {P : List Fn} {n f : Nat} {fn : Fn} {l : List D} {s : Sta} (h : P[f]? = some fn) : runF P (n + 1) f l s = runB (runF P n) fn l s := by
  show (match P[f]? with
    | some fn => runB (runF P n) fn l s
    | none => .bad) = _
  rw [h]
theorem runB_at {cl : CallT} {np ns : Nat} {b : S} {l : List D} {s : Sta} (h : l.length = np) (h2 : np ≤ ns) : runB cl ⟨np, ns, b⟩ l s = (xec cl b (l.map .sh ++ List.replicate (ns - np) .no) s).bind fun fl s => ofO s (endOf fl) := by
  unfold runB
  rw [if_pos ⟨h, h2⟩]
  rfl
/-! ### the defs of every law -/
def bCell : S := (.seq (.ite [0] (.cmp .eq (.var 0) (.lst .nil)) (.seq (.ret [1] (.bin .mul (.var 1) (.cst (.int 7919)))) .nop) .nop) (.seq (.ret [0, 1] (.bin .add (.ix (.var 0) (.bin .mod (.var 1) (.bi .len (.var 0)))) (.bin .mul (.bin .fdiv (.var 1) (.bi .len (.var 0))) (.cst (.int 104729))))) .nop))
def bDrawn : S := (.seq (.asg [0, 1] false 2 (.bin .mod (.bin .add (.bin .mul (.var 0) (.cst (.int 6364136223846793005))) (.bin .mul (.bin .add (.var 1) (.cst (.int 1))) (.cst (.int 1442695040888963407)))) (.cst (.int 340282366920938463463374607431768211507)))) (.seq (.asg [2] false 2 (.bin .mod (.bin .mul (.var 2) (.var 2)) (.cst (.int 340282366920938463463374607431768211297)))) (.seq (.asg [2] false 2 (.bin .mul (.bin .mul (.bin .add (.bin .mod (.var 2) (.cst (.int 18446744073709551557))) (.cst (.int 1))) (.bin .add (.bin .fdiv (.var 2) (.cst (.int 18446744073709551557))) (.cst (.int 1)))) (.var 2))) (.seq (.ret [2] (.bin .mod (.var 2) (.cst (.int 340282366920938463463374607431768211507)))) .nop))))
def bRoll (dr : Nat) : S := (.seq (.ite [0] (.cmp .ge (.ix (.var 0) (.cst (.int 0))) (.bin .pow (.cst (.int 10)) (.cst (.int 18)))) (.seq (.asg [0, 1] false 2 (.bin .mod (.ix (.var 0) (.cst (.int 0))) (.var 1))) (.seq (.setIx [0, 1] 0 (.cst (.int 0)) (.bin .fdiv (.ix (.var 0) (.cst (.int 0))) (.var 1))) (.seq (.ret [2] (.var 2)) .nop))) .nop) (.seq (.setIx [0] 0 (.cst (.int 1)) (.bin .add (.ix (.var 0) (.cst (.int 1))) (.cst (.int 1)))) (.seq (.ret [0, 1] (.bin .mod (.bin .fdiv (.call dr (.cons (.ix (.var 0) (.cst (.int 0))) (.cons (.ix (.var 0) (.cst (.int 1))) .nil))) (.cst (.int 8))) (.var 1))) .nop)))
def bRounds (ce : Nat) : S := (.seq (.ret [0, 1, 2] (.lc [2] (.nm 2) (.rng (.mx (.cst (.int 1)) (.mn (.var 1) (.bi .len (.var 0))))) (.cst (.bl true)) (.lst (.cons (.call ce (.cons (.var 0) (.cons (.var 2) .nil))) (.cons (.cst (.int 0)) .nil))))) .nop)
section
variable {P : List Fn} {n : Nat}
theorem mulOk_r {i j : Int} (h1 : -big64 < j) (h2 : j < big64) : mulOk i j = true := by
  unfold mulOk
  simp [h1, h2]
theorem mulOk_l {i j : Int} (h1 : -big64 < i) (h2 : i < big64) : mulOk i j = true := by
  unfold mulOk
  simp [h1, h2]
theorem mulOk_b {i j : Int} (h1 : 0 ≤ i) (h2 : i < bigW) (h3 : 0 ≤ j) (h4 : j < bigW) : mulOk i j = true := by
  unfold mulOk
  have : i.natAbs < bigW.natAbs := by unfold bigW at *; omega
  have : j.natAbs < bigW.natAbs := by unfold bigW at *; omega
  simp [*]
theorem bin_add {i j : Int} : binD .add (.int i) (.int j) = some (.int (i + j)) := rfl
theorem bin_sub {i j : Int} : binD .sub (.int i) (.int j) = some (.int (i - j)) := rfl
theorem bin_mul {i j : Int} (h : mulOk i j = true) : binD .mul (.int i) (.int j) = some (.int (i * j)) := by
  show (if mulOk i j then some (D.int (i * j)) else none) = _
  rw [if_pos h]
theorem bin_mod {i j : Int} (h : 0 < j) : binD .mod (.int i) (.int j) = some (.int (i % j)) := by
  show (if 0 < j then some (D.int (i % j)) else none) = _
  rw [if_pos h]
theorem bin_fdiv {i j : Int} (h : 0 < j) (h2 : j < bigW) : binD .fdiv (.int i) (.int j) = some (.int (i / j)) := by
  show (if 0 < j ∧ j < bigW then some (D.int (i / j)) else none) = _
  rw [if_pos ⟨h, h2⟩]
def M1 : Int := 340282366920938463463374607431768211507
def M2 : Int := 340282366920938463463374607431768211297
def M3 : Int := 18446744073709551557
def drawn (c k : Int) : Int :=
  let a := (c * 6364136223846793005 + (k + 1) * 1442695040888963407) % M1
  let b := a * a % M2
  ((b % M3 + 1) * (b / M3 + 1) * b) % M1
theorem drawn_ok {f : Nat} (h : P[f]? = some ⟨2, 3, bDrawn⟩) (c k : Int) (s : Sta) : runF P (n + 1) f [.int c, .int k] s = .ok (.int (drawn c k)) s := by
  rw [runF_at h, runB_at (np := 2) rfl (by decide)]
  have e1 : binD .mul (.int c) (.int 6364136223846793005) = some (.int (c * 6364136223846793005)) := bin_mul (mulOk_r (by decide) (by decide))
  have e2 : binD .mul (.int (k + 1)) (.int 1442695040888963407) = some (.int ((k + 1) * 1442695040888963407)) := bin_mul (mulOk_r (by decide) (by decide))
  have f1 : ∀ i : Int, binD .mod (.int i) (.int 340282366920938463463374607431768211507) = some (.int (i % M1)) := fun i => bin_mod (by decide)
  have f2 : ∀ i : Int, binD .mod (.int i) (.int 340282366920938463463374607431768211297) = some (.int (i % M2)) := fun i => bin_mod (by decide)
  have f3 : ∀ i : Int, binD .mod (.int i) (.int 18446744073709551557) = some (.int (i % M3)) := fun i => bin_mod (by decide)
  have f4 : ∀ i : Int, binD .fdiv (.int i) (.int 18446744073709551557) = some (.int (i / M3)) := fun i => bin_fdiv (by decide) (by decide)
  generalize ea : (c * 6364136223846793005 + (k + 1) * 1442695040888963407) % M1 = a
  have ha0 : 0 ≤ a := by rw [← ea]; exact Int.emod_nonneg _ (by decide)
  have ha1 : a < 340282366920938463463374607431768211507 := by rw [← ea]; exact Int.emod_lt_of_pos _ (by decide)
  have e3 : binD .mul (.int a) (.int a) = some (.int (a * a)) := bin_mul (mulOk_b ha0 (by unfold bigW; omega) ha0 (by unfold bigW; omega))
  generalize eb : a * a % M2 = b
  have hb0 : 0 ≤ b := by rw [← eb]; exact Int.emod_nonneg _ (by decide)
  have hb1 : b < 340282366920938463463374607431768211297 := by rw [← eb]; exact Int.emod_lt_of_pos _ (by decide)
  have x0 : 0 ≤ b % M3 := Int.emod_nonneg _ (by decide)
  have x1 : b % M3 < 18446744073709551557 := Int.emod_lt_of_pos _ (by decide)
  have y0 : 0 ≤ b / M3 := Int.ediv_nonneg hb0 (by decide)
  have y1 : b / M3 < 18446744073709551717 := by
    refine Int.ediv_lt_of_lt_mul (by decide) ?_
    unfold M3; omega
  have e4 : binD .mul (.int (b % M3 + 1)) (.int (b / M3 + 1)) = some (.int ((b % M3 + 1) * (b / M3 + 1))) := bin_mul (mulOk_l (by unfold big64; omega) (by unfold big64; omega))
  have z0 : 0 ≤ (b % M3 + 1) * (b / M3 + 1) := Int.mul_nonneg (by omega) (by omega)
  have z1 : (b % M3 + 1) * (b / M3 + 1) ≤ 18446744073709551557 * 18446744073709551717 := Int.mul_le_mul (by omega) (by omega) (by omega) (by decide)
  have e5 : binD .mul (.int ((b % M3 + 1) * (b / M3 + 1))) (.int b) = some (.int ((b % M3 + 1) * (b / M3 + 1) * b)) := bin_mul (mulOk_b z0 (by unfold bigW; omega) hb0 (by unfold bigW; omega))
  have ed : drawn c k = ((b % M3 + 1) * (b / M3 + 1) * b) % M1 := by
    unfold drawn
    rw [ea]
    show ((a * a % M2 % M3 + 1) * (a * a % M2 / M3 + 1) * (a * a % M2)) % M1 = _
    rw [eb]
  rw [ed]
  simp only [bDrawn, xec, evE, Res.bind, ofO, view, viewAt, slV, List.map_cons, List.map_nil, List.cons_append, List.nil_append, List.replicate, List.getElem?_cons_zero, List.getElem?_cons_succ, slotOf, afterE, D.scal, List.set_cons_zero, List.set_cons_succ, Nat.reduceAdd, bin_add, e1, e2, f1, f2, f3, f4, ea, e3, eb, e4, e5, Bool.false_and, if_true, if_false, Bool.false_eq_true, endOf, Nat.reduceSub]
theorem roll_ok {r dr : Nat} (h : P[r]? = some ⟨2, 3, bRoll dr⟩) (hd : P[dr]? = some ⟨2, 3, bDrawn⟩) {m : Int} (h0 : 0 < m) (h1 : m < bigW) (s : Sta) :
    ∃ t s', runF P (n + 2) r [.dice, .int m] s = .ok (.int t) s' ∧ 0 ≤ t ∧ t < m := by
  rw [runF_at h, runB_at (np := 2) rfl (by decide)]
  have pw : binD .pow (.int 10) (.int 18) = some (.int 1000000000000000000) := by rfl
  have f8 : ∀ i : Int, binD .fdiv (.int i) (.int 8) = some (.int (i / 8)) := fun i => bin_fdiv (by decide) (by decide)
  have fm : ∀ i : Int, binD .fdiv (.int i) (.int m) = some (.int (i / m)) := fun i => bin_fdiv h0 h1
  have mm : ∀ i : Int, binD .mod (.int i) (.int m) = some (.int (i % m)) := fun i => bin_mod h0
  have dr' := fun c k s => drawn_ok (n := n) hd c k s
  have key : ∀ b : Bool, decide ((1000000000000000000 : Int) ≤ s.dice.1) = b → ∃ t s', ((xec (runF P (n + 1)) (bRoll dr) (List.map Sl.sh [.dice, .int m] ++ List.replicate (3 - 2) .no) s).bind fun fl s => ofO s (endOf fl)) = .ok (.int t) s' ∧ 0 ≤ t ∧ t < m := by
    intro b hb
    cases b with
    | true =>
      refine ⟨s.dice.1 % m, ⟨(s.dice.1 / m, s.dice.2)⟩, ?_, Int.emod_nonneg _ (by omega), Int.emod_lt_of_pos _ h0⟩
      simp only [bRoll, xec, evE, Res.bind, ofO, view, viewAt, slV, List.map_cons, List.map_nil, List.cons_append, List.nil_append, List.replicate, List.getElem?_cons_zero, List.getElem?_cons_succ, slotOf, afterE, afterB, D.scal, List.set_cons_zero, List.set_cons_succ, Nat.reduceAdd, bin_add, Bool.false_and, if_true, if_false, Bool.false_eq_true, endOf, Nat.reduceSub, ixS, pw, cmpD, blD, mm, fm, isDice, Bool.or_true, setTo, Bool.and_self, consD, listD, hb]
    | false =>
      refine ⟨drawn s.dice.1 (s.dice.2 + 1) / 8 % m, ⟨(s.dice.1, s.dice.2 + 1)⟩, ?_, Int.emod_nonneg _ (by omega), Int.emod_lt_of_pos _ h0⟩
      simp only [bRoll, xec, evE, Res.bind, ofO, view, viewAt, slV, List.map_cons, List.map_nil, List.cons_append, List.nil_append, List.replicate, List.getElem?_cons_zero, List.getElem?_cons_succ, slotOf, afterE, afterB, D.scal, List.set_cons_zero, List.set_cons_succ, Nat.reduceAdd, bin_add, Bool.false_and, if_true, if_false, Bool.false_eq_true, endOf, Nat.reduceSub, ixS, pw, cmpD, blD, mm, fm, f8, isDice, Bool.or_true, setTo, Bool.and_self, consD, listD, hb, dr']
  exact key _ rfl
theorem ixAt_emod {k : Int} {m : Nat} (h : 0 < m) : ∃ j, ixAt m (k % (m : Int)) = some j ∧ j < m := by
  have a : 0 ≤ k % (m : Int) := Int.emod_nonneg _ (by omega)
  have b : k % (m : Int) < m := Int.emod_lt_of_pos _ (by omega)
  unfold ixAt
  rw [if_pos a, if_pos b]
  exact ⟨_, rfl, by omega⟩
theorem cell_ok {f : Nat} (h : P[f]? = some ⟨2, 2, bCell⟩) (ns : List Int) (hl : ns.length ≤ 63) (k : Int) (s : Sta) : ∃ c, runF P (n + 1) f [.scr ns, .int k] s = .ok (.int c) s := by
  rw [runF_at h, runB_at (np := 2) rfl (by decide)]
  have m1 : ∀ i : Int, binD .mul (.int i) (.int 7919) = some (.int (i * 7919)) := fun i => bin_mul (mulOk_r (by decide) (by decide))
  have m2 : ∀ i : Int, binD .mul (.int i) (.int 104729) = some (.int (i * 104729)) := fun i => bin_mul (mulOk_r (by decide) (by decide))
  cases ns with
  | nil =>
    refine ⟨k * 7919, ?_⟩
    simp only [bCell, xec, evE, Res.bind, ofO, view, viewAt, slV, List.map_cons, List.map_nil, List.cons_append, List.nil_append, List.replicate, List.getElem?_cons_zero, List.getElem?_cons_succ, lstD, List.length_nil, Nat.zero_le, Nat.reduceAdd, bin_add, if_true, if_false, Bool.false_eq_true, endOf, Nat.reduceSub, cmpD, eqC, blD, m1, biD, List.isEmpty_nil]
  | cons x xs =>
    generalize hy : x :: xs = ys at hl ⊢
    have h1 : 0 < ys.length := by rw [← hy]; simp
    have hp : (0 : Int) < (ys.length : Nat) := by omega
    have he : ys.isEmpty = false := by rw [← hy]; rfl
    have hw : ((ys.length : Nat) : Int) < bigW := by unfold bigW; omega
    have mm : ∀ i : Int, binD .mod (.int i) (.int (ys.length : Nat)) = some (.int (i % (ys.length : Nat))) := fun i => bin_mod hp
    have fm : ∀ i : Int, binD .fdiv (.int i) (.int (ys.length : Nat)) = some (.int (i / (ys.length : Nat))) := fun i => bin_fdiv hp hw
    obtain ⟨j, e1, e2⟩ := ixAt_emod (k := k) (m := ys.length) h1
    have e3 : ys[j]? = some ys[j] := List.getElem?_eq_getElem e2
    refine ⟨ys[j] + k / (ys.length : Nat) * 104729, ?_⟩
    simp only [bCell, xec, evE, Res.bind, ofO, view, viewAt, slV, List.map_cons, List.map_nil, List.cons_append, List.nil_append, List.replicate, List.getElem?_cons_zero, List.getElem?_cons_succ, lstD, List.length_nil, Nat.zero_le, Nat.reduceAdd, bin_add, if_true, if_false, Bool.false_eq_true, endOf, Nat.reduceSub, cmpD, eqC, blD, m2, biD, he, mm, fm, ixS, ixD, getI, e1, e3]
theorem rounds_ok' {f ce : Nat} (h : P[f]? = some ⟨2, 3, bRounds ce⟩) (hc : P[ce]? = some ⟨2, 2, bCell⟩) (m : Int) (hm : m ≤ 1000) (ns : List Int) (hl : ns.length ≤ 63) (s : Sta) :
    ∃ l s', runF P (n + 2) f [.scr ns, .int m] s = .ok (.lst l) s' ∧ ∀ d ∈ l, ∃ c k, d = .lst [.int c, .int k] := by
  rw [runF_at h, runB_at (np := 2) rfl (by decide)]
  have rg : ∃ j : Int, rngD (.int j) = some (.lst (upTo 0 j.toNat)) ∧ j ≤ 63 ∧ (mnD (.int m) (.int (ns.length : Nat))).bind (mxD (.int 1)) = some (.int j) := by
    unfold mnD mxD rngD
    have : most = 100000 := rfl
    by_cases q : (ns.length : Int) < m
    · simp only [q, if_true, Option.bind]
      by_cases q2 : (ns.length : Int) > 1
      · refine ⟨ns.length, by rw [if_pos (by omega)], by omega, by rw [if_pos q2]⟩
      · refine ⟨1, by rw [if_pos (by omega)], by omega, by rw [if_neg q2]⟩
    · simp only [q, if_false, Option.bind]
      by_cases q2 : m > 1
      · refine ⟨m, by rw [if_pos (by omega)], by omega, by rw [if_pos q2]⟩
      · refine ⟨1, by rw [if_pos (by omega)], by omega, by rw [if_neg q2]⟩
  obtain ⟨j, e1, e2, e3⟩ := rg
  obtain ⟨y, e4, e5⟩ : ∃ y, mnD (.int m) (.int (ns.length : Nat)) = some y ∧ mxD (.int 1) y = some (.int j) := by
    cases q : mnD (.int m) (.int (ns.length : Nat)) with
    | none => rw [q] at e3; cases e3
    | some y => rw [q] at e3; exact ⟨y, rfl, e3⟩
  -- the turns
  have run : ∀ (xs : List D) (acc : List D), (∀ x ∈ xs, ∃ i, x = .int i) → acc.length + xs.length ≤ most → (∀ d ∈ acc, ∃ c k, d = .lst [.int c, .int k]) →
      ∃ l, lcRun (fun x s => (ofO s (bindT (.nm 2) x (wipeE [some (.scr ns), some (.int m), none] [2]))).bind fun r' s =>
        (evE (runF P (n + 1)) (.cst (.bl true)) r' s).bind fun x s => (ofO s (blD x)).bind fun k s => if k then (evE (runF P (n + 1)) (.lst (.cons (.call ce (.cons (.var 0) (.cons (.var 2) .nil))) (.cons (.cst (.int 0)) .nil))) r' s).bind fun d s => .ok (some d) s else .ok none s) xs acc s = .ok l s ∧ ∀ d ∈ l, ∃ c k, d = .lst [.int c, .int k] := by
    intro xs
    induction xs with
    | nil => exact fun acc _ _ ha => ⟨acc, rfl, ha⟩
    | cons x xs ih =>
      intro acc hx hlen ha
      obtain ⟨i, rfl⟩ := hx x (List.mem_cons_self ..)
      obtain ⟨c, ec⟩ := cell_ok (n := n) hc ns hl i s
      have hlt : acc.length < most := by simp at hlen; omega
      obtain ⟨l, q1, q2⟩ := ih (acc ++ [.lst [.int c, .int 0]]) (fun x h => hx x (List.mem_cons_of_mem _ h)) (by simp at hlen ⊢; omega) (fun d hd => by
        rcases List.mem_append.mp hd with hd | hd
        · exact ha d hd
        · exact ⟨c, 0, by simpa using hd⟩)
      refine ⟨l, ?_, q2⟩
      unfold lcRun
      simp only [bindT, wipeE, List.set_cons_zero, List.set_cons_succ, ofO, Res.bind, evE, blD, if_true, List.getElem?_cons_zero, List.getElem?_cons_succ, consD, listD, ec, lstD, List.length_cons, List.length_nil, Nat.reduceAdd, hlt]
      exact q1
  have lim : (upTo 0 j.toNat).length ≤ most := by
    have : ∀ (k : Nat) (lo : Int), (upTo lo k).length = k := by
      intro k
      induction k with
      | zero => intro _; rfl
      | succ k ih => intro lo; simp [upTo, ih]
    rw [this]
    have : most = 100000 := rfl
    omega
  have its : ∀ (k : Nat) (lo : Int), ∀ x ∈ upTo lo k, ∃ i, x = .int i := by
    intro k
    induction k with
    | zero => intro lo x h; simp [upTo] at h
    | succ k ih =>
      intro lo x h
      simp only [upTo, List.mem_cons] at h
      rcases h with rfl | h
      · exact ⟨_, rfl⟩
      · exact ih _ x h
  obtain ⟨l, q1, q2⟩ := run (upTo 0 j.toNat) [] (its _ _) (by simpa using lim) (fun d hd => by cases hd)
  refine ⟨l, s, ?_, q2⟩
  have hv : view [0, 1, 2] (List.map Sl.sh [.scr ns, .int m] ++ List.replicate (3 - 2) .no) = [some (.scr ns), some (.int m), none] := rfl
  have hi : evE (runF P (n + 1)) (.rng (.mx (.cst (.int 1)) (.mn (.var 1) (.bi .len (.var 0))))) [some (.scr ns), some (.int m), none] s = .ok (.lst (upTo 0 j.toNat)) s := by
    simp only [evE, Res.bind, ofO, List.getElem?_cons_zero, List.getElem?_cons_succ, biD, e4, e5, e1]
  have he : evE (runF P (n + 1)) (.lc [2] (.nm 2) (.rng (.mx (.cst (.int 1)) (.mn (.var 1) (.bi .len (.var 0))))) (.cst (.bl true)) (.lst (.cons (.call ce (.cons (.var 0) (.cons (.var 2) .nil))) (.cons (.cst (.int 0)) .nil)))) [some (.scr ns), some (.int m), none] s = .ok (.lst l) s := by
    rw [evE, hi]
    show (lcRun _ (upTo 0 j.toNat) [] s).bind _ = _
    rw [q1]
    rfl
  show (((xec (runF P (n + 1)) (.ret [0, 1, 2] _) _ s).bind _).bind _) = _
  rw [xec, hv, he]
  rfl
end
end Wk
namespace Wk
/-! ### loops -/
/-- a for: by what holds of the items done -/
theorem for_done {f : D → Fr → Sta → Res Fl} (I : List D → Fr → Sta → Prop) : ∀ (l dn : List D) (r : Fr) (s : Sta), I dn r s →
    (∀ (dn' : List D) (x : D) (rest : List D) (r : Fr) (s : Sta), dn ++ l = dn' ++ x :: rest → dn.length ≤ dn'.length → I dn' r s → ∃ r' s', f x r s = .ok (.nx r') s' ∧ I (dn' ++ [x]) r' s') →
    ∃ r' s', forRun f l r s = .ok (.nx r') s' ∧ I (dn ++ l) r' s'
  | [], dn, r, s, h, _ => ⟨r, s, rfl, by simpa using h⟩
  | x :: xs, dn, r, s, h, st => by
    obtain ⟨r1, s1, e1, h1⟩ := st dn x xs r s rfl (Nat.le_refl _) h
    obtain ⟨r2, s2, e2, h2⟩ := for_done I xs (dn ++ [x]) r1 s1 h1 fun dn' y rest r s e hl h => st dn' y rest r s (by rw [← e]; simp) (by simp at hl; omega) h
    refine ⟨r2, s2, ?_, by simpa using h2⟩
    show ((f x r s).bind _) = _
    rw [e1]
    exact e2
theorem for_all {f : D → Fr → Sta → Res Fl} (I : List D → Fr → Sta → Prop) (l : List D) (r : Fr) (s : Sta) (h : I [] r s)
    (st : ∀ (dn : List D) (x : D) (rest : List D) (r : Fr) (s : Sta), l = dn ++ x :: rest → I dn r s → ∃ r' s', f x r s = .ok (.nx r') s' ∧ I (dn ++ [x]) r' s') :
    ∃ r' s', forRun f l r s = .ok (.nx r') s' ∧ I l r' s' := by
  have := for_done I l [] r s h fun dn x rest r s e _ h => st dn x rest r s (by simpa using e) h
  simpa using this
/-- a comprehension: by what holds of the items done -/
theorem lc_done {f : D → Sta → Res (Option D)} (I : List D → List D → Sta → Prop) : ∀ (l dn acc : List D) (s : Sta), I dn acc s →
    (∀ (dn' : List D) (x : D) (rest acc : List D) (s : Sta), dn ++ l = dn' ++ x :: rest → I dn' acc s → acc.length ≤ dn'.length ∧
      ((∃ s', f x s = .ok none s' ∧ I (dn' ++ [x]) acc s') ∨ (∃ d s', f x s = .ok (some d) s' ∧ I (dn' ++ [x]) (acc ++ [d]) s'))) → dn.length + l.length ≤ most →
    ∃ acc' s', lcRun f l acc s = .ok acc' s' ∧ I (dn ++ l) acc' s'
  | [], dn, acc, s, h, _, _ => ⟨acc, s, rfl, by simpa using h⟩
  | x :: xs, dn, acc, s, h, st, hm => by
    have hm' : (dn ++ [x]).length + xs.length ≤ most := by simp at hm ⊢; omega
    have nx : ∀ {acc1 s1}, I (dn ++ [x]) acc1 s1 → ∃ acc' s', lcRun f xs acc1 s1 = .ok acc' s' ∧ I ((dn ++ [x]) ++ xs) acc' s' := fun h1 =>
      lc_done I xs (dn ++ [x]) _ _ h1 (fun dn' y rest acc s e h => st dn' y rest acc s (by rw [← e]; simp) h) hm'
    obtain ⟨hl, ⟨s1, e1, h1⟩ | ⟨d, s1, e1, h1⟩⟩ := st dn x xs acc s rfl h
    · obtain ⟨a2, s2, e2, h2⟩ := nx h1
      refine ⟨a2, s2, ?_, by simpa using h2⟩
      unfold lcRun
      rw [e1]
      exact e2
    · obtain ⟨a2, s2, e2, h2⟩ := nx h1
      refine ⟨a2, s2, ?_, by simpa using h2⟩
      unfold lcRun
      rw [e1]
      have : acc.length < most := by simp at hm; omega
      show (if acc.length < most then lcRun f xs (acc ++ [d]) s1 else .bad) = _
      rw [if_pos this]
      exact e2
theorem lc_all {f : D → Sta → Res (Option D)} (I : List D → List D → Sta → Prop) (l : List D) (s : Sta) (h : I [] [] s) (hm : l.length ≤ most)
    (st : ∀ (dn : List D) (x : D) (rest acc : List D) (s : Sta), l = dn ++ x :: rest → I dn acc s → acc.length ≤ dn.length ∧
      ((∃ s', f x s = .ok none s' ∧ I (dn ++ [x]) acc s') ∨ (∃ d s', f x s = .ok (some d) s' ∧ I (dn ++ [x]) (acc ++ [d]) s'))) :
    ∃ acc' s', lcRun f l [] s = .ok acc' s' ∧ I l acc' s' := by
  have := lc_done I l [] [] s h (fun dn x rest acc s e h => st dn x rest acc s (by simpa using e) h) (by simpa using hm)
  simpa using this
/-- a comprehension that changes nothing, by its answers -/
theorem lc_map {f : D → Sta → Res (Option D)} {s : Sta} (g : D → Option D) : ∀ (l acc : List D), (∀ x ∈ l, f x s = .ok (g x) s) → acc.length + l.length ≤ most → lcRun f l acc s = .ok (acc ++ l.filterMap g) s
  | [], acc, _, _ => by simp [lcRun]
  | x :: xs, acc, h, hm => by
    unfold lcRun
    rw [h x (List.mem_cons_self ..)]
    cases q : g x with
    | none =>
      show lcRun f xs acc s = _
      rw [lc_map g xs acc (fun y hy => h y (List.mem_cons_of_mem _ hy)) (by simp at hm; omega)]
      simp [q]
    | some d =>
      have : acc.length < most := by simp at hm; omega
      show (if acc.length < most then lcRun f xs (acc ++ [d]) s else .bad) = _
      rw [if_pos this, lc_map g xs (acc ++ [d]) (fun y hy => h y (List.mem_cons_of_mem _ hy)) (by simp at hm ⊢; omega)]
      simp [q]
mutual
theorem eqD_refl : ∀ (d : D) (n : Nat), okD d n = true → eqD d d = true
  | .non, _, _ => by simp [eqD]
  | .bl _, _, _ => by simp [eqD]
  | .int _, _, _ => by simp [eqD]
  | .str _, _, _ => by simp [eqD]
  | .tup l, 0, h => by simp [okD] at h
  | .tup l, n + 1, h => by
    unfold eqD
    exact eqL_refl l n (by simpa [okD] using h)
  | .lst l, 0, h => by simp [okD] at h
  | .lst l, n + 1, h => by
    unfold eqD
    exact eqL_refl l n (by simpa [okD] using h)
  | .dct _ _, _, h => by simp [okD] at h
  | .ins _ _, _, h => by simp [okD] at h
  | .dice, _, h => by simp [okD] at h
  | .scr _, _, h => by simp [okD] at h
theorem eqL_refl : ∀ (l : List D) (n : Nat), okL l n = true → eqL l l = true
  | [], _, _ => by simp [eqL]
  | x :: xs, n, h => by
    have h' : okD x n = true ∧ okL xs n = true := by simpa [okL] using h
    unfold eqL
    rw [eqD_refl x n h'.1, eqL_refl xs n h'.2]
    rfl
end
theorem okL_of {l : List D} {n : Nat} (h : ∀ d ∈ l, okD d n = true) : okL l n = true := by
  induction l with
  | nil => simp [okL]
  | cons x xs ih =>
    unfold okL
    rw [h x (List.mem_cons_self ..), ih fun d hd => h d (List.mem_cons_of_mem _ hd)]
    rfl
theorem ne_self {d : D} (h : dataOk d = true) : cmpD .ne d d = some false := by
  have e := eqD_refl d 20 h
  show (if dataOk d && dataOk d then some (!eqD d d) else none) = _
  rw [h, e]
  rfl
theorem dataOk_lst {l : List D} (h : ∀ d ∈ l, okD d 19 = true) : dataOk (.lst l) = true := by
  unfold dataOk okD
  exact okL_of h
theorem forall_app {A : Type} {p : A → Prop} {l : List A} {x : A} (h : ∀ y ∈ l, p y) (hx : p x) : ∀ y ∈ l ++ [x], p y := by
  intro y hy
  rcases List.mem_append.mp hy with hy | hy
  · exact h y hy
  · have : y = x := by simpa using hy
    rw [this]
    exact hx
end Wk
namespace Wk
/-! ### pieces of a body, by place -/
def S.hd : S → S
  | .seq a _ => a
  | _ => .nop
def S.tl : S → S
  | .seq _ b => b
  | _ => .nop
def S.at (b : S) : Nat → S
  | 0 => b.hd
  | n + 1 => b.tl.at n
def S.from (b : S) : Nat → S
  | 0 => b
  | n + 1 => b.tl.from n
def S.fb : S → S
  | .for _ _ _ b => b
  | .whl _ _ b => b
  | x => x
def S.yes : S → S
  | .ite _ _ a _ => a
  | x => x
def S.it : S → E
  | .for _ _ e _ => e
  | .asg _ _ _ e => e
  | .ite _ e _ _ => e
  | .ret _ e => e
  | .exp _ e => e
  | .app _ _ e => e
  | _ => .nil
section
variable {cl : CallT} {r r' : Fr} {s s' : Sta}
theorem seq_nx {a b : S} (h : xec cl a r s = .ok (.nx r') s') : xec cl (.seq a b) r s = xec cl b r' s' := by
  rw [xec, h]
  rfl
theorem seq_rt {a b : S} {d : D} (h : xec cl a r s = .ok (.rt d) s') : xec cl (.seq a b) r s = .ok (.rt d) s' := by
  rw [xec, h]
  rfl
theorem for_eq {ts : List Nat} {t : Tg} {it : E} {b : S} {x : D} {l : List D} (h : evE cl it (view ts r) s = .ok x s') (hi : itemsD x = some l) :
    xec cl (.for ts t it b) r s = forRun (fun x r s => (ofO s (bindF t x r)).bind fun r' s => xec cl b r' s) l (freeze ts r) s' := by
  rw [xec, h]
  show (ofO s' (itemsD x)).bind _ = _
  rw [hi]
  rfl
theorem asg_eq {ts : List Nat} {own : Bool} {i : Nat} {e : E} {d : D} (h : evE cl e (view ts r) s = .ok d s') : xec cl (.asg ts own i e) r s = .ok (.nx ((afterE ts r d).set i (slotOf own d))) s' := by
  rw [xec, h]
  rfl
theorem ite_eq {ts : List Nat} {c : E} {a b : S} {k : Bool} (h : evE cl c (view ts r) s = .ok (.bl k) s') : xec cl (.ite ts c a b) r s = if k then xec cl a r s' else xec cl b r s' := by
  rw [xec, h]
  rfl
theorem ret_eq {ts : List Nat} {e : E} {d : D} (h : evE cl e (view ts r) s = .ok d s') : xec cl (.ret ts e) r s = .ok (.rt d) s' := by
  rw [xec, h]
  rfl
theorem exp_eq {ts : List Nat} {e : E} {d : D} (h : evE cl e (view ts r) s = .ok d s') : xec cl (.exp ts e) r s = .ok (.nx (afterE ts r d)) s' := by
  rw [xec, h]
  rfl
theorem lc_ev {vs : List Nat} {t : Tg} {it c e : E} {en : En} {x : D} {l l' : List D} {s1 s2 : Sta} (h : evE cl it en s = .ok x s1) (hi : itemsD x = some l)
    (hr : lcRun (fun x s => (ofO s (bindT t x (wipeE en vs))).bind fun r' s => (evE cl c r' s).bind fun x s => (ofO s (blD x)).bind fun k s => if k then (evE cl e r' s).bind fun d s => .ok (some d) s else .ok none s) l [] s1 = .ok l' s2) :
    evE cl (.lc vs t it c e) en s = .ok (.lst l') s2 := by
  rw [evE, h]
  show (ofO s1 (itemsD x)).bind _ = _
  rw [hi]
  show (lcRun _ l [] s1).bind _ = _
  rw [hr]
  rfl
theorem bin_lst {a b : List D} (h : a.length + b.length ≤ most) : binD .add (.lst a) (.lst b) = some (.lst (a ++ b)) := by
  show (if a.length + b.length ≤ most then some (D.lst (a ++ b)) else none) = _
  rw [if_pos h]
theorem bin_ev {o : Bop} {a b : E} {en : En} {x y d : D} {s1 s2 : Sta} (h1 : evE cl a en s = .ok x s1) (h2 : evE cl b en s1 = .ok y s2) (h : binD o x y = some d) : evE cl (.bin o a b) en s = .ok d s2 := by
  rw [evE, h1]
  show (evE cl b en s1).bind _ = _
  rw [h2]
  show ofO s2 (binD o x y) = _
  rw [h]
  rfl
theorem cmp_ev {o : Cop} {a b : E} {en : En} {x y : D} {k : Bool} {s1 s2 : Sta} (h1 : evE cl a en s = .ok x s1) (h2 : evE cl b en s1 = .ok y s2) (h : cmpD o x y = some k) : evE cl (.cmp o a b) en s = .ok (.bl k) s2 := by
  rw [evE, h1]
  show (evE cl b en s1).bind _ = _
  rw [h2]
  show (ofO s2 (cmpD o x y)).bind _ = _
  rw [h]
  rfl
theorem call_ev {f : Nat} {a : E} {en : En} {l : List D} {d : D} {s1 s2 : Sta} (h1 : evE cl a en s = .ok (.lst l) s1) (h : cl f l s1 = .ok d s2) : evE cl (.call f a) en s = .ok d s2 := by
  rw [evE, h1]
  exact h
theorem ix_ev {a b : E} {en : En} {x y d : D} {s1 s2 : Sta} (h1 : evE cl a en s = .ok x s1) (h2 : evE cl b en s1 = .ok y s2) (h : ixS s2 x y = some d) : evE cl (.ix a b) en s = .ok d s2 := by
  rw [evE, h1]
  show (evE cl b en s1).bind _ = _
  rw [h2]
  show ofO s2 (ixS s2 x y) = _
  rw [h]
  rfl
theorem cons_ev {a b : E} {en : En} {x : D} {l : List D} {s1 s2 : Sta} (h1 : evE cl a en s = .ok x s1) (h2 : evE cl b en s1 = .ok (.lst l) s2) : evE cl (.cons a b) en s = .ok (.lst (x :: l)) s2 := by
  rw [evE, h1]
  show (evE cl b en s1).bind _ = _
  rw [h2]
  rfl
theorem fn_rt {P : List Fn} {n f np ns : Nat} {b : S} {l : List D} {d : D} (h : P[f]? = some ⟨np, ns, b⟩) (hl : l.length = np) (h2 : np ≤ ns) (hx : xec (runF P n) b (l.map .sh ++ List.replicate (ns - np) .no) s = .ok (.rt d) s') : runF P (n + 1) f l s = .ok d s' := by
  rw [runF_at h, runB_at hl h2, hx]
  rfl
theorem fn_nx {P : List Fn} {n f np ns : Nat} {b : S} {l : List D} (h : P[f]? = some ⟨np, ns, b⟩) (hl : l.length = np) (h2 : np ≤ ns) (hx : xec (runF P n) b (l.map .sh ++ List.replicate (ns - np) .no) s = .ok (.nx r') s') : runF P (n + 1) f l s = .ok .non s' := by
  rw [runF_at h, runB_at hl h2, hx]
  rfl
theorem fn_exc {P : List Fn} {n f np ns : Nat} {b : S} {l : List D} {x : Exc} (h : P[f]? = some ⟨np, ns, b⟩) (hl : l.length = np) (h2 : np ≤ ns) (hx : xec (runF P n) b (l.map .sh ++ List.replicate (ns - np) .no) s = .exc x s') : runF P (n + 1) f l s = .exc x s' := by
  rw [runF_at h, runB_at hl h2, hx]
  rfl
theorem seq_exc {a b : S} {x : Exc} (h : xec cl a r s = .exc x s') : xec cl (.seq a b) r s = .exc x s' := by
  rw [xec, h]
  rfl
theorem and_t {a b : E} {en : En} {s1 : Sta} {z : Res D} (h1 : evE cl a en s = .ok (.bl true) s1) (h2 : evE cl b en s1 = z) : evE cl (.and a b) en s = z := by
  rw [evE, h1]
  exact h2
theorem and_f {a b : E} {en : En} {s1 : Sta} (h1 : evE cl a en s = .ok (.bl false) s1) : evE cl (.and a b) en s = .ok (.bl false) s1 := by
  rw [evE, h1]
  rfl
theorem and_b {a b : E} {en : En} {k j : Bool} (h1 : evE cl a en s = .ok (.bl k) s) (h2 : evE cl b en s = .ok (.bl j) s) : evE cl (.and a b) en s = .ok (.bl (k && j)) s := by
  rw [evE, h1]
  cases k
  · rfl
  · exact h2
theorem or_t {a b : E} {en : En} {s1 : Sta} (h1 : evE cl a en s = .ok (.bl true) s1) : evE cl (.or a b) en s = .ok (.bl true) s1 := by
  rw [evE, h1]
  rfl
theorem or_f {a b : E} {en : En} {s1 : Sta} {z : Res D} (h1 : evE cl a en s = .ok (.bl false) s1) (h2 : evE cl b en s1 = z) : evE cl (.or a b) en s = z := by
  rw [evE, h1]
  exact h2
theorem or_b {a b : E} {en : En} {k j : Bool} (h1 : evE cl a en s = .ok (.bl k) s) (h2 : evE cl b en s = .ok (.bl j) s) : evE cl (.or a b) en s = .ok (.bl (k || j)) s := by
  rw [evE, h1]
  cases k
  · exact h2
  · rfl
theorem not_ev {a : E} {en : En} {k : Bool} (h1 : evE cl a en s = .ok (.bl k) s') : evE cl (.not a) en s = .ok (.bl (!k)) s' := by
  rw [evE, h1]
  rfl
theorem chain_b {o p : Cop} {a b c : E} {en : En} {x y z : D} {k j : Bool} (h1 : evE cl a en s = .ok x s) (h2 : evE cl b en s = .ok y s) (h3 : cmpD o x y = some k) (h4 : evE cl c en s = .ok z s) (h5 : cmpD p y z = some j) :
    evE cl (.chain o p a b c) en s = .ok (.bl (k && j)) s := by
  rw [evE, h1]
  show ((evE cl b en s).bind _) = _
  rw [h2]
  show ((ofO s (cmpD o x y)).bind _) = _
  rw [h3]
  cases k
  · rfl
  · show ((evE cl c en s).bind _) = _
    rw [h4]
    show ((ofO s (cmpD p y z)).bind _) = _
    rw [h5]
    rfl
theorem isi_ev {a : E} {t : Ty} {en : En} {x : D} {k : Bool} (h1 : evE cl a en s = .ok x s') (h : isiD t x = some k) : evE cl (.isi a t) en s = .ok (.bl k) s' := by
  rw [evE, h1]
  show ((ofO s' (isiD t x)).bind _) = _
  rw [h]
  rfl
theorem bi_ev {a : E} {b : Bi} {en : En} {x d : D} (h1 : evE cl a en s = .ok x s') (h : biD b x = some d) : evE cl (.bi b a) en s = .ok d s' := by
  rw [evE, h1]
  show ofO s' (biD b x) = _
  rw [h]
  rfl
theorem slen_ev {vs : List Nat} {t : Tg} {it c e : E} {en : En} {x d : D} {l l' : List D} {s1 s2 : Sta} (h : evE cl it en s = .ok x s1) (hi : itemsD x = some l)
    (hr : lcRun (fun x s => (ofO s (bindT t x (wipeE en vs))).bind fun r' s => (evE cl c r' s).bind fun x s => (ofO s (blD x)).bind fun k s => if k then (evE cl e r' s).bind fun d s => .ok (some d) s else .ok none s) l [] s1 = .ok l' s2) (hd : slenD l' = some d) :
    evE cl (.slen vs t it c e) en s = .ok d s2 := by
  rw [evE, h]
  show (ofO s1 (itemsD x)).bind _ = _
  rw [hi]
  show (lcRun _ l [] s1).bind _ = _
  rw [hr]
  show ofO s2 (slenD l') = _
  rw [hd]
  rfl
theorem tup_ev {a : E} {en : En} {l : List D} (h : evE cl a en s = .ok (.lst l) s') (hl : l.length ≤ most) : evE cl (.tup a) en s = .ok (.tup l) s' := by
  rw [evE, h]
  show ofO s' (if l.length ≤ most then some (D.tup l) else none) = _
  rw [if_pos hl]
  rfl
theorem lst_ev {a : E} {en : En} {l : List D} (h : evE cl a en s = .ok (.lst l) s') (hl : l.length ≤ most) : evE cl (.lst a) en s = .ok (.lst l) s' := by
  rw [evE, h]
  show ofO s' (if l.length ≤ most then some (D.lst l) else none) = _
  rw [if_pos hl]
  rfl
theorem ite_t {c a b : E} {en : En} {s1 : Sta} {z : Res D} (h1 : evE cl c en s = .ok (.bl true) s1) (h2 : evE cl a en s1 = z) : evE cl (.ite c a b) en s = z := by
  rw [evE, h1]
  exact h2
theorem ite_f {c a b : E} {en : En} {s1 : Sta} {z : Res D} (h1 : evE cl c en s = .ok (.bl false) s1) (h2 : evE cl b en s1 = z) : evE cl (.ite c a b) en s = z := by
  rw [evE, h1]
  exact h2
theorem len_str {x : List Nat} (h : x.length ≤ most) : biD .len (.str x) = some (.int x.length) := by
  show (if x.length ≤ most then some (D.int x.length) else none) = _
  rw [if_pos h]
theorem items_str {x : List Nat} (h : x.length ≤ most) : itemsD (.str x) = some (x.map fun c => .str [c]) := by
  show (if x.length ≤ most then some (x.map fun c => D.str [c]) else none) = _
  rw [if_pos h]
theorem bin_str {a b : List Nat} (h : a.length + b.length ≤ most) : binD .add (.str a) (.str b) = some (.str (a ++ b)) := by
  show (if a.length + b.length ≤ most then some (D.str (a ++ b)) else none) = _
  rw [if_pos h]
theorem rng_ev {a : E} {en : En} {j : Int} (h : evE cl a en s = .ok (.int j) s') (h0 : -(most : Int) ≤ j) (h1 : j ≤ most) : evE cl (.rng a) en s = .ok (.lst (upTo 0 j.toNat)) s' := by
  rw [evE, h]
  show ofO s' (if -(most : Int) ≤ j ∧ j ≤ most then some (D.lst (upTo 0 j.toNat)) else none) = _
  rw [if_pos ⟨h0, h1⟩]
  rfl
theorem app_eq {ts : List Nat} {i : Nat} {e : E} {d : D} {l : List D} (h0 : r[i]? = some (.ow (.lst l))) (h : evE cl e (view ts r) s = .ok d s') (h1 : (afterE ts r d)[i]? = some (.ow (.lst l))) (hl : l.length < most) :
    xec cl (.app ts i e) r s = .ok (.nx ((afterE ts r d).set i (.ow (.lst (l ++ [d]))))) s' := by
  rw [xec, h0, h]
  show (appTo (afterE ts r d) i d s') = _
  unfold appTo
  rw [h1]
  show (if l.length < most then _ else _) = _
  rw [if_pos hl]
theorem sq {a b : S} {z : Res Fl} (h : xec cl a r s = .ok (.nx r') s') (h2 : xec cl b r' s' = z) : xec cl (.seq a b) r s = z := by
  rw [xec, h]
  exact h2
theorem ifT {ts : List Nat} {c : E} {a b : S} {z : Res Fl} (h : evE cl c (view ts r) s = .ok (.bl true) s') (h2 : xec cl a r s' = z) : xec cl (.ite ts c a b) r s = z := by
  rw [ite_eq h]
  exact h2
theorem ifF {ts : List Nat} {c : E} {a b : S} {z : Res Fl} (h : evE cl c (view ts r) s = .ok (.bl false) s') (h2 : xec cl b r s' = z) : xec cl (.ite ts c a b) r s = z := by
  rw [ite_eq h]
  exact h2
theorem nopX : xec cl .nop r s = .ok (.nx r) s := rfl
/-- a for that gathers, and leaves the dice -/
theorem for_acc {A : Type} {f : D → Fr → Sta → Res Fl} (J : List D → Fr → Prop) (enc : A → D) (mk : A → List D) (k b : Nat) : ∀ (vs : List A) (acc : List D) (r : Fr), acc.length + vs.length * k ≤ b → J acc r → (∀ a ∈ vs, (mk a).length ≤ k) →
    (∀ a ∈ vs, ∀ acc r, acc.length + k ≤ b → J acc r → ∃ r', f (enc a) r s = .ok (.nx r') s ∧ J (acc ++ mk a) r') → ∃ r', forRun f (vs.map enc) r s = .ok (.nx r') s ∧ J (acc ++ vs.flatMap mk) r'
  | [], acc, r, _, h, _, _ => ⟨r, rfl, by simpa using h⟩
  | a :: vs, acc, r, hl, h, hk, st => by
    have hk0 := hk a (List.mem_cons_self ..)
    have hl' : acc.length + (vs.length * k + k) ≤ b := by rw [List.length_cons, Nat.add_mul, Nat.one_mul] at hl; exact hl
    obtain ⟨r1, e1, h1⟩ := st a (List.mem_cons_self ..) acc r (by omega) h
    obtain ⟨r2, e2, h2⟩ := for_acc J enc mk k b vs (acc ++ mk a) r1 (by simp; omega) h1 (fun x hx => hk x (List.mem_cons_of_mem _ hx)) fun x hx => st x (List.mem_cons_of_mem _ hx)
    refine ⟨r2, ?_, by simpa using h2⟩
    show ((f (enc a) r s).bind _) = _
    rw [e1]
    exact e2
/-- a for that keeps J -/
theorem for_inv {f : D → Fr → Sta → Res Fl} (J : Fr → Prop) : ∀ (l : List D) (r : Fr) (s : Sta), J r → (∀ d ∈ l, ∀ r s, J r → ∃ r' s', f d r s = .ok (.nx r') s' ∧ J r') → ∃ r' s', forRun f l r s = .ok (.nx r') s' ∧ J r'
  | [], r, s, h, _ => ⟨r, s, rfl, h⟩
  | d :: l, r, s, h, st => by
    obtain ⟨r1, s1, e1, h1⟩ := st d (List.mem_cons_self ..) r s h
    obtain ⟨r2, s2, e2, h2⟩ := for_inv J l r1 s1 h1 fun x hx => st x (List.mem_cons_of_mem _ hx)
    refine ⟨r2, s2, ?_, h2⟩
    show ((f d r s).bind _) = _
    rw [e1]
    exact e2
theorem getI_last {A : Type} (l : List A) (d : A) : getI (l ++ [d]) (-1) = some d := by
  unfold getI ixAt
  rw [if_neg (by decide), if_pos (by simp; omega)]
  have : ((-1 : Int) + ((l ++ [d]).length : Nat)).toNat = l.length := by simp; omega
  rw [this]
  simp
theorem getI_of {A : Type} {l : List A} {t : Int} (h0 : 0 ≤ t) (h1 : t < l.length) : ∃ x ∈ l, getI l t = some x := by
  unfold getI ixAt
  rw [if_pos h0, if_pos h1]
  have hj : t.toNat < l.length := by omega
  exact ⟨l[t.toNat], List.getElem_mem hj, List.getElem?_eq_getElem hj⟩
end
end Wk
/-! Wk, the table: the defs of the program and of the laws in small form. -/
namespace Wk
/-- _wall -/
def b__wall : S := (.seq (.whl [] (.cst (.bl true)) (.seq (.nop) .nop)) .nop)
/-- is_small -/
def b_is_small : S := (.seq (.ret [0, 1, 2, 3] (.and (.isi (.var 0) .str) (.and (.chain .le .le (.var 1) (.bi .len (.var 0)) (.var 2)) (.bi .all (.lc [3] (.nm 3) (.var 0) (.cst (.bl true)) (.cmp .inn (.var 3) (.glb 0 (.str [97, 98, 99, 100, 101, 102, 103, 104, 105, 106, 107, 108, 109, 110, 111, 112, 113, 114, 115, 116, 117, 118, 119, 120, 121, 122])))))))) .nop)
/-- is_word -/
def b_is_word : S := (.seq (.ret [0, 1] (.and (.isi (.var 0) .str) (.and (.chain .le .le (.cst (.int 1)) (.bi .len (.var 0)) (.glb 2 (.int 12))) (.bi .all (.lc [1] (.nm 1) (.var 0) (.cst (.bl true)) (.cmp .inn (.var 1) (.bin .add (.glb 0 (.str [97, 98, 99, 100, 101, 102, 103, 104, 105, 106, 107, 108, 109, 110, 111, 112, 113, 114, 115, 116, 117, 118, 119, 120, 121, 122])) (.glb 1 (.str [45, 39]))))))))) .nop)
/-- _law_cell -/
def b__law_cell : S := (.seq (.ite [0] (.cmp .eq (.var 0) (.lst .nil)) (.seq (.ret [1] (.bin .mul (.var 1) (.cst (.int 7919)))) .nop) .nop) (.seq (.ret [0, 1] (.bin .add (.ix (.var 0) (.bin .mod (.var 1) (.bi .len (.var 0)))) (.bin .mul (.bin .fdiv (.var 1) (.bi .len (.var 0))) (.cst (.int 104729))))) .nop))
/-- _law_drawn -/
def b__law_drawn : S := (.seq (.asg [0, 1] false 2 (.bin .mod (.bin .add (.bin .mul (.var 0) (.cst (.int 6364136223846793005))) (.bin .mul (.bin .add (.var 1) (.cst (.int 1))) (.cst (.int 1442695040888963407)))) (.cst (.int 340282366920938463463374607431768211507)))) (.seq (.asg [2] false 2 (.bin .mod (.bin .mul (.var 2) (.var 2)) (.cst (.int 340282366920938463463374607431768211297)))) (.seq (.asg [2] false 2 (.bin .mul (.bin .mul (.bin .add (.bin .mod (.var 2) (.cst (.int 18446744073709551557))) (.cst (.int 1))) (.bin .add (.bin .fdiv (.var 2) (.cst (.int 18446744073709551557))) (.cst (.int 1)))) (.var 2))) (.seq (.ret [2] (.bin .mod (.var 2) (.cst (.int 340282366920938463463374607431768211507)))) .nop))))
/-- _law_roll -/
def b__law_roll : S := (.seq (.ite [0] (.cmp .ge (.ix (.var 0) (.cst (.int 0))) (.bin .pow (.cst (.int 10)) (.cst (.int 18)))) (.seq (.asg [0, 1] false 2 (.bin .mod (.ix (.var 0) (.cst (.int 0))) (.var 1))) (.seq (.setIx [0, 1] 0 (.cst (.int 0)) (.bin .fdiv (.ix (.var 0) (.cst (.int 0))) (.var 1))) (.seq (.ret [2] (.var 2)) .nop))) .nop) (.seq (.setIx [0] 0 (.cst (.int 1)) (.bin .add (.ix (.var 0) (.cst (.int 1))) (.cst (.int 1)))) (.seq (.ret [0, 1] (.bin .mod (.bin .fdiv (.call 21 (.cons (.ix (.var 0) (.cst (.int 0))) (.cons (.ix (.var 0) (.cst (.int 1))) .nil))) (.cst (.int 8))) (.var 1))) .nop)))
/-- _law_rounds -/
def b__law_rounds : S := (.seq (.ret [0, 1, 2] (.lc [2] (.nm 2) (.rng (.mx (.cst (.int 1)) (.mn (.var 1) (.bi .len (.var 0))))) (.cst (.bl true)) (.lst (.cons (.call 20 (.cons (.var 0) (.cons (.var 2) .nil))) (.cons (.cst (.int 0)) .nil))))) .nop)
/-- _law_read -/
def b__law_read : S := (.seq (.par [] 2 3 true false (.lst .nil) (.cst (.int 0))) (.seq (.whl [1, 3] (.cmp .lt (.var 3) (.bi .len (.var 1))) (.seq (.asg [1, 3] true 4 (.sl (.var 1) (.var 3) (.bin .add (.var 3) (.cst (.int 2))))) (.seq (.ite [1, 3] (.cmp .inn (.ix (.var 1) (.var 3)) (.cst (.str [45, 39]))) (.seq (.asg [3] true 3 (.bin .add (.var 3) (.cst (.int 1)))) .nop) (.seq (.ite [0, 4] (.and (.cmp .eq (.bi .len (.var 4)) (.cst (.int 2))) (.cmp .inn (.var 4) (.var 0))) (.seq (.app [4] 2 (.var 4)) (.seq (.asg [3] true 3 (.bin .add (.var 3) (.cst (.int 2)))) .nop)) (.seq (.ite [0, 1, 3] (.cmp .inn (.ix (.var 1) (.var 3)) (.var 0)) (.seq (.app [1, 3] 2 (.ix (.var 1) (.var 3))) (.seq (.asg [3] true 3 (.bin .add (.var 3) (.cst (.int 1)))) .nop)) (.seq (.ret [] (.cst .non)) .nop)) .nop)) .nop)) .nop))) (.seq (.ret [2] (.ite (.cmp .ne (.var 2) (.lst .nil)) (.var 2) (.cst .non))) .nop)))
/-- _law_pool -/
def b__law_pool : S := (.seq (.ret [] (.lst (.cons (.cst (.str [97])) (.cons (.cst (.str [97, 98])) (.cons (.cst (.str [98, 97])) (.cons (.cst (.str [97, 98, 99])) (.cons (.cst (.str [99, 97, 98])) (.cons (.cst (.str [98, 97, 100])) (.cons (.cst (.str [100, 97, 98])) (.cons (.cst (.str [97, 98, 98, 97])) (.cons (.cst (.str [100, 97, 45, 98])) (.cons (.cst (.str [100, 39, 97, 98])) (.cons (.cst (.str [99, 99])) (.cons (.cst (.str [97, 99, 100])) .nil)))))))))))))) .nop)
/-- _law_any -/
def b__law_any : S := (.seq (.ret [0] (.ix (.call 28 .nil) (.call 22 (.cons (.var 0) (.cons (.cst (.int 12)) .nil))))) .nop)
/-- is_number -/
def b_is_number : S := (.seq (.ret [0, 1, 2] (.and (.isi (.var 0) .int) (.and (.not (.isi (.var 0) .bool)) (.chain .le .le (.var 1) (.var 0) (.var 2))))) .nop)
/-- need_word -/
def b_need_word : S := (.seq (.ite [0] (.not (.call 7 (.cons (.var 0) .nil))) (.seq (.rse 7) .nop) .nop) .nop)
/-- is_row -/
def b_is_row : S := (.seq (.ite [0] (.or (.not (.isi (.var 0) .tup)) (.cmp .ne (.bi .len (.var 0)) (.cst (.int 3)))) (.seq (.ret [] (.cst (.bl false))) .nop) .nop) (.seq (.ret [0] (.and (.call 6 (.cons (.ix (.var 0) (.cst (.int 0))) (.cons (.cst (.int 1)) (.cons (.cst (.int 4)) .nil)))) (.and (.call 42 (.cons (.ix (.var 0) (.cst (.int 1))) (.cons (.cst (.int 0)) (.cons (.cst (.int 3)) .nil)))) (.call 6 (.cons (.ix (.var 0) (.cst (.int 2))) (.cons (.cst (.int 0)) (.cons (.cst (.int 4)) .nil))))))) .nop))
/-- is_pattern -/
def b_is_pattern : S := (.seq (.ite [0, 1] (.or (.not (.isi (.var 0) .tup)) (.or (.cmp .gt (.bi .len (.var 0)) (.cst (.int 6))) (.not (.bi .all (.lc [1] (.nm 1) (.var 0) (.cst (.bl true)) (.call 44 (.cons (.var 1) .nil))))))) (.seq (.ret [] (.cst (.bl false))) .nop) .nop) (.seq (.ret [0, 1] (.cmp .eq (.slen [1] (.nm 1) (.var 0) (.cst (.bl true)) (.ix (.var 1) (.cst (.int 0)))) (.bi .len (.var 0)))) .nop))
/-- need_pattern -/
def b_need_pattern : S := (.seq (.ite [0] (.not (.call 45 (.cons (.var 0) .nil))) (.seq (.rse 8) .nop) .nop) .nop)
/-- made -/
def b_made : S := (.seq (.asg [0] true 2 (.lst (.cons (.tup (.cons (.cst (.str [])) (.cons (.var 0) .nil))) .nil))) (.seq (.for [1] (.tp (.cons (.nm 3) (.cons (.nm 4) (.cons (.nm 5) .nil)))) (.var 1) (.seq (.asg [0, 4, 5] true 6 (.bin .add (.sl (.var 0) (.cst .non) (.bin .sub (.bi .len (.var 0)) (.var 4))) (.var 5))) (.seq (.ite [0, 4, 6] (.or (.cmp .ge (.var 4) (.bi .len (.var 0))) (.cmp .gt (.bi .len (.var 6)) (.glb 2 (.int 12)))) (.seq (.ret [] (.cst .non)) .nop) .nop) (.seq (.app [3, 6] 2 (.tup (.cons (.var 3) (.cons (.var 6) .nil)))) .nop)))) (.seq (.ret [2] (.var 2)) .nop)))
/-- forms -/
def b_forms : S := (.seq (.exp [0] (.call 43 (.cons (.var 0) .nil))) (.seq (.exp [1] (.call 46 (.cons (.var 1) .nil))) (.seq (.asg [0, 1] false 2 (.call 47 (.cons (.var 0) (.cons (.var 1) .nil)))) (.seq (.ite [2] (.cmp .isn (.var 2) (.cst .non)) (.seq (.rse 1) .nop) .nop) (.seq (.ret [2] (.var 2)) .nop)))))
/-- undone -/
def b_undone : S := (.seq (.exp [0] (.call 43 (.cons (.var 0) .nil))) (.seq (.ite [1] (.not (.call 44 (.cons (.var 1) .nil))) (.seq (.rse 8) .nop) .nop) (.seq (.asgT [1] (.tp (.cons (.nm 2) (.cons (.nm 3) (.cons (.nm 4) .nil)))) (.var 1)) (.seq (.asg [0, 4] true 5 (.sl (.var 0) (.cst .non) (.bin .sub (.bi .len (.var 0)) (.bi .len (.var 4))))) (.seq (.ret [0, 3, 4, 5] (.ite (.and (.cmp .ne (.var 5) (.cst (.str []))) (.cmp .eq (.bin .add (.var 5) (.var 4)) (.var 0))) (.tup (.cons (.var 5) (.cons (.var 3) .nil))) (.cst .non))) .nop)))))
/-- _law_pattern -/
def b__law_pattern : S := (.seq (.asg [] true 1 (.lst .nil)) (.seq (.for [0] (.nm 2) (.sl (.lst (.cons (.cst (.str [112, 108])) (.cons (.cst (.str [120])) (.cons (.cst (.str [112, 97, 115, 116])) (.cons (.cst (.str [121])) .nil))))) (.cst .non) (.call 22 (.cons (.var 0) (.cons (.cst (.int 5)) .nil)))) (.seq (.app [0, 2] 1 (.tup (.cons (.var 2) (.cons (.call 22 (.cons (.var 0) (.cons (.cst (.int 4)) .nil))) (.cons (.ix (.lst (.cons (.cst (.str [])) (.cons (.cst (.str [97])) (.cons (.cst (.str [99, 99])) (.cons (.cst (.str [97, 98, 99, 100])) .nil))))) (.call 22 (.cons (.var 0) (.cons (.cst (.int 4)) .nil)))) .nil))))) .nop)) (.seq (.ret [1] (.bi .tuple (.var 1))) .nop)))
/-- whose -/
def b_whose : S := (.seq (.exp [0] (.call 43 (.cons (.var 0) .nil))) (.seq (.ite [1, 3] (.or (.not (.isi (.var 1) .lst)) (.not (.bi .all (.lc [3] (.nm 3) (.var 1) (.cst (.bl true)) (.call 7 (.cons (.var 3) .nil)))))) (.seq (.rse 7) .nop) .nop) (.seq (.exp [2] (.call 46 (.cons (.var 2) .nil))) (.seq (.asg [] true 4 (.lst .nil)) (.seq (.for [1] (.nm 5) (.var 1) (.seq (.asg [2, 5] false 6 (.call 47 (.cons (.var 5) (.cons (.var 2) .nil)))) (.seq (.asg [0, 3, 4, 5, 6, 7] true 4 (.bin .add (.var 4) (.lc [7, 3] (.tp (.cons (.nm 7) (.cons (.nm 3) .nil))) (.ite (.cmp .notn (.var 6) (.cst .non)) (.var 6) (.lst .nil)) (.cmp .eq (.var 3) (.var 0)) (.tup (.cons (.var 5) (.cons (.var 7) .nil)))))) .nop))) (.seq (.ret [4] (.var 4)) .nop))))))
/-- _law_patterns -/
def b__law_patterns : S := (.seq (.ret [] (.tup (.cons (.tup (.cons (.cst (.str [115])) (.cons (.tup (.cons (.tup (.cons (.cst (.str [112, 108])) (.cons (.cst (.int 0)) (.cons (.cst (.str [97])) .nil)))) (.cons (.tup (.cons (.cst (.str [120])) (.cons (.cst (.int 1)) (.cons (.cst (.str [99, 99])) .nil)))) .nil))) .nil))) (.cons (.tup (.cons (.cst (.str [116])) (.cons (.tup .nil) .nil))) (.cons (.tup (.cons (.cst (.str [117])) (.cons (.tup (.cons (.tup (.cons (.cst (.str [121])) (.cons (.cst (.int 2)) (.cons (.cst (.str [])) .nil)))) .nil)) .nil))) .nil))))) .nop)
/-- is_told -/
def b_is_told : S := (.seq (.ret [0, 1] (.and (.isi (.var 0) .tup) (.and (.chain .le .le (.cst (.int 1)) (.bi .len (.var 0)) (.cst (.int 6))) (.bi .all (.lc [1] (.nm 1) (.var 0) (.cst (.bl true)) (.call 7 (.cons (.var 1) .nil))))))) .nop)
/-- is_sense -/
def b_is_sense : S := (.seq (.ite [0] (.or (.not (.isi (.var 0) .tup)) (.or (.cmp .ne (.bi .len (.var 0)) (.cst (.int 2))) (.not (.call 53 (.cons (.ix (.var 0) (.cst (.int 0))) .nil))))) (.seq (.ret [] (.cst (.bl false))) .nop) .nop) (.seq (.ret [0, 1] (.and (.isi (.ix (.var 0) (.cst (.int 1))) .tup) (.and (.cmp .le (.bi .len (.ix (.var 0) (.cst (.int 1)))) (.cst (.int 4))) (.bi .all (.lc [1] (.nm 1) (.ix (.var 0) (.cst (.int 1))) (.cst (.bl true)) (.call 53 (.cons (.var 1) .nil))))))) .nop))
/-- are_senses -/
def b_are_senses : S := (.seq (.ret [0, 1] (.and (.isi (.var 0) .tup) (.and (.cmp .le (.bi .len (.var 0)) (.cst (.int 9))) (.bi .all (.lc [1] (.nm 1) (.var 0) (.cst (.bl true)) (.call 54 (.cons (.var 1) .nil))))))) .nop)
/-- is_label -/
def b_is_label : S := (.seq (.ite [0] (.or (.not (.isi (.var 0) .str)) (.cmp .gt (.bi .len (.var 0)) (.cst (.int 2)))) (.seq (.ret [] (.cst (.bl false))) .nop) .nop) (.seq (.ret [0] (.or (.cmp .eq (.var 0) (.cst (.str []))) (.and (.chain .le .le (.cst (.str [49])) (.ix (.var 0) (.cst (.int 0))) (.cst (.str [57]))) (.cmp .inn (.sl (.var 0) (.cst (.int 1)) (.cst .non)) (.tup (.cons (.cst (.str [])) (.cons (.cst (.str [97])) (.cons (.cst (.str [98])) (.cons (.cst (.str [99])) (.cons (.cst (.str [100])) .nil)))))))))) .nop))
/-- is_link -/
def b_is_link : S := (.seq (.ite [0] (.or (.not (.isi (.var 0) .tup)) (.or (.cmp .ne (.bi .len (.var 0)) (.cst (.int 3))) (.not (.isi (.ix (.var 0) (.cst (.int 0))) .str)))) (.seq (.ret [] (.cst (.bl false))) .nop) .nop) (.seq (.ret [0] (.and (.cmp .inn (.ix (.var 0) (.cst (.int 0))) (.glb 3 (.tup [(.str [115, 101, 101]), (.str [108, 105, 107, 101]), (.str [97, 103, 97, 105, 110, 115, 116]), (.str [102, 114, 111, 109])]))) (.and (.call 7 (.cons (.ix (.var 0) (.cst (.int 1))) .nil)) (.call 56 (.cons (.ix (.var 0) (.cst (.int 2))) .nil))))) .nop))
/-- _law_shapes -/
def b__law_shapes : S := (.seq (.asg [0] true 2 (.lst (.cons (.tup (.cons (.cst (.str [])) (.cons (.var 0) .nil))) .nil))) (.seq (.for [] (.tp (.cons (.nm 3) (.cons (.nm 4) .nil))) (.call 52 .nil) (.seq (.for [1, 3, 4] (.tp (.cons (.nm 5) (.cons (.nm 6) (.cons (.nm 7) .nil)))) (.ite (.cmp .eq (.var 3) (.var 1)) (.var 4) (.tup .nil)) (.seq (.ite [0, 6, 7] (.or (.cmp .ge (.var 6) (.bi .len (.var 0))) (.cmp .gt (.bin .add (.bin .sub (.bi .len (.var 0)) (.var 6)) (.bi .len (.var 7))) (.cst (.int 12)))) (.seq (.ret [] (.cst .non)) .nop) .nop) (.seq (.app [0, 5, 6, 7] 2 (.tup (.cons (.var 5) (.cons (.bin .add (.sl (.var 0) (.cst .non) (.bin .sub (.bi .len (.var 0)) (.var 6))) (.var 7)) .nil)))) .nop))) .nop)) (.seq (.ret [2] (.var 2)) .nop)))
/-- _law_telling -/
def b__law_telling : S := (.seq (.ret [0, 1] (.bi .tuple (.lc [1] (.nm 1) (.rng (.bin .add (.cst (.int 1)) (.call 22 (.cons (.var 0) (.cons (.cst (.int 3)) .nil))))) (.cst (.bl true)) (.ix (.bin .add (.call 28 .nil) (.lst (.cons (.cst (.str [122, 122])) (.cons (.cst (.str [97, 98, 99, 99])) .nil)))) (.call 22 (.cons (.var 0) (.cons (.cst (.int 14)) .nil))))))) .nop)
/-- _law_meanings -/
def b__law_meanings : S := (.seq (.asg [] true 2 (.lst .nil)) (.seq (.for [0, 1] (.nm 3) (.rng (.call 22 (.cons (.var 0) (.cons (.bin .add (.var 1) (.cst (.int 1))) .nil)))) (.seq (.asg [0, 5] true 4 (.lc [5] (.nm 5) (.rng (.bin .mul (.call 22 (.cons (.var 0) (.cons (.cst (.int 3)) .nil))) (.call 22 (.cons (.var 0) (.cons (.cst (.int 2)) .nil))))) (.cst (.bl true)) (.call 71 (.cons (.var 0) .nil)))) (.seq (.app [0, 4] 2 (.tup (.cons (.call 71 (.cons (.var 0) .nil)) (.cons (.bi .tuple (.var 4)) .nil)))) .nop))) (.seq (.ret [2] (.bi .tuple (.var 2))) .nop)))
/-- _law_ties -/
def b__law_ties : S := (.seq (.asg [] true 2 (.lst .nil)) (.seq (.for [0, 1] (.nm 3) (.rng (.call 22 (.cons (.var 0) (.cons (.bin .add (.var 1) (.cst (.int 1))) .nil)))) (.seq (.asg [0] false 4 (.ix (.lst (.cons (.cst (.str [115, 101, 101])) (.cons (.cst (.str [108, 105, 107, 101])) (.cons (.cst (.str [97, 103, 97, 105, 110, 115, 116])) (.cons (.cst (.str [102, 114, 111, 109])) .nil))))) (.call 22 (.cons (.var 0) (.cons (.cst (.int 4)) .nil))))) (.seq (.asg [0, 4] false 5 (.tup (.cons (.var 4) (.cons (.call 29 (.cons (.var 0) .nil)) (.cons (.ix (.lst (.cons (.cst (.str [])) (.cons (.cst (.str [])) (.cons (.cst (.str [49])) (.cons (.cst (.str [49, 97])) (.cons (.cst (.str [50])) .nil)))))) (.call 22 (.cons (.var 0) (.cons (.cst (.int 5)) .nil)))) .nil))))) (.seq (.ite [2, 5] (.cmp .nin (.var 5) (.var 2)) (.seq (.app [5] 2 (.var 5)) .nop) .nop) .nop)))) (.seq (.ret [2] (.bi .tuple (.var 2))) .nop)))
/-- _law_item_of -/
def b__law_item_of : S := (.seq (.asg [0] false 2 (.ix (.lst (.cons (.cst (.str [])) (.cons (.cst (.str [115])) (.cons (.cst (.str [116])) (.cons (.cst (.str [117])) (.cons (.cst (.str [117])) (.cons (.cst (.str [117])) .nil))))))) (.call 22 (.cons (.var 0) (.cons (.cst (.int 6)) .nil))))) (.seq (.ite [1, 2] (.cmp .isn (.call 70 (.cons (.var 1) (.cons (.var 2) .nil))) (.cst .non)) (.seq (.asg [] false 2 (.cst (.str []))) .nop) .nop) (.seq (.ret [0, 1, 2] (.tup (.cons (.var 1) (.cons (.ix (.lst (.cons (.cst (.str [110, 111, 117, 110])) (.cons (.cst (.str [118, 101, 114, 98])) .nil))) (.call 22 (.cons (.var 0) (.cons (.cst (.int 2)) .nil)))) (.cons (.var 2) (.cons (.call 72 (.cons (.var 0) (.cons (.cst (.int 2)) .nil))) (.cons (.call 73 (.cons (.var 0) (.cons (.cst (.int 3)) .nil))) .nil))))))) .nop)))
/-- need_patterns -/
def b_need_patterns : S := (.seq (.ite [0, 1] (.or (.not (.isi (.var 0) .tup)) (.not (.bi .all (.lc [1] (.nm 1) (.var 0) (.cst (.bl true)) (.and (.isi (.var 1) .tup) (.cmp .eq (.bi .len (.var 1)) (.cst (.int 2)))))))) (.seq (.rse 8) .nop) .nop) (.seq (.ite [0, 2, 3] (.not (.bi .all (.lc [2, 3] (.tp (.cons (.nm 2) (.cons (.nm 3) .nil))) (.var 0) (.cst (.bl true)) (.and (.call 6 (.cons (.var 2) (.cons (.cst (.int 1)) (.cons (.cst (.int 4)) .nil)))) (.call 45 (.cons (.var 3) .nil)))))) (.seq (.rse 8) .nop) .nop) (.seq (.ite [0, 2, 3] (.cmp .lt (.slen [2, 3] (.tp (.cons (.nm 2) (.cons (.nm 3) .nil))) (.var 0) (.cst (.bl true)) (.var 2)) (.bi .len (.var 0))) (.seq (.rse 8) .nop) .nop) .nop)))
/-- _law_holders -/
def b__law_holders : S := (.seq (.asg [] true 3 (.lst .nil)) (.seq (.for [0, 1] (.nm 4) (.call 41 (.cons (.var 0) (.cons (.bi .list (.var 1)) .nil))) (.seq (.asg [1, 2, 3, 4, 5, 6] true 3 (.bin .add (.var 3) (.lc [5, 6] (.tp (.cons (.nm 5) (.cons (.nm 6) .nil))) (.call 70 (.cons (.var 4) (.cons (.ix (.ix (.var 1) (.var 4)) (.cst (.int 2))) .nil))) (.cmp .eq (.var 6) (.var 2)) (.tup (.cons (.var 4) (.cons (.var 5) .nil)))))) .nop)) (.seq (.ret [3] (.var 3)) .nop)))
/-- need_basics -/
def b_need_basics : S := (.seq (.ite [0, 1] (.or (.not (.isi (.var 0) .lst)) (.not (.bi .all (.lc [1] (.nm 1) (.var 0) (.cst (.bl true)) (.call 7 (.cons (.var 1) .nil)))))) (.seq (.rse 7) .nop) .nop) .nop)
/-- is_known -/
def b_is_known : S := (.seq (.exp [1] (.call 43 (.cons (.var 1) .nil))) (.seq (.exp [2] (.call 122 (.cons (.var 2) .nil))) (.seq (.ret [0, 1, 2] (.cmp .inn (.var 1) (.call 125 (.cons (.var 0) (.cons (.var 2) .nil))))) .nop)))
/-- ladder -/
def b_ladder : S := (.seq (.exp [1] (.call 122 (.cons (.var 1) .nil))) (.seq (.asgT [0, 1] (.tp (.cons (.nm 2) (.cons (.nm 3) .nil))) (.call 128 (.cons (.var 0) (.cons (.var 1) .nil)))) (.seq (.ret [2, 3] (.ite (.cmp .eq (.var 3) (.lst .nil)) (.var 2) (.cst .non))) .nop)))
/-- left_over -/
def b_left_over : S := (.seq (.exp [1] (.call 122 (.cons (.var 1) .nil))) (.seq (.ret [0, 1] (.ix (.call 128 (.cons (.var 0) (.cons (.var 1) .nil))) (.cst (.int 1)))) .nop))
/-- _law_known -/
def b__law_known : S := (.seq (.asg [1] false 2 (.bi .list (.var 1))) (.seq (.for [1] (.nm 3) (.var 1) (.seq (.ite [0, 3] (.cmp .inn (.var 3) (.var 0)) (.seq (.asg [0, 2, 3, 4, 5] true 2 (.bin .add (.var 2) (.lc [4, 5] (.tp (.cons (.nm 4) (.cons (.nm 5) .nil))) (.call 70 (.cons (.var 3) (.cons (.ix (.ix (.var 0) (.var 3)) (.cst (.int 2))) .nil))) (.cst (.bl true)) (.var 5)))) .nop) .nop) .nop)) (.seq (.ret [2] (.var 2)) .nop)))
/-- _law_basics -/
def b__law_basics : S := (.seq (.ret [0, 1] (.lc [1] (.nm 1) (.rng (.call 22 (.cons (.var 0) (.cons (.cst (.int 6)) .nil)))) (.cst (.bl true)) (.ix (.bin .add (.call 28 .nil) (.lst (.cons (.cst (.str [122, 122])) (.cons (.cst (.str [97, 98, 99, 99])) .nil)))) (.call 22 (.cons (.var 0) (.cons (.cst (.int 14)) .nil)))))) .nop)
/-- _law_used -/
def b__law_used : S := (.seq (.asg [] true 1 (.lst .nil)) (.seq (.for [0] (.tp (.cons (.nm 2) (.cons (.nm 3) .nil))) (.call 76 (.cons (.var 0) .nil)) (.seq (.asg [1, 3, 4] true 1 (.bin .add (.var 1) (.lc [4] (.nm 4) (.var 3) (.cmp .nin (.var 4) (.var 1)) (.var 4)))) .nop)) (.seq (.ret [1] (.var 1)) .nop)))
/-- _law_climbed -/
def b__law_climbed : S := (.seq (.par [0, 1, 2, 5] 3 4 false true (.lc [5] (.nm 5) (.call 41 (.cons (.var 0) (.cons (.bi .list (.var 1)) .nil))) (.cmp .nin (.var 5) (.var 2)) (.var 5)) (.lst .nil)) (.seq (.asg [1, 2] false 6 (.call 134 (.cons (.var 1) (.cons (.var 2) .nil)))) (.seq (.whl [] (.cst (.bl true)) (.seq (.asg [1, 3, 5, 6, 8] true 7 (.lc [5] (.nm 5) (.var 3) (.cmp .eq (.lc [8] (.nm 8) (.call 139 (.cons (.ix (.var 1) (.var 5)) .nil)) (.cmp .nin (.var 8) (.var 6)) (.var 8)) (.lst .nil)) (.var 5))) (.seq (.ite [7] (.cmp .eq (.var 7) (.lst .nil)) (.seq (.ret [3, 4] (.tup (.cons (.var 4) (.cons (.var 3) .nil)))) .nop) .nop) (.seq (.app [7] 4 (.var 7)) (.seq (.asg [3, 5, 7] true 3 (.lc [5] (.nm 5) (.var 3) (.cmp .nin (.var 5) (.var 7)) (.var 5))) (.seq (.asg [1, 6, 7] true 6 (.bin .add (.var 6) (.call 134 (.cons (.var 1) (.cons (.var 7) .nil))))) .nop)))))) .nop)))
/-- _law_is_ladder -/
def b__law_is_ladder : S := (.seq (.ite [3] (.not (.isi (.var 3) .lst)) (.seq (.ret [] (.cst (.bl false))) .nop) .nop) (.seq (.ite [3, 4] (.cmp .ne (.lc [4] (.nm 4) (.var 3) (.or (.not (.isi (.var 4) .lst)) (.cmp .eq (.var 4) (.lst .nil))) (.var 4)) (.lst .nil)) (.seq (.ret [] (.cst (.bl false))) .nop) .nop) (.seq (.par [1, 2] 5 6 true false (.lst .nil) (.call 134 (.cons (.var 1) (.cons (.var 2) .nil)))) (.seq (.for [3] (.nm 4) (.var 3) (.seq (.for [4] (.nm 7) (.var 4) (.seq (.ite [1, 2, 5, 7] (.or (.not (.isi (.var 7) .str)) (.or (.cmp .nin (.var 7) (.var 1)) (.or (.cmp .inn (.var 7) (.var 2)) (.cmp .inn (.var 7) (.var 5))))) (.seq (.ret [] (.cst (.bl false))) .nop) .nop) (.seq (.ite [1, 6, 7, 8] (.cmp .ne (.lc [8] (.nm 8) (.call 139 (.cons (.ix (.var 1) (.var 7)) .nil)) (.cmp .nin (.var 8) (.var 6)) (.var 8)) (.lst .nil)) (.seq (.ret [] (.cst (.bl false))) .nop) .nop) (.seq (.app [7] 5 (.var 7)) .nop)))) (.seq (.asg [1, 4, 6] true 6 (.bin .add (.var 6) (.call 134 (.cons (.var 1) (.cons (.var 4) .nil))))) .nop))) (.seq (.ret [1, 2, 5, 7] (.cmp .eq (.bi .len (.var 5)) (.bi .len (.lc [7] (.nm 7) (.var 1) (.cmp .nin (.var 7) (.var 2)) (.var 7))))) .nop)))))
/-- need_wish -/
def b_need_wish : S := (.seq (.ite [0] (.or (.not (.isi (.var 0) .str)) (.not (.chain .le .le (.cst (.int 1)) (.bi .len (.var 0)) (.cst (.int 12))))) (.seq (.rse 15) .nop) .nop) (.seq (.ite [0, 1] (.not (.bi .all (.lc [1] (.nm 1) (.var 0) (.cst (.bl true)) (.cmp .inn (.var 1) (.bin .add (.bin .add (.glb 0 (.str [97, 98, 99, 100, 101, 102, 103, 104, 105, 106, 107, 108, 109, 110, 111, 112, 113, 114, 115, 116, 117, 118, 119, 120, 121, 122])) (.glb 1 (.str [45, 39]))) (.cst (.str [63, 42]))))))) (.seq (.rse 15) .nop) .nop) .nop))
/-- fits -/
def b_fits : S := (.seq (.exp [0] (.call 43 (.cons (.var 0) .nil))) (.seq (.exp [1] (.call 147 (.cons (.var 1) .nil))) (.seq (.ret [0, 1] (.call 148 (.cons (.var 0) (.cons (.var 1) .nil)))) .nop)))
/-- _law_fits -/
def b__law_fits : S := (.seq (.ite [1] (.cmp .eq (.var 1) (.cst (.str []))) (.seq (.ret [0] (.cmp .eq (.var 0) (.cst (.str [])))) .nop) .nop) (.seq (.ite [1] (.cmp .eq (.ix (.var 1) (.cst (.int 0))) (.cst (.str [42]))) (.seq (.ret [0, 1, 2] (.cmp .ne (.lc [2] (.nm 2) (.rng (.bin .add (.bi .len (.var 0)) (.cst (.int 1)))) (.call 151 (.cons (.sl (.var 0) (.var 2) (.cst .non)) (.cons (.sl (.var 1) (.cst (.int 1)) (.cst .non)) .nil))) (.var 2)) (.lst .nil))) .nop) .nop) (.seq (.ret [0, 1] (.and (.cmp .ne (.var 0) (.cst (.str []))) (.and (.cmp .inn (.ix (.var 1) (.cst (.int 0))) (.tup (.cons (.cst (.str [63])) (.cons (.ix (.var 0) (.cst (.int 0))) .nil)))) (.call 151 (.cons (.sl (.var 0) (.cst (.int 1)) (.cst .non)) (.cons (.sl (.var 1) (.cst (.int 1)) (.cst .non)) .nil)))))) .nop)))
/-- _law_slips -/
def b__law_slips : S := (.seq (.asg [] true 1 (.lst .nil)) (.seq (.for [0] (.nm 2) (.rng (.bin .add (.bi .len (.var 0)) (.cst (.int 1)))) (.seq (.for [] (.nm 3) (.cst (.str [97, 98, 99, 100, 45, 39, 120, 122])) (.seq (.asg [0, 1, 2, 3] true 1 (.bin .add (.var 1) (.lst (.cons (.bin .add (.bin .add (.sl (.var 0) (.cst .non) (.var 2)) (.var 3)) (.sl (.var 0) (.var 2) (.cst .non))) (.cons (.bin .add (.bin .add (.sl (.var 0) (.cst .non) (.var 2)) (.var 3)) (.sl (.var 0) (.bin .add (.var 2) (.cst (.int 1))) (.cst .non))) .nil))))) .nop)) (.seq (.asg [0, 1, 2] true 1 (.bin .add (.var 1) (.lst (.cons (.bin .add (.sl (.var 0) (.cst .non) (.var 2)) (.sl (.var 0) (.bin .add (.var 2) (.cst (.int 1))) (.cst .non))) .nil)))) (.seq (.par [0, 2] 4 5 true true (.sl (.var 0) (.var 2) (.bin .add (.var 2) (.cst (.int 1)))) (.sl (.var 0) (.bin .add (.var 2) (.cst (.int 1))) (.bin .add (.var 2) (.cst (.int 2))))) (.seq (.app [0, 2, 4, 5] 1 (.bin .add (.bin .add (.bin .add (.sl (.var 0) (.cst .non) (.var 2)) (.var 5)) (.var 4)) (.sl (.var 0) (.bin .add (.var 2) (.cst (.int 2))) (.cst .non)))) .nop))))) (.seq (.ret [0, 1, 4] (.lc [4] (.nm 4) (.var 1) (.cmp .ne (.var 4) (.var 0)) (.var 4))) .nop)))
/-- one_part -/
def b_one_part : S := (.seq (.ite [0, 1, 2] (.or (.cmp .eq (.var 1) (.var 2)) (.cmp .eq (.var 2) (.var 0))) (.seq (.ret [1] (.tup (.cons (.var 1) .nil))) .nop) .nop) (.seq (.ret [0, 1, 2] (.ite (.cmp .eq (.var 1) (.var 0)) (.tup (.cons (.var 2) .nil)) (.tup .nil))) .nop))
/-- all_clashes -/
def b_all_clashes : S := (.seq (.asg [] true 3 (.lst .nil)) (.seq (.for [0, 1, 2] (.nm 4) (.call 163 (.cons (.var 0) (.cons (.var 1) (.cons (.var 2) .nil)))) (.seq (.asg [0, 1, 2, 3, 4, 5] true 3 (.bin .add (.var 3) (.lc [5] (.nm 5) (.call 165 (.cons (.var 0) (.cons (.var 1) (.cons (.var 2) (.cons (.var 4) .nil))))) (.cst (.bl true)) (.tup (.cons (.var 4) (.cons (.var 5) .nil)))))) .nop)) (.seq (.ret [3] (.var 3)) .nop)))
/-- clashes -/
def b_clashes : S := (.seq (.exp [0, 1, 2] (.call 161 (.cons (.var 0) (.cons (.var 1) (.cons (.var 2) .nil))))) (.seq (.ret [0, 1, 2] (.call 166 (.cons (.var 0) (.cons (.var 1) (.cons (.var 2) .nil))))) .nop))
/-- _law_part -/
def b__law_part : S := (.seq (.ite [1, 2] (.cmp .eq (.var 1) (.var 2)) (.seq (.ret [1] (.lst (.cons (.var 1) .nil))) .nop) .nop) (.seq (.ite [0, 1] (.cmp .eq (.var 1) (.var 0)) (.seq (.ret [2] (.lst (.cons (.var 2) .nil))) .nop) .nop) (.seq (.ret [0, 1, 2] (.ite (.cmp .eq (.var 2) (.var 0)) (.lst (.cons (.var 1) .nil)) (.lst .nil))) .nop)))
/-- need_keeper -/
def b_need_keeper : S := (.seq (.ite [0] (.not (.call 6 (.cons (.var 0) (.cons (.cst (.int 1)) (.cons (.cst (.int 4)) .nil))))) (.seq (.rse 12) .nop) .nop) .nop)
/-- _law_deed_of -/
def b__law_deed_of : S := (.seq (.par [0] 1 2 false false (.ix (.lst (.cons (.cst (.str [97, 110, 110])) (.cons (.cst (.str [98, 111, 98])) (.cons (.cst (.str [99])) .nil)))) (.call 22 (.cons (.var 0) (.cons (.cst (.int 3)) .nil)))) (.call 22 (.cons (.var 0) (.cons (.cst (.int 5)) .nil)))) (.seq (.ite [2] (.cmp .lt (.var 2) (.cst (.int 3))) (.seq (.ret [0, 1] (.tup (.cons (.var 1) (.cons (.cst (.str [112, 117, 116])) (.cons (.call 74 (.cons (.var 0) (.cons (.call 29 (.cons (.var 0) .nil)) .nil))) .nil))))) .nop) .nop) (.seq (.ret [0, 1, 2] (.ite (.cmp .eq (.var 2) (.cst (.int 3))) (.tup (.cons (.var 1) (.cons (.cst (.str [100, 114, 111, 112])) (.cons (.call 29 (.cons (.var 0) .nil)) .nil)))) (.tup (.cons (.var 1) (.cons (.cst (.str [114, 101, 110, 97, 109, 101])) (.cons (.call 29 (.cons (.var 0) .nil)) (.cons (.call 29 (.cons (.var 0) .nil)) .nil))))))) .nop)))
/-- _law_rows_like -/
def b__law_rows_like : S := (.seq (.asg [1, 3] true 2 (.lc [3] (.nm 3) (.var 1) (.cst (.bl true)) (.ite (.cmp .eq (.ix (.var 3) (.cst (.int 1))) (.cst (.str [112, 117, 116]))) (.tup (.cons (.ix (.var 3) (.cst (.int 0))) (.cons (.cst (.str [112, 117, 116])) (.cons (.call 75 (.cons (.ix (.var 3) (.cst (.int 2))) .nil)) .nil)))) (.var 3)))) (.seq (.ret [0, 2] (.cmp .eq (.var 0) (.var 2))) .nop))
/-- goal_name -/
def b_goal_name : S := (.seq (.asgT [2] (.tp (.cons (.nm 3) (.cons (.nm 4) .nil))) (.var 2)) (.seq (.asg [0, 1, 3] false 5 (.call 216 (.cons (.var 0) (.cons (.var 1) (.cons (.var 3) .nil))))) (.seq (.ite [5] (.cmp .isn (.var 5) (.cst .non)) (.seq (.ret [] (.cst .non)) .nop) .nop) (.seq (.asg [0, 1, 3, 4, 5] false 6 (.call 217 (.cons (.var 0) (.cons (.var 1) (.cons (.var 3) (.cons (.var 5) (.cons (.var 4) .nil))))))) (.seq (.ret [5, 6] (.ite (.cmp .isn (.var 6) (.cst .non)) (.cst .non) (.tup (.cons (.var 5) (.cons (.var 6) .nil))))) .nop)))))
/-- first_unled -/
def b_first_unled : S := (.seq (.exp [0, 1] (.call 215 (.cons (.var 0) (.cons (.var 1) .nil)))) (.seq (.for [0] (.nm 2) (.call 219 (.cons (.var 0) .nil)) (.seq (.ite [0, 1, 2] (.cmp .isn (.call 218 (.cons (.var 0) (.cons (.var 1) (.cons (.var 2) .nil)))) (.cst .non)) (.seq (.ret [2] (.var 2)) .nop) .nop) .nop)) (.seq (.ret [] (.cst .non)) .nop)))
/-- leading -/
def b_leading : S := (.seq (.exp [0, 1] (.call 215 (.cons (.var 0) (.cons (.var 1) .nil)))) (.seq (.asg [0, 1, 3] true 2 (.lc [3] (.nm 3) (.call 219 (.cons (.var 0) .nil)) (.cst (.bl true)) (.tup (.cons (.var 3) (.cons (.call 218 (.cons (.var 0) (.cons (.var 1) (.cons (.var 3) .nil)))) .nil))))) (.seq (.ret [2, 4] (.lc [4] (.nm 4) (.var 2) (.cmp .notn (.ix (.var 4) (.cst (.int 1))) (.cst .non)) (.var 4))) .nop)))
/-- _law_goal -/
def b__law_goal : S := (.seq (.ite [2, 3] (.cmp .inn (.var 3) (.var 2)) (.seq (.ret [3] (.var 3)) .nop) .nop) (.seq (.asg [1, 2, 3, 5] true 4 (.lc [5] (.nm 5) (.var 2) (.and (.cmp .nin (.var 5) (.var 1)) (.cmp .eq (.ix (.ix (.var 2) (.var 5)) (.cst (.int 3))) (.ix (.ix (.var 1) (.var 3)) (.cst (.int 3))))) (.var 5))) (.seq (.ret [4] (.ite (.cmp .eq (.bi .len (.var 4)) (.cst (.int 1))) (.ix (.var 4) (.cst (.int 0))) (.cst .non))) .nop)))
/-- _law_led -/
def b__law_led : S := (.seq (.asg [0, 1, 2, 3] false 5 (.call 223 (.cons (.var 0) (.cons (.var 1) (.cons (.var 2) (.cons (.var 3) .nil)))))) (.seq (.ite [4, 5] (.or (.cmp .isn (.var 5) (.cst .non)) (.cmp .eq (.var 4) (.cst (.str [])))) (.seq (.ret [5] (.ite (.cmp .isn (.var 5) (.cst .non)) (.cst .non) (.tup (.cons (.var 5) (.cons (.cst (.str [])) .nil))))) .nop) .nop) (.seq (.asg [1, 3, 4, 7, 8] false 6 (.ix (.lc [7, 8] (.tp (.cons (.nm 7) (.cons (.nm 8) .nil))) (.call 76 (.cons (.ix (.var 1) (.var 3)) .nil)) (.cmp .eq (.var 7) (.var 4)) (.var 8)) (.cst (.int 0)))) (.seq (.asg [2, 5, 6, 7, 8] true 9 (.lc [7, 8] (.tp (.cons (.nm 7) (.cons (.nm 8) .nil))) (.call 76 (.cons (.ix (.var 2) (.var 5)) .nil)) (.cmp .eq (.var 8) (.var 6)) (.var 7))) (.seq (.ret [5, 9] (.ite (.cmp .ne (.var 9) (.lst .nil)) (.tup (.cons (.var 5) (.cons (.ix (.var 9) (.cst (.int 0))) .nil))) (.cst .non))) .nop)))))
/-- _law_goal -/
def b__law_goal_1 : S := (.seq (.ite [1, 2] (.cmp .inn (.var 2) (.var 1)) (.seq (.ret [2] (.var 2)) .nop) .nop) (.seq (.asg [0, 1, 2, 4] true 3 (.lc [4] (.nm 4) (.var 1) (.and (.cmp .nin (.var 4) (.var 0)) (.cmp .eq (.ix (.ix (.var 1) (.var 4)) (.cst (.int 3))) (.ix (.ix (.var 0) (.var 2)) (.cst (.int 3))))) (.var 4))) (.seq (.ret [3] (.ite (.cmp .eq (.bi .len (.var 3)) (.cst (.int 1))) (.ix (.var 3) (.cst (.int 0))) (.cst .non))) .nop)))
/-- _law_led -/
def b__law_led_1 : S := (.seq (.asg [0, 1, 2] false 4 (.call 227 (.cons (.var 0) (.cons (.var 1) (.cons (.var 2) .nil))))) (.seq (.ite [3, 4] (.or (.cmp .isn (.var 4) (.cst .non)) (.cmp .eq (.var 3) (.cst (.str [])))) (.seq (.ret [4] (.ite (.cmp .isn (.var 4) (.cst .non)) (.cst .non) (.tup (.cons (.var 4) (.cons (.cst (.str [])) .nil))))) .nop) .nop) (.seq (.asg [0, 2, 3, 6, 7] false 5 (.ix (.lc [6, 7] (.tp (.cons (.nm 6) (.cons (.nm 7) .nil))) (.call 76 (.cons (.ix (.var 0) (.var 2)) .nil)) (.cmp .eq (.var 6) (.var 3)) (.var 7)) (.cst (.int 0)))) (.seq (.asg [1, 4, 5, 6, 7] true 8 (.lc [6, 7] (.tp (.cons (.nm 6) (.cons (.nm 7) .nil))) (.call 76 (.cons (.ix (.var 1) (.var 4)) .nil)) (.cmp .eq (.var 7) (.var 5)) (.var 6))) (.seq (.ret [4, 8] (.ite (.cmp .ne (.var 8) (.lst .nil)) (.tup (.cons (.var 4) (.cons (.ix (.var 8) (.cst (.int 0))) .nil))) (.cst .non))) .nop)))))
/-- need_wide -/
def b_need_wide : S := (.seq (.ite [0] (.not (.call 42 (.cons (.var 0) (.cons (.cst (.int 12)) (.cons (.cst (.int 60)) .nil))))) (.seq (.rse 11) .nop) .nop) .nop)
/-- need_high -/
def b_need_high : S := (.seq (.ite [0] (.not (.call 42 (.cons (.var 0) (.cons (.cst (.int 4)) (.cons (.cst (.int 60)) .nil))))) (.seq (.rse 11) .nop) .nop) .nop)
/-- dashed -/
def b_dashed : S := (.seq (.ret [0] (.ite (.cmp .ne (.var 0) (.cst (.str []))) (.var 0) (.cst (.str [45])))) .nop)
/-- _law_word_is -/
def b__law_word_is : S := (.seq (.ret [0, 1] (.and (.chain .le .le (.cst (.int 1)) (.bi .len (.var 0)) (.cst (.int 12))) (.cmp .eq (.lc [1] (.nm 1) (.var 0) (.cmp .nin (.var 1) (.cst (.str [97, 98, 99, 100, 101, 102, 103, 104, 105, 106, 107, 108, 109, 110, 111, 112, 113, 114, 115, 116, 117, 118, 119, 120, 121, 122, 45, 39]))) (.var 1)) (.lst .nil)))) .nop)
/-- _law_small_is -/
def b__law_small_is : S := (.seq (.ret [0, 1, 2, 3] (.and (.chain .le .le (.var 1) (.bi .len (.var 0)) (.var 2)) (.cmp .eq (.lc [3] (.nm 3) (.var 0) (.not (.chain .le .le (.cst (.str [97])) (.var 3) (.cst (.str [122])))) (.var 3)) (.lst .nil)))) .nop)
/-- need -/
def b_need : S := (.seq (.ite [0] (.not (.var 0)) (.seq (.rse 5) .nop) .nop) .nop)
/-- figure -/
def b_figure : S := (.seq (.exp [0, 1] (.call 269 (.cons (.and (.chain .lt .lt (.cst (.int 0)) (.bi .len (.var 0)) (.cst (.int 10))) (.bi .all (.lc [1] (.nm 1) (.var 0) (.cst (.bl true)) (.cmp .inn (.var 1) (.cst (.str [48, 49, 50, 51, 52, 53, 54, 55, 56, 57])))))) .nil))) (.seq (.ret [0] (.bi .int (.var 0))) .nop))
/-- the table of the defs -/
def P : List Fn := [⟨1, 1, b__wall⟩, ⟨0, 0, .brk⟩, ⟨0, 0, .brk⟩, ⟨0, 0, .brk⟩, ⟨0, 0, .brk⟩, ⟨0, 0, .brk⟩, ⟨3, 4, b_is_small⟩, ⟨1, 2, b_is_word⟩, ⟨0, 0, .brk⟩, ⟨0, 0, .brk⟩, ⟨0, 0, .brk⟩, ⟨0, 0, .brk⟩, ⟨0, 0, .brk⟩, ⟨0, 0, .brk⟩, ⟨0, 0, .brk⟩, ⟨0, 0, .brk⟩, ⟨0, 0, .brk⟩, ⟨0, 0, .brk⟩, ⟨0, 0, .brk⟩, ⟨0, 0, .brk⟩, ⟨2, 2, b__law_cell⟩, ⟨2, 3, b__law_drawn⟩, ⟨2, 3, b__law_roll⟩, ⟨2, 3, b__law_rounds⟩, ⟨0, 0, .brk⟩, ⟨0, 0, .brk⟩, ⟨0, 0, .brk⟩, ⟨2, 5, b__law_read⟩, ⟨0, 0, b__law_pool⟩, ⟨1, 1, b__law_any⟩, ⟨0, 0, .brk⟩, ⟨0, 0, .brk⟩, ⟨0, 0, .brk⟩, ⟨0, 0, .brk⟩, ⟨0, 0, .brk⟩, ⟨0, 0, .brk⟩, ⟨0, 0, .brk⟩, ⟨0, 0, .brk⟩, ⟨0, 0, .brk⟩, ⟨0, 0, .brk⟩, ⟨0, 0, .brk⟩, ⟨0, 0, .brk⟩, ⟨3, 3, b_is_number⟩, ⟨1, 1, b_need_word⟩, ⟨1, 1, b_is_row⟩, ⟨1, 2, b_is_pattern⟩, ⟨1, 1, b_need_pattern⟩, ⟨2, 7, b_made⟩, ⟨2, 3, b_forms⟩, ⟨2, 6, b_undone⟩, ⟨1, 3, b__law_pattern⟩, ⟨3, 8, b_whose⟩, ⟨0, 0, b__law_patterns⟩, ⟨1, 2, b_is_told⟩, ⟨1, 2, b_is_sense⟩, ⟨1, 2, b_are_senses⟩, ⟨1, 1, b_is_label⟩, ⟨1, 1, b_is_link⟩, ⟨0, 0, .brk⟩, ⟨0, 0, .brk⟩, ⟨0, 0, .brk⟩, ⟨0, 0, .brk⟩, ⟨0, 0, .brk⟩, ⟨0, 0, .brk⟩, ⟨0, 0, .brk⟩, ⟨0, 0, .brk⟩, ⟨0, 0, .brk⟩, ⟨0, 0, .brk⟩, ⟨0, 0, .brk⟩, ⟨0, 0, .brk⟩, ⟨2, 8, b__law_shapes⟩, ⟨1, 2, b__law_telling⟩, ⟨2, 6, b__law_meanings⟩, ⟨2, 6, b__law_ties⟩, ⟨2, 3, b__law_item_of⟩, ⟨0, 0, .brk⟩, ⟨0, 0, .brk⟩, ⟨0, 0, .brk⟩, ⟨0, 0, .brk⟩, ⟨0, 0, .brk⟩, ⟨0, 0, .brk⟩, ⟨0, 0, .brk⟩, ⟨0, 0, .brk⟩, ⟨0, 0, .brk⟩, ⟨0, 0, .brk⟩, ⟨0, 0, .brk⟩, ⟨1, 4, b_need_patterns⟩, ⟨0, 0, .brk⟩, ⟨0, 0, .brk⟩, ⟨0, 0, .brk⟩, ⟨0, 0, .brk⟩, ⟨0, 0, .brk⟩, ⟨0, 0, .brk⟩, ⟨0, 0, .brk⟩, ⟨0, 0, .brk⟩, ⟨0, 0, .brk⟩, ⟨0, 0, .brk⟩, ⟨0, 0, .brk⟩, ⟨0, 0, .brk⟩, ⟨0, 0, .brk⟩, ⟨0, 0, .brk⟩, ⟨0, 0, .brk⟩, ⟨0, 0, .brk⟩, ⟨0, 0, .brk⟩, ⟨0, 0, .brk⟩, ⟨0, 0, .brk⟩, ⟨0, 0, .brk⟩, ⟨0, 0, .brk⟩, ⟨0, 0, .brk⟩, ⟨0, 0, .brk⟩, ⟨0, 0, .brk⟩, ⟨0, 0, .brk⟩, ⟨0, 0, .brk⟩, ⟨3, 7, b__law_holders⟩, ⟨0, 0, .brk⟩, ⟨0, 0, .brk⟩, ⟨0, 0, .brk⟩, ⟨0, 0, .brk⟩, ⟨0, 0, .brk⟩, ⟨0, 0, .brk⟩, ⟨0, 0, .brk⟩, ⟨0, 0, .brk⟩, ⟨1, 2, b_need_basics⟩, ⟨0, 0, .brk⟩, ⟨0, 0, .brk⟩, ⟨0, 0, .brk⟩, ⟨3, 3, b_is_known⟩, ⟨0, 0, .brk⟩, ⟨0, 0, .brk⟩, ⟨2, 4, b_ladder⟩, ⟨2, 2, b_left_over⟩, ⟨0, 0, .brk⟩, ⟨0, 0, .brk⟩, ⟨0, 0, .brk⟩, ⟨2, 6, b__law_known⟩, ⟨1, 2, b__law_basics⟩, ⟨0, 0, .brk⟩, ⟨0, 0, .brk⟩, ⟨0, 0, .brk⟩, ⟨1, 5, b__law_used⟩, ⟨3, 9, b__law_climbed⟩, ⟨0, 0, .brk⟩, ⟨4, 9, b__law_is_ladder⟩, ⟨0, 0, .brk⟩, ⟨0, 0, .brk⟩, ⟨0, 0, .brk⟩, ⟨0, 0, .brk⟩, ⟨1, 2, b_need_wish⟩, ⟨0, 0, .brk⟩, ⟨2, 2, b_fits⟩, ⟨0, 0, .brk⟩, ⟨2, 3, b__law_fits⟩, ⟨0, 0, .brk⟩, ⟨0, 0, .brk⟩, ⟨1, 6, b__law_slips⟩, ⟨0, 0, .brk⟩, ⟨0, 0, .brk⟩, ⟨0, 0, .brk⟩, ⟨0, 0, .brk⟩, ⟨0, 0, .brk⟩, ⟨0, 0, .brk⟩, ⟨0, 0, .brk⟩, ⟨0, 0, .brk⟩, ⟨0, 0, .brk⟩, ⟨3, 3, b_one_part⟩, ⟨0, 0, .brk⟩, ⟨3, 6, b_all_clashes⟩, ⟨3, 3, b_clashes⟩, ⟨0, 0, .brk⟩, ⟨0, 0, .brk⟩, ⟨0, 0, .brk⟩, ⟨0, 0, .brk⟩, ⟨3, 3, b__law_part⟩, ⟨0, 0, .brk⟩, ⟨0, 0, .brk⟩, ⟨0, 0, .brk⟩, ⟨1, 1, b_need_keeper⟩, ⟨0, 0, .brk⟩, ⟨0, 0, .brk⟩, ⟨0, 0, .brk⟩, ⟨0, 0, .brk⟩, ⟨0, 0, .brk⟩, ⟨0, 0, .brk⟩, ⟨0, 0, .brk⟩, ⟨0, 0, .brk⟩, ⟨0, 0, .brk⟩, ⟨0, 0, .brk⟩, ⟨0, 0, .brk⟩, ⟨0, 0, .brk⟩, ⟨0, 0, .brk⟩, ⟨0, 0, .brk⟩, ⟨0, 0, .brk⟩, ⟨0, 0, .brk⟩, ⟨0, 0, .brk⟩, ⟨0, 0, .brk⟩, ⟨1, 3, b__law_deed_of⟩, ⟨0, 0, .brk⟩, ⟨2, 4, b__law_rows_like⟩, ⟨0, 0, .brk⟩, ⟨0, 0, .brk⟩, ⟨0, 0, .brk⟩, ⟨0, 0, .brk⟩, ⟨0, 0, .brk⟩, ⟨0, 0, .brk⟩, ⟨0, 0, .brk⟩, ⟨0, 0, .brk⟩, ⟨0, 0, .brk⟩, ⟨0, 0, .brk⟩, ⟨0, 0, .brk⟩, ⟨0, 0, .brk⟩, ⟨0, 0, .brk⟩, ⟨0, 0, .brk⟩, ⟨0, 0, .brk⟩, ⟨0, 0, .brk⟩, ⟨0, 0, .brk⟩, ⟨0, 0, .brk⟩, ⟨0, 0, .brk⟩, ⟨0, 0, .brk⟩, ⟨3, 7, b_goal_name⟩, ⟨0, 0, .brk⟩, ⟨0, 0, .brk⟩, ⟨2, 3, b_first_unled⟩, ⟨2, 5, b_leading⟩, ⟨4, 6, b__law_goal⟩, ⟨5, 10, b__law_led⟩, ⟨0, 0, .brk⟩, ⟨0, 0, .brk⟩, ⟨3, 5, b__law_goal_1⟩, ⟨4, 9, b__law_led_1⟩, ⟨0, 0, .brk⟩, ⟨1, 1, b_need_wide⟩, ⟨0, 0, .brk⟩, ⟨0, 0, .brk⟩, ⟨0, 0, .brk⟩, ⟨0, 0, .brk⟩, ⟨0, 0, .brk⟩, ⟨0, 0, .brk⟩, ⟨0, 0, .brk⟩, ⟨1, 1, b_need_high⟩, ⟨0, 0, .brk⟩, ⟨0, 0, .brk⟩, ⟨0, 0, .brk⟩, ⟨0, 0, .brk⟩, ⟨0, 0, .brk⟩, ⟨0, 0, .brk⟩, ⟨0, 0, .brk⟩, ⟨0, 0, .brk⟩, ⟨1, 1, b_dashed⟩, ⟨0, 0, .brk⟩, ⟨0, 0, .brk⟩, ⟨0, 0, .brk⟩, ⟨0, 0, .brk⟩, ⟨0, 0, .brk⟩, ⟨0, 0, .brk⟩, ⟨0, 0, .brk⟩, ⟨0, 0, .brk⟩, ⟨0, 0, .brk⟩, ⟨0, 0, .brk⟩, ⟨0, 0, .brk⟩, ⟨1, 2, b__law_word_is⟩, ⟨3, 4, b__law_small_is⟩, ⟨0, 0, .brk⟩, ⟨0, 0, .brk⟩, ⟨0, 0, .brk⟩, ⟨0, 0, .brk⟩, ⟨0, 0, .brk⟩, ⟨0, 0, .brk⟩, ⟨0, 0, .brk⟩, ⟨0, 0, .brk⟩, ⟨1, 1, b_need⟩, ⟨1, 2, b_figure⟩, ⟨0, 0, .brk⟩, ⟨0, 0, .brk⟩, ⟨0, 0, .brk⟩, ⟨0, 0, .brk⟩, ⟨0, 0, .brk⟩, ⟨0, 0, .brk⟩, ⟨0, 0, .brk⟩, ⟨0, 0, .brk⟩, ⟨0, 0, .brk⟩, ⟨0, 0, .brk⟩, ⟨0, 0, .brk⟩, ⟨0, 0, .brk⟩, ⟨0, 0, .brk⟩, ⟨0, 0, .brk⟩, ⟨0, 0, .brk⟩, ⟨0, 0, .brk⟩, ⟨0, 0, .brk⟩, ⟨0, 0, .brk⟩]
end Wk
/-! Wk, the defs: texts, words. -/
namespace Wk
theorem slF_false (x : Sl) : slF false x = x := by cases x <;> rfl
abbrev run (n : Nat) : CallT := runF P n
theorem roll (n : Nat) {m : Int} (h0 : 0 < m) (h1 : m < bigW) (s : Sta) : ∃ t s', run (n + 2) 22 [.dice, .int m] s = .ok (.int t) s' ∧ 0 ≤ t ∧ t < m :=
  roll_ok (dr := 21) rfl rfl h0 h1 s
theorem rounds (n : Nat) (m : Int) (hm : m ≤ 1000) (ns : List Int) (hl : ns.length ≤ 63) (s : Sta) : ∃ l s', run (n + 2) 23 [.scr ns, .int m] s = .ok (.lst l) s' ∧ ∀ d ∈ l, ∃ c k, d = .lst [.int c, .int k] :=
  rounds_ok' (ce := 20) rfl rfl m hm ns hl s
def pool : List (List Nat) := [[97], [97, 98], [98, 97], [97, 98, 99], [99, 97, 98], [98, 97, 100], [100, 97, 98], [97, 98, 98, 97], [100, 97, 45, 98], [100, 39, 97, 98], [99, 99], [97, 99, 100]]
theorem pool_ok (n : Nat) (s : Sta) : run (n + 1) 28 [] s = .ok (.lst (pool.map .str)) s := rfl
theorem any_ok (n : Nat) (s : Sta) : ∃ w ∈ pool, ∃ s', run (n + 3) 29 [.dice] s = .ok (.str w) s' := by
  obtain ⟨t, s', e, h0, h1⟩ := roll n (m := 12) (by decide) (by decide) s
  obtain ⟨x, hx, ex⟩ := getI_of (l := pool.map D.str) (t := t) h0 (by simpa [pool] using h1)
  obtain ⟨w, hw, rfl⟩ := List.mem_map.mp hx
  refine ⟨w, hw, s', ?_⟩
  rw [run, runF_at (f := 29) (fn := ⟨1, 1, b__law_any⟩) rfl, runB_at (np := 1) rfl (by decide)]
  have e1 : evE (runF P (n + 2)) (.ix (.call 28 .nil) (.call 22 (.cons (.var 0) (.cons (.cst (.int 12)) .nil)))) [some .dice] s = .ok (.str w) s' :=
    ix_ev (call_ev (l := []) rfl (pool_ok _ _)) (call_ev (l := [.dice, .int 12]) rfl e) ex
  have e2 : xec (runF P (n + 2)) b__law_any (List.map Sl.sh [.dice] ++ List.replicate (1 - 1) .no) s = .ok (.rt (.str w)) s' := seq_rt (ret_eq e1)
  rw [e2]
  rfl
theorem allBl_map {A : Type} (p : A → Bool) : ∀ l : List A, allBl (l.map fun c => .bl (p c)) = some (l.all p)
  | [] => rfl
  | x :: l => by
    rw [List.map_cons, allBl, allBl_map p l]
    rfl
def SMALL : List Nat := [97, 98, 99, 100, 101, 102, 103, 104, 105, 106, 107, 108, 109, 110, 111, 112, 113, 114, 115, 116, 117, 118, 119, 120, 121, 122]
def WORDY : List Nat := [97, 98, 99, 100, 101, 102, 103, 104, 105, 106, 107, 108, 109, 110, 111, 112, 113, 114, 115, 116, 117, 118, 119, 120, 121, 122, 45, 39]
def chr (d : D) : Nat := match d with
  | .str [c] => c
  | _ => 0
/-- all([sign in A for sign in x]) -/
theorem all_in {cl : CallT} {s : Sta} {en : En} {i : Nat} {x A : List Nat} {it e : E} (hx : x.length ≤ most) (h1 : evE cl it en s = .ok (.str x) s)
    (h2 : ∀ c, evE cl e ((wipeE en [i]).set i (some (.str [c]))) s = .ok (.bl (A.contains c)) s) :
    evE cl (.bi .all (.lc [i] (.nm i) it (.cst (.bl true)) e)) en s = .ok (.bl (x.all A.contains)) s := by
  have q := lc_map (f := fun x s => (ofO s (bindT (.nm i) x (wipeE en [i]))).bind fun r' s => (evE cl (.cst (.bl true)) r' s).bind fun x s => (ofO s (blD x)).bind fun k s => if k then (evE cl e r' s).bind fun d s => .ok (some d) s else .ok none s) (s := s)
    (fun d => some (.bl (A.contains (chr d)))) (x.map fun c => .str [c]) [] (fun d hd => by
      obtain ⟨c, _, rfl⟩ := List.mem_map.mp hd
      show ((evE cl e ((wipeE en [i]).set i (some (.str [c]))) s).bind _) = _
      rw [h2]
      rfl) (by simpa using hx)
  have e1 := lc_ev (vs := [i]) (t := .nm i) (it := it) (c := .cst (.bl true)) (e := e) h1 (items_str hx) q
  rw [evE, e1]
  have e2 : ([] ++ (x.map fun c => D.str [c]).filterMap fun d => some (.bl (A.contains (chr d)))) = x.map fun c => D.bl (A.contains c) := by
    rw [List.nil_append, List.filterMap_map, ← List.filterMap_eq_map]
    rfl
  rw [e2]
  show ofO s (match allBl (x.map fun c => D.bl (A.contains c)) with
    | some b => some (D.bl b)
    | none => none) = _
  rw [allBl_map]
  rfl
theorem is_small_ok (n : Nat) (s : Sta) (x : List Nat) (lo hi : Int) (hx : x.length ≤ most) :
    run (n + 1) 6 [.str x, .int lo, .int hi] s = .ok (.bl (decide (lo ≤ x.length) && (decide (x.length ≤ hi) && x.all SMALL.contains))) s := by
  have e := all_in (cl := runF P n) (s := s) (en := [some (.str x), some (.int lo), some (.int hi), none]) (i := 3) (x := x) (A := SMALL) (it := .var 0) (e := .cmp .inn (.var 3) (.glb 0 (.str SMALL))) hx rfl (fun c => rfl)
  refine fn_rt (b := b_is_small) rfl rfl (by decide) (seq_rt (ret_eq ?_))
  refine (and_t (isi_ev (x := .str x) rfl rfl) (and_b (chain_b (x := .int lo) (y := .int x.length) (z := .int hi) rfl (bi_ev (x := .str x) rfl (len_str hx)) rfl rfl rfl) e)).trans ?_
  rw [Bool.and_assoc]
theorem is_word_ok (n : Nat) (s : Sta) (x : List Nat) (hx : x.length ≤ most) :
    run (n + 1) 7 [.str x] s = .ok (.bl (decide (1 ≤ x.length) && (decide (x.length ≤ 12) && x.all WORDY.contains))) s := by
  have e := all_in (cl := runF P n) (s := s) (en := [some (.str x), none]) (i := 1) (x := x) (A := WORDY) (it := .var 0) (e := .cmp .inn (.var 1) (.bin .add (.glb 0 (.str SMALL)) (.glb 1 (.str [45, 39])))) hx rfl (fun c => rfl)
  refine fn_rt (b := b_is_word) rfl rfl (by decide) (seq_rt (ret_eq ?_))
  refine (and_t (isi_ev (x := .str x) rfl rfl) (and_b (chain_b (x := .int 1) (y := .int x.length) (z := .int 12) rfl (bi_ev (x := .str x) rfl (len_str hx)) rfl rfl rfl) e)).trans ?_
  rw [Bool.and_assoc]
  have e1 : decide ((1 : Int) ≤ x.length) = decide (1 ≤ x.length) := by congr 1; apply propext; omega
  have e2 : decide ((x.length : Int) ≤ 12) = decide (x.length ≤ 12) := by congr 1; apply propext; omega
  rw [e1, e2]
end Wk
/-! Wk, the defs: words, patterns, forms. -/
namespace Wk
def wordy (x : List Nat) : Bool := decide (1 ≤ x.length) && (decide (x.length ≤ 12) && x.all WORDY.contains)
theorem wordy_le {x : List Nat} (h : wordy x = true) : x.length ≤ 12 := by
  unfold wordy at h
  simp only [Bool.and_eq_true, decide_eq_true_eq] at h
  exact h.2.1
theorem small_le {n : Nat} (h : n ≤ 1000) : n ≤ most := Nat.le_trans h (by decide)
theorem need_word_ok (n : Nat) (s : Sta) {x : List Nat} (h : wordy x = true) : run (n + 2) 43 [.str x] s = .ok .non s := by
  have e := is_word_ok n s x (small_le (by have := wordy_le h; omega))
  rw [show (decide (1 ≤ x.length) && (decide (x.length ≤ 12) && x.all WORDY.contains)) = true from h] at e
  exact fn_nx (b := b_need_word) (r' := [.sh (.str x)]) rfl rfl (by decide) (seq_nx (r' := [.sh (.str x)]) (ite_eq (k := false) (not_ev (k := true) (call_ev (l := [.str x]) rfl e))))
theorem is_number_ok (n : Nat) (s : Sta) (i lo hi : Int) : run (n + 1) 42 [.int i, .int lo, .int hi] s = .ok (.bl (decide (lo ≤ i) && decide (i ≤ hi))) s :=
  fn_rt (b := b_is_number) rfl rfl (by decide) (seq_rt (ret_eq (and_t (isi_ev (x := .int i) rfl rfl) (and_t (not_ev (k := false) (isi_ev (x := .int i) rfl rfl)) (chain_b (x := .int lo) (y := .int i) (z := .int hi) rfl rfl rfl rfl rfl)))))
/-! ### patterns -/
abbrev Wy := List (List Nat × Nat × List Nat)
def enc3 (x : List Nat × Nat × List Nat) : D := .tup [.str x.1, .int x.2.1, .str x.2.2]
def encW (p : Wy) : D := .tup (p.map enc3)
def enc2 (x : List Nat × List Nat) : D := .tup [.str x.1, .str x.2]
def encR (l : List (List Nat × List Nat)) : List D := l.map enc2
def smallB (x : List Nat) (lo hi : Int) : Bool := decide (lo ≤ x.length) && (decide (x.length ≤ hi) && x.all SMALL.contains)
def rowB (x : List Nat × Nat × List Nat) : Bool := smallB x.1 1 4 && (decide ((0 : Int) ≤ x.2.1) && decide ((x.2.1 : Int) ≤ 3) && smallB x.2.2 0 4)
theorem smallB_le {x : List Nat} {lo hi : Int} (h : smallB x lo hi = true) (h2 : hi ≤ 1000) : x.length ≤ 1000 := by
  unfold smallB at h
  simp only [Bool.and_eq_true, decide_eq_true_eq] at h
  omega
theorem is_row_ok (n : Nat) (s : Sta) {x : List Nat × Nat × List Nat} (h : rowB x = true) : run (n + 2) 44 [enc3 x] s = .ok (.bl true) s := by
  have h' := h
  unfold rowB at h'
  simp only [Bool.and_eq_true] at h'
  obtain ⟨q1, q2, q3⟩ := h'
  have e1 := is_small_ok n s x.1 1 4 (small_le (smallB_le q1 (by decide)))
  have e2 := is_small_ok n s x.2.2 0 4 (small_le (smallB_le q3 (by decide)))
  have e3 := is_number_ok n s (x.2.1 : Int) 0 3
  rw [show (decide ((1 : Int) ≤ x.1.length) && (decide ((x.1.length : Int) ≤ 4) && x.1.all SMALL.contains)) = true from q1] at e1
  rw [show (decide ((0 : Int) ≤ x.2.2.length) && (decide ((x.2.2.length : Int) ≤ 4) && x.2.2.all SMALL.contains)) = true from q3] at e2
  rw [show (decide ((0 : Int) ≤ x.2.1) && decide ((x.2.1 : Int) ≤ 3)) = true by simp [q2.1, q2.2]] at e3
  refine fn_rt (b := b_is_row) rfl rfl (by decide) (sq (ifF (or_f (not_ev (k := true) (isi_ev (x := enc3 x) rfl rfl)) (cmp_ev (x := .int 3) (y := .int 3) rfl rfl rfl)) nopX) ?_)
  exact seq_rt (ret_eq (and_t (call_ev (l := [.str x.1, .int 1, .int 4]) rfl e1) (and_t (call_ev (l := [.int x.2.1, .int 0, .int 3]) rfl e3) (call_ev (l := [.str x.2.2, .int 0, .int 4]) rfl e2))))
theorem is_pattern_ok (n : Nat) (s : Sta) {p : Wy} (h1 : p.length ≤ 6) (h2 : p.all rowB = true) (h3 : unlike (p.map (·.1)) = p.length) : run (n + 3) 45 [encW p] s = .ok (.bl true) s := by
  have hm : p.length ≤ most := small_le (by omega)
  have hl : (p.map enc3).length = p.length := List.length_map ..
  -- the rows
  have q1 := lc_map (f := fun x s => (ofO s (bindT (.nm 1) x (wipeE [some (encW p), none] [1]))).bind fun r' s => (evE (run (n + 2)) (.cst (.bl true)) r' s).bind fun x s => (ofO s (blD x)).bind fun k s => if k then (evE (run (n + 2)) (.call 44 (.cons (.var 1) .nil)) r' s).bind fun d s => .ok (some d) s else .ok none s) (s := s)
    (fun _ => some (.bl true)) (p.map enc3) [] (fun d hd => by
      obtain ⟨x, hx, rfl⟩ := List.mem_map.mp hd
      have e := is_row_ok n s (List.all_eq_true.mp h2 x hx)
      show ((evE (run (n + 2)) (.call 44 (.cons (.var 1) .nil)) [some (encW p), some (enc3 x)] s).bind _) = _
      rw [call_ev (l := [enc3 x]) rfl e]
      rfl) (by simpa [hl] using hm)
  have e1 := lc_ev (vs := [1]) (t := .nm 1) (it := .var 0) (c := .cst (.bl true)) (e := .call 44 (.cons (.var 1) .nil)) (en := [some (encW p), none]) (x := encW p) rfl rfl q1
  have e2 : allBl ([] ++ (p.map enc3).filterMap fun _ => some (D.bl true)) = some true := by
    rw [List.nil_append, List.filterMap_eq_map']
    exact (allBl_map (fun _ => true) (p.map enc3)).trans (by simp)
  -- the marks
  have q3 := lc_map (f := fun x s => (ofO s (bindT (.nm 1) x (wipeE [some (encW p), none] [1]))).bind fun r' s => (evE (run (n + 2)) (.cst (.bl true)) r' s).bind fun x s => (ofO s (blD x)).bind fun k s => if k then (evE (run (n + 2)) (.ix (.var 1) (.cst (.int 0))) r' s).bind fun d s => .ok (some d) s else .ok none s) (s := s)
    (fun d => match d with
      | .tup (m :: _) => some m
      | _ => none) (p.map enc3) [] (fun d hd => by
      obtain ⟨x, hx, rfl⟩ := List.mem_map.mp hd
      rfl) (by simpa [hl] using hm)
  have e3 : ([] ++ (p.map enc3).filterMap fun d => match d with
      | .tup (m :: _) => some m
      | _ => none) = (p.map (·.1)).map .str := by
    rw [List.nil_append, List.filterMap_map, List.map_map, ← List.filterMap_eq_map]
    rfl
  rw [e3] at q3
  have e4 : slenD ((p.map (·.1)).map .str) = some (.int p.length) := by
    have : ∀ l : List (List Nat), textsOf (l.map .str) = some l := fun l => by
      induction l with
      | nil => rfl
      | cons x l ih => rw [List.map_cons, textsOf, ih]
    unfold slenD
    rw [this]
    show (if (p.map (·.1)).length ≤ 1000 then some (D.int (unlike (p.map (·.1)))) else none) = _
    rw [if_pos (by simp; omega), h3]
  have e5 := slen_ev (vs := [1]) (t := .nm 1) (it := .var 0) (c := .cst (.bl true)) (e := .ix (.var 1) (.cst (.int 0))) (en := [some (encW p), none]) (x := encW p) rfl rfl q3 e4
  refine fn_rt (b := b_is_pattern) rfl rfl (by decide) (sq (ifF (or_f (not_ev (k := true) (isi_ev (x := encW p) rfl rfl)) (or_f (cmp_ev (x := .int p.length) (y := .int 6) (bi_ev (x := encW p) rfl ?_) rfl ?_) (not_ev (k := true) (bi_ev e1 ?_)))) nopX) ?_)
  · show some (D.int (p.map enc3).length) = _
    rw [hl]
  · show some (decide ((6 : Int) < p.length)) = _
    rw [decide_eq_false (by omega)]
  · show (match allBl _ with
      | some b => some (D.bl b)
      | none => none) = _
    rw [e2]
  · refine seq_rt (ret_eq (cmp_ev (x := .int p.length) (y := .int p.length) e5 (bi_ev (x := encW p) rfl ?_) ?_))
    · show some (D.int (p.map enc3).length) = _
      rw [hl]
    · show some (_ == _) = _
      simp
theorem need_pattern_ok (n : Nat) (s : Sta) {p : Wy} (h1 : p.length ≤ 6) (h2 : p.all rowB = true) (h3 : unlike (p.map (·.1)) = p.length) : run (n + 4) 46 [encW p] s = .ok .non s :=
  fn_nx (b := b_need_pattern) rfl rfl (by decide) (sq (ifF (not_ev (k := true) (call_ev (l := [encW p]) rfl (is_pattern_ok n s h1 h2 h3))) nopX) nopX)
end Wk
/-! Wk, the defs: made forms. -/
namespace Wk
def formOf (w : List Nat) (x : List Nat × Nat × List Nat) : List Nat := cut w none (some ((w.length : Int) - (x.2.1 : Int))) ++ x.2.2
def badForm (w : List Nat) (x : List Nat × Nat × List Nat) : Bool := decide (w.length ≤ x.2.1) || decide (12 < (formOf w x).length)
def madeGo (w : List Nat) : Wy → List (List Nat × List Nat) → Option (List (List Nat × List Nat))
  | [], acc => some acc
  | x :: p, acc => if badForm w x then none else madeGo w p (acc ++ [(x.1, formOf w x)])
def madeL (p : Wy) (w : List Nat) : Option (List (List Nat × List Nat)) := madeGo w p [([], w)]
def madeD (p : Wy) (w : List Nat) : D := match madeL p w with
  | some l => .lst (encR l)
  | none => .non
theorem cut_le {A : Type} (l : List A) (lo hi : Option Int) : (cut l lo hi).length ≤ l.length := by
  unfold cut
  simp
  omega
/-- word[:len(word) - cut] + ending -/
theorem form_ev {cl : CallT} {en : En} {s : Sta} {i j k : Nat} {w : List Nat} {x : List Nat × Nat × List Nat} (hw : w.length ≤ 1000) (hx : x.2.2.length ≤ 1000)
    (h1 : evE cl (.var i) en s = .ok (.str w) s) (h2 : evE cl (.var j) en s = .ok (.int x.2.1) s) (h3 : evE cl (.var k) en s = .ok (.str x.2.2) s) :
    evE cl (.bin .add (.sl (.var i) (.cst .non) (.bin .sub (.bi .len (.var i)) (.var j))) (.var k)) en s = .ok (.str (formOf w x)) s := by
  have hm : w.length ≤ most := small_le hw
  have e1 : evE cl (.bin .sub (.bi .len (.var i)) (.var j)) en s = .ok (.int ((w.length : Int) - x.2.1)) s := bin_ev (bi_ev h1 (len_str hm)) h2 rfl
  have e2 : evE cl (.sl (.var i) (.cst .non) (.bin .sub (.bi .len (.var i)) (.var j))) en s = .ok (.str (cut w none (some ((w.length : Int) - x.2.1)))) s := by
    rw [evE, h1]
    show ((if false = true then Res.ok none s else (evE cl (.bin .sub (.bi .len (.var i)) (.var j)) en s).bind fun j s => ofO s (partD j)).bind fun j s => ofO s (slD (.str w) none j)) = _
    rw [if_neg (by decide), e1]
    show ofO s (if w.length ≤ most then some (D.str (cut w none (some ((w.length : Int) - x.2.1)))) else none) = _
    rw [if_pos hm]
    rfl
  refine bin_ev e2 h3 (bin_str ?_)
  have := cut_le w none (some ((w.length : Int) - x.2.1))
  have : most = 100000 := rfl
  omega
theorem formOf_le {w : List Nat} {x : List Nat × Nat × List Nat} (hw : w.length ≤ 1000) (hx : x.2.2.length ≤ 1000) : (formOf w x).length ≤ most := by
  unfold formOf
  have := cut_le w none (some ((w.length : Int) - x.2.1))
  have : most = 100000 := rfl
  simp
  omega
theorem bad_ev {cl : CallT} {en : En} {s : Sta} {c l : E} {w : List Nat} {x : List Nat × Nat × List Nat} {b : E} (h1 : evE cl c en s = .ok (.int x.2.1) s) (h2 : evE cl l en s = .ok (.int w.length) s) (h3 : evE cl b en s = .ok (.bl (decide (12 < (formOf w x).length))) s) :
    evE cl (.or (.cmp .ge c l) b) en s = .ok (.bl (badForm w x)) s := by
  refine (or_b (cmp_ev (k := decide (w.length ≤ x.2.1)) h1 h2 ?_) h3).trans rfl
  show some (decide ((w.length : Int) ≤ (x.2.1 : Int))) = _
  congr 2
  apply propext
  omega
theorem gt12 {n : Nat} : cmpD .gt (.int n) (.int 12) = some (decide (12 < n)) := by
  show some (decide ((12 : Int) < n)) = _
  congr 2
  apply propext
  omega
theorem made_ok (n : Nat) (s : Sta) {p : Wy} {w : List Nat} (hw : w.length ≤ 1000) (hp : p.length ≤ 1000) (ht : ∀ x ∈ p, x.2.2.length ≤ 1000) : run (n + 1) 47 [.str w, encW p] s = .ok (madeD p w) s := by
  have lp : ∀ (q : Wy) (acc : List (List Nat × List Nat)) (g3 g4 g5 g6 : Sl), (∀ x ∈ q, x.2.2.length ≤ 1000) → acc.length + q.length ≤ 5000 →
      (madeGo w q acc = none → forRun (fun x r s => (ofO s (bindF (.tp (.cons (.nm 3) (.cons (.nm 4) (.cons (.nm 5) .nil)))) x r)).bind fun r' s => xec (run n) (b_made.at 1).fb r' s) (q.map enc3) [.sh (.str w), .sh (encW p), .ow (.lst (encR acc)), g3, g4, g5, g6] s = .ok (.rt .non) s) ∧
      (∀ l, madeGo w q acc = some l → ∃ h3 h4 h5 h6, forRun (fun x r s => (ofO s (bindF (.tp (.cons (.nm 3) (.cons (.nm 4) (.cons (.nm 5) .nil)))) x r)).bind fun r' s => xec (run n) (b_made.at 1).fb r' s) (q.map enc3) [.sh (.str w), .sh (encW p), .ow (.lst (encR acc)), g3, g4, g5, g6] s = .ok (.nx [.sh (.str w), .sh (encW p), .ow (.lst (encR l)), h3, h4, h5, h6]) s) := by
    intro q
    induction q with
    | nil =>
      intro acc g3 g4 g5 g6 _ _
      refine ⟨fun h => by simp [madeGo] at h, fun l h => ?_⟩
      have : acc = l := by simpa [madeGo] using h
      subst this
      exact ⟨g3, g4, g5, g6, rfl⟩
    | cons x q ih =>
      intro acc g3 g4 g5 g6 hx hl
      have hx0 := hx x (List.mem_cons_self ..)
      have stp : xec (run n) (b_made.at 1).fb [.sh (.str w), .sh (encW p), .ow (.lst (encR acc)), .sh (.str x.1), .sh (.int x.2.1), .sh (.str x.2.2), g6] s =
          if badForm w x then .ok (.rt .non) s else .ok (.nx [.sh (.str w), .sh (encW p), .ow (.lst (encR (acc ++ [(x.1, formOf w x)]))), .sh (.str x.1), .sh (.int x.2.1), .sh (.str x.2.2), .sh (.str (formOf w x))]) s := by
        refine sq (asg_eq (d := .str (formOf w x)) (form_ev hw hx0 rfl rfl rfl)) ?_
        have eb : evE (run n) (.or (.cmp .ge (.var 4) (.bi .len (.var 0))) (.cmp .gt (.bi .len (.var 6)) (.glb 2 (.int 12)))) [some (.str w), some (encW p), none, some (.str x.1), some (.int x.2.1), some (.str x.2.2), some (.str (formOf w x))] s = .ok (.bl (badForm w x)) s :=
          bad_ev rfl (bi_ev rfl (len_str (small_le hw))) (cmp_ev (bi_ev rfl (len_str (formOf_le hw hx0))) rfl gt12)
        cases hb : badForm w x with
        | true =>
          rw [hb] at eb
          exact seq_rt (ifT eb (seq_rt (ret_eq rfl)))
        | false =>
          rw [hb] at eb
          refine sq (ifF eb nopX) (sq (app_eq (l := encR acc) (d := enc2 (x.1, formOf w x)) rfl rfl rfl ?_) ?_)
          · unfold encR
            have : most = 100000 := rfl
            simp at hl ⊢
            omega
          · unfold encR
            rw [List.map_append]
            rfl
      have go : madeGo w (x :: q) acc = if badForm w x then none else madeGo w q (acc ++ [(x.1, formOf w x)]) := rfl
      obtain ⟨i1, i2⟩ := ih (acc ++ [(x.1, formOf w x)]) (.sh (.str x.1)) (.sh (.int x.2.1)) (.sh (.str x.2.2)) (.sh (.str (formOf w x))) (fun y hy => hx y (List.mem_cons_of_mem _ hy)) (by simp at hl ⊢; omega)
      have un : forRun (fun x r s => (ofO s (bindF (.tp (.cons (.nm 3) (.cons (.nm 4) (.cons (.nm 5) .nil)))) x r)).bind fun r' s => xec (run n) (b_made.at 1).fb r' s) ((x :: q).map enc3) [.sh (.str w), .sh (encW p), .ow (.lst (encR acc)), g3, g4, g5, g6] s =
          (xec (run n) (b_made.at 1).fb [.sh (.str w), .sh (encW p), .ow (.lst (encR acc)), .sh (.str x.1), .sh (.int x.2.1), .sh (.str x.2.2), g6] s).bind fun fl s => match fl with
            | .nx r' => forRun (fun x r s => (ofO s (bindF (.tp (.cons (.nm 3) (.cons (.nm 4) (.cons (.nm 5) .nil)))) x r)).bind fun r' s => xec (run n) (b_made.at 1).fb r' s) (q.map enc3) r' s
            | .ct r' => forRun (fun x r s => (ofO s (bindF (.tp (.cons (.nm 3) (.cons (.nm 4) (.cons (.nm 5) .nil)))) x r)).bind fun r' s => xec (run n) (b_made.at 1).fb r' s) (q.map enc3) r' s
            | .bk r' => .ok (.nx r') s
            | .rt d => .ok (.rt d) s := rfl
      rw [go, un, stp]
      cases hb : badForm w x with
      | true => exact ⟨fun _ => rfl, fun l h => by cases h⟩
      | false => exact ⟨i1, i2⟩
  obtain ⟨l1, l2⟩ := lp p [([], w)] .no .no .no .no ht (by simp; omega)
  unfold madeD madeL
  refine fn_rt (b := b_made) rfl rfl (by decide) (sq (asg_eq (d := .lst (encR [([], w)])) rfl) ?_)
  cases h : madeGo w p [([], w)] with
  | none => exact seq_rt ((for_eq (x := encW p) rfl rfl).trans (l1 h))
  | some l =>
    obtain ⟨h3, h4, h5, h6, e⟩ := l2 l h
    exact sq ((for_eq (x := encW p) rfl rfl).trans e) (seq_rt (ret_eq rfl))
end Wk
/-! Wk, the defs: whose form. -/
namespace Wk
/-- a comprehension over pairs of texts -/
theorem pick_ev {cl : CallT} {en : En} {s : Sta} {a b : Nat} {it c e : E} {x : D} {l : List (List Nat × List Nat)} (p : List Nat → List Nat → Bool) (g : List Nat → List Nat → D) (h1 : evE cl it en s = .ok x s) (hi : itemsD x = some (encR l)) (hl : l.length ≤ most)
    (h2 : ∀ m o, (m, o) ∈ l → evE cl c (((wipeE en [a, b]).set a (some (.str m))).set b (some (.str o))) s = .ok (.bl (p m o)) s)
    (h3 : ∀ m o, (m, o) ∈ l → evE cl e (((wipeE en [a, b]).set a (some (.str m))).set b (some (.str o))) s = .ok (g m o) s) :
    evE cl (.lc [a, b] (.tp (.cons (.nm a) (.cons (.nm b) .nil))) it c e) en s = .ok (.lst (l.filterMap fun x => if p x.1 x.2 then some (g x.1 x.2) else none)) s := by
  have q := lc_map (f := fun x s => (ofO s (bindT (.tp (.cons (.nm a) (.cons (.nm b) .nil))) x (wipeE en [a, b]))).bind fun r' s => (evE cl c r' s).bind fun x s => (ofO s (blD x)).bind fun k s => if k then (evE cl e r' s).bind fun d s => .ok (some d) s else .ok none s) (s := s)
    (fun d => match d with
      | .tup [.str m, .str o] => if p m o then some (g m o) else none
      | _ => none) (encR l) [] (fun d hd => by
      obtain ⟨x, hx, rfl⟩ := List.mem_map.mp hd
      show ((evE cl c (((wipeE en [a, b]).set a (some (.str x.1))).set b (some (.str x.2))) s).bind fun z s => (ofO s (blD z)).bind fun k s => if k then (evE cl e (((wipeE en [a, b]).set a (some (.str x.1))).set b (some (.str x.2))) s).bind fun d s => .ok (some d) s else .ok none s) = _
      rw [h2 x.1 x.2 hx]
      show (if p x.1 x.2 then (evE cl e (((wipeE en [a, b]).set a (some (.str x.1))).set b (some (.str x.2))) s).bind fun d s => .ok (some d) s else .ok none s) = .ok (if p x.1 x.2 then some (g x.1 x.2) else none) s
      rw [h3 x.1 x.2 hx]
      cases p x.1 x.2 <;> rfl) (by simpa [encR] using hl)
  have e1 : ([] ++ (encR l).filterMap fun d => match d with
      | .tup [.str m, .str o] => if p m o then some (g m o) else none
      | _ => none) = l.filterMap fun x => if p x.1 x.2 then some (g x.1 x.2) else none := by
    unfold encR
    rw [List.nil_append, List.filterMap_map]
    rfl
  rw [e1] at q
  exact lc_ev h1 hi q
def hits (p : Wy) (f w : List Nat) : List D := match madeL p w with
  | some l => l.filterMap fun x => if x.2 == f then some (.tup [.str w, .str x.1]) else none
  | none => []
theorem madeGo_len {w : List Nat} : ∀ {p : Wy} {acc l : List (List Nat × List Nat)}, madeGo w p acc = some l → l.length = acc.length + p.length
  | [], acc, l, h => by
    have : acc = l := by simpa [madeGo] using h
    subst this
    rfl
  | x :: p, acc, l, h => by
    unfold madeGo at h
    split at h
    · cases h
    · rw [madeGo_len h]
      simp
      omega
theorem hits_len {p : Wy} {f w : List Nat} : (hits p f w).length ≤ p.length + 1 := by
  unfold hits
  split
  · rename_i l h
    have := madeGo_len h
    refine Nat.le_trans (List.length_filterMap_le ..) ?_
    rw [this]
    simp
    omega
  · simp
theorem whose_ok (n : Nat) (s : Sta) {p : Wy} {f : List Nat} {ws : List (List Nat)} (h1 : p.length ≤ 6) (h2 : p.all rowB = true) (h3 : unlike (p.map (·.1)) = p.length) (hf : wordy f = true) (hw : ∀ w ∈ ws, wordy w = true) (hl : ws.length ≤ 1000) :
    run (n + 5) 51 [.str f, .lst (ws.map .str), encW p] s = .ok (.lst (ws.flatMap (hits p f))) s := by
  have hm : ws.length ≤ most := small_le hl
  have tails : ∀ x ∈ p, x.2.2.length ≤ 1000 := fun x hx => by
    have := List.all_eq_true.mp h2 x hx
    unfold rowB at this
    simp only [Bool.and_eq_true] at this
    exact smallB_le this.2.2 (by decide)
  have q1 := lc_map (f := fun x s => (ofO s (bindT (.nm 3) x (wipeE [some (.str f), some (.lst (ws.map .str)), some (encW p), none, none, none, none, none] [3]))).bind fun r' s => (evE (run (n + 4)) (.cst (.bl true)) r' s).bind fun x s => (ofO s (blD x)).bind fun k s => if k then (evE (run (n + 4)) (.call 7 (.cons (.var 3) .nil)) r' s).bind fun d s => .ok (some d) s else .ok none s) (s := s)
    (fun _ => some (.bl true)) (ws.map .str) [] (fun d hd => by
      obtain ⟨x, hx, rfl⟩ := List.mem_map.mp hd
      have e := is_word_ok (n + 3) s x (small_le (by have := wordy_le (hw x hx); omega))
      rw [show (decide (1 ≤ x.length) && (decide (x.length ≤ 12) && x.all WORDY.contains)) = true from hw x hx] at e
      show ((evE (run (n + 4)) (.call 7 (.cons (.var 3) .nil)) [some (.str f), some (.lst (ws.map .str)), some (encW p), some (.str x), none, none, none, none] s).bind _) = _
      rw [call_ev (l := [.str x]) rfl e]
      rfl) (by simpa using hm)
  have e1 := lc_ev (vs := [3]) (t := .nm 3) (it := .var 1) (c := .cst (.bl true)) (e := .call 7 (.cons (.var 3) .nil)) (en := [some (.str f), some (.lst (ws.map .str)), some (encW p), none, none, none, none, none]) (x := .lst (ws.map .str)) rfl rfl q1
  have e2 : allBl ([] ++ (ws.map D.str).filterMap fun _ => some (D.bl true)) = some true := by
    rw [List.nil_append, List.filterMap_eq_map']
    exact (allBl_map (fun _ => true) (ws.map D.str)).trans (by simp)
  -- the loop
  have lp : ∀ (vs : List (List Nat)) (acc : List D) (g3 g5 g6 g7 : Sl), (∀ w ∈ vs, wordy w = true) → acc.length + vs.length * 7 ≤ 20000 → ∃ h3 h5 h6 h7,
      forRun (fun x r s => (ofO s (bindF (.nm 5) x r)).bind fun r' s => xec (run (n + 4)) (b_whose.at 4).fb r' s) (vs.map .str) [.sh (.str f), .sh (.lst (ws.map .str)), .sh (encW p), g3, .ow (.lst acc), g5, g6, g7] s =
        .ok (.nx [.sh (.str f), .sh (.lst (ws.map .str)), .sh (encW p), h3, .ow (.lst (acc ++ vs.flatMap (hits p f))), h5, h6, h7]) s := by
    intro vs
    induction vs with
    | nil => exact fun acc g3 g5 g6 g7 _ _ => ⟨g3, g5, g6, g7, by simp [forRun]⟩
    | cons w vs ih =>
      intro acc g3 g5 g6 g7 hv hlen
      have hw0 := hv w (List.mem_cons_self ..)
      have lh := hits_len (p := p) (f := f) (w := w)
      have md := made_ok (n + 3) s (p := p) (w := w) (by have := wordy_le hw0; omega) (by omega) tails
      obtain ⟨h3, h5, h6, h7, e⟩ := ih (acc ++ hits p f w) (slF true g3) (.sh (.str w)) (.sh (madeD p w)) (slF true g7) (fun y hy => hv y (List.mem_cons_of_mem _ hy)) (by simp at hlen ⊢; omega)
      refine ⟨h3, h5, h6, h7, ?_⟩
      have cmp : evE (run (n + 4)) (.lc [7, 3] (.tp (.cons (.nm 7) (.cons (.nm 3) .nil))) (.ite (.cmp .notn (.var 6) (.cst .non)) (.var 6) (.lst .nil)) (.cmp .eq (.var 3) (.var 0)) (.tup (.cons (.var 5) (.cons (.var 7) .nil))))
          [some (.str f), some (.lst (ws.map .str)), some (encW p), slV true g3, some (.lst acc), some (.str w), some (madeD p w), slV true g7] s = .ok (.lst (hits p f w)) s := by
        unfold hits madeD
        cases q : madeL p w with
        | none =>
          exact (pick_ev (l := []) (fun m o => o == f) (fun m o => .tup [.str w, .str m]) (ite_f (cmp_ev (x := .non) (y := .non) rfl rfl rfl) (lst_ev (l := []) rfl (by decide))) rfl (by simp) (fun m o _ => rfl) fun m o _ => rfl)
        | some l =>
          exact (pick_ev (l := l) (fun m o => o == f) (fun m o => .tup [.str w, .str m]) (ite_t (cmp_ev (x := .lst (encR l)) (y := .non) rfl rfl rfl) rfl) rfl (by have := madeGo_len q; have hh : most = 100000 := rfl; simp at this; omega) (fun m o _ => rfl) fun m o _ => rfl)
      have stp : xec (run (n + 4)) (b_whose.at 4).fb [.sh (.str f), .sh (.lst (ws.map .str)), .sh (encW p), g3, .ow (.lst acc), .sh (.str w), g6, g7] s =
          .ok (.nx [.sh (.str f), .sh (.lst (ws.map .str)), .sh (encW p), slF true g3, .ow (.lst (acc ++ hits p f w)), .sh (.str w), .sh (madeD p w), slF true g7]) s := by
        have s1 : xec (run (n + 4)) ((b_whose.at 4).fb.at 0) [.sh (.str f), .sh (.lst (ws.map .str)), .sh (encW p), g3, .ow (.lst acc), .sh (.str w), g6, g7] s = .ok (.nx [.sh (.str f), .sh (.lst (ws.map .str)), .sh (encW p), g3, .ow (.lst acc), .sh (.str w), .sh (madeD p w), g7]) s := by
          refine (asg_eq (d := madeD p w) (call_ev (l := [.str w, encW p]) rfl md)).trans ?_
          have : ∀ d : D, afterE [2, 5] [.sh (.str f), .sh (.lst (ws.map .str)), .sh (encW p), g3, .ow (.lst acc), .sh (.str w), g6, g7] d = [.sh (.str f), .sh (.lst (ws.map .str)), .sh (encW p), g3, .ow (.lst acc), .sh (.str w), g6, g7] := fun d => by
            unfold afterE
            split
            · rfl
            · show [_, _, _, slF false g3, _, _, slF false g6, slF false g7] = _
              rw [slF_false, slF_false, slF_false]
              rfl
          rw [this]
          rfl
        refine sq s1 ?_
        refine sq (asg_eq (d := .lst (acc ++ hits p f w)) (bin_ev (x := .lst acc) rfl cmp (bin_lst ?_))) rfl
        have : most = 100000 := rfl
        simp at hlen
        omega
      show ((xec (run (n + 4)) (b_whose.at 4).fb [.sh (.str f), .sh (.lst (ws.map .str)), .sh (encW p), g3, .ow (.lst acc), .sh (.str w), g6, g7] s).bind _) = _
      rw [stp]
      have : acc ++ (w :: vs).flatMap (hits p f) = (acc ++ hits p f w) ++ vs.flatMap (hits p f) := by simp
      rw [this]
      exact e
  obtain ⟨h3', h5, h6, h7, e⟩ := lp ws [] .no .no .no .no hw (by simp; omega)
  refine fn_rt (b := b_whose) rfl rfl (by decide) ?_
  refine sq (exp_eq (call_ev (l := [.str f]) rfl (need_word_ok (n + 2) s hf))) ?_
  refine sq (ifF (or_f (not_ev (k := true) (isi_ev (x := .lst (ws.map .str)) rfl rfl)) (not_ev (k := true) (bi_ev e1 ?_))) nopX) ?_
  · show (match allBl _ with
      | some b => some (D.bl b)
      | none => none) = _
    rw [e2]
  refine sq (exp_eq (call_ev (l := [encW p]) rfl (need_pattern_ok n s h1 h2 h3))) ?_
  refine sq (asg_eq (d := .lst []) (lst_ev (l := []) rfl (by decide))) ?_
  exact sq ((for_eq (x := .lst (ws.map .str)) rfl rfl).trans e) (seq_rt (ret_eq rfl))
end Wk
/-! k06: a round of the law, pure. -/
namespace Wk
/-- a round of the law -/
def bL : S := (.seq (.asg [1, 3] true 2 (.lc [3] (.nm 3) (.rng (.call 22 (.cons (.var 1) (.cons (.cst (.int 9)) .nil)))) (.cst (.bl true)) (.call 29 (.cons (.var 1) .nil)))) (.seq (.for [] (.tp (.cons (.nm 4) (.cons (.nm 5) .nil))) (.bin .add (.call 52 .nil) (.tup (.cons (.tup (.cons (.cst (.str [118])) (.cons (.tup (.cons (.tup (.cons (.cst (.str [112, 108])) (.cons (.cst (.int 0)) (.cons (.cst (.str [])) .nil)))) (.cons (.tup (.cons (.cst (.str [120])) (.cons (.cst (.int 3)) (.cons (.cst (.str [97])) .nil)))) (.cons (.tup (.cons (.cst (.str [121])) (.cons (.cst (.int 1)) (.cons (.cst (.str [97])) .nil)))) (.cons (.tup (.cons (.cst (.str [122])) (.cons (.cst (.int 0)) (.cons (.cst (.str [97, 98, 99, 100])) .nil)))) .nil))))) .nil))) .nil))) (.seq (.asg [] true 6 (.lst .nil)) (.seq (.for [2] (.nm 7) (.var 2) (.seq (.asg [7] true 8 (.lst (.cons (.tup (.cons (.cst (.str [])) (.cons (.var 7) .nil))) .nil))) (.seq (.for [5] (.tp (.cons (.nm 9) (.cons (.nm 10) (.cons (.nm 11) .nil)))) (.var 5) (.seq (.app [7, 9, 10, 11] 8 (.tup (.cons (.var 9) (.cons (.bin .add (.sl (.var 7) (.cst .non) (.bin .sub (.bi .len (.var 7)) (.var 10))) (.var 11)) .nil)))) (.seq (.ite [7, 8, 10] (.or (.cmp .ge (.var 10) (.bi .len (.var 7))) (.cmp .gt (.bi .len (.ix (.ix (.var 8) (.bi .neg (.cst (.int 1)))) (.cst (.int 1)))) (.cst (.int 12)))) (.seq (.asg [8] true 8 (.bin .add (.var 8) (.lst (.cons (.tup (.cons (.cst (.str [115, 104, 111, 114, 116])) (.cons (.cst (.str [])) .nil))) .nil)))) .nop) .nop) .nop))) (.seq (.app [7, 8] 6 (.tup (.cons (.var 7) (.cons (.var 8) .nil)))) .nop)))) (.seq (.asg [1] true 12 (.lst (.cons (.cst (.str [97])) (.cons (.cst (.str [97, 98, 99, 99])) (.cons (.call 29 (.cons (.var 1) .nil)) .nil))))) (.seq (.for [6] (.tp (.cons (.nm 7) (.cons (.nm 8) .nil))) (.var 6) (.seq (.asg [8, 9, 12, 13] true 12 (.bin .add (.var 12) (.sl (.lc [9, 13] (.tp (.cons (.nm 9) (.cons (.nm 13) .nil))) (.var 8) (.chain .lt .lt (.cst (.int 0)) (.bi .len (.var 13)) (.cst (.int 13))) (.var 13)) (.cst .non) (.cst (.int 3))))) .nop)) (.seq (.for [12] (.nm 13) (.var 12) (.seq (.asg [] true 14 (.lst .nil)) (.seq (.for [6] (.tp (.cons (.nm 7) (.cons (.nm 8) .nil))) (.var 6) (.seq (.ite [8] (.cmp .nin (.tup (.cons (.cst (.str [115, 104, 111, 114, 116])) (.cons (.cst (.str [])) .nil))) (.var 8)) (.seq (.asg [7, 8, 9, 13, 14, 15] true 14 (.bin .add (.var 14) (.lc [9, 15] (.tp (.cons (.nm 9) (.cons (.nm 15) .nil))) (.var 8) (.cmp .eq (.var 15) (.var 13)) (.tup (.cons (.var 7) (.cons (.var 9) .nil)))))) .nop) .nop) .nop)) (.seq (.ite [2, 5, 13, 14] (.cmp .ne (.call 51 (.cons (.var 13) (.cons (.var 2) (.cons (.var 5) .nil)))) (.var 14)) (.seq (.ret [] (.cst (.bl false))) .nop) .nop) .nop)))) .nop)))))) .nop))
-- slots: 0=script 1=dice 2=some 3=turn 4=name 5=ways 6=made_of 7=text 8=row 9=mark 10=cut 11=tail 12=every 13=form 14=due 15=one
def nL : Nat := 16
abbrev bPat : S := (bL.at 1).fb
def short : List Nat × List Nat := ([115, 104, 111, 114, 116], [])
def ext (w : List Nat) (x : List Nat × Nat × List Nat) : List (List Nat × List Nat) := (x.1, formOf w x) :: if badForm w x then [short] else []
def rowOf (p : Wy) (w : List Nat) : List (List Nat × List Nat) := ([], w) :: p.flatMap (ext w)
/-! ### the plain law -/
theorem made_good {w : List Nat} : ∀ {p : Wy} (acc : List (List Nat × List Nat)), (∀ x ∈ p, badForm w x = false) → madeGo w p acc = some (acc ++ p.map fun x => (x.1, formOf w x))
  | [], acc, _ => by simp [madeGo]
  | x :: p, acc, h => by
    unfold madeGo
    rw [if_neg (by rw [h x (List.mem_cons_self ..)]; decide), made_good (acc ++ [(x.1, formOf w x)]) fun y hy => h y (List.mem_cons_of_mem _ hy)]
    simp
theorem made_bad {w : List Nat} : ∀ {p : Wy} (acc : List (List Nat × List Nat)) (x : List Nat × Nat × List Nat), x ∈ p → badForm w x = true → madeGo w p acc = none
  | y :: p, acc, x, hx, hb => by
    unfold madeGo
    split
    · rfl
    · rename_i hy
      rcases List.mem_cons.mp hx with rfl | hx
      · exact absurd hb hy
      · exact made_bad _ x hx hb
theorem row_good {w : List Nat} : ∀ {p : Wy}, (∀ x ∈ p, badForm w x = false) → p.flatMap (ext w) = p.map fun x => (x.1, formOf w x)
  | [], _ => rfl
  | x :: p, h => by
    rw [List.flatMap_cons, row_good fun y hy => h y (List.mem_cons_of_mem _ hy)]
    unfold ext
    rw [h x (List.mem_cons_self ..)]
    rfl
theorem short_in {p : Wy} {w : List Nat} (hm : ∀ x ∈ p, x.1.length ≤ 4) : ((rowOf p w).any (· == short) = true ∧ madeL p w = none) ∨ ((rowOf p w).any (· == short) = false ∧ madeL p w = some (rowOf p w)) := by
  by_cases h : ∃ x ∈ p, badForm w x = true
  · obtain ⟨x, hx, hb⟩ := h
    refine .inl ⟨?_, made_bad _ x hx hb⟩
    rw [List.any_eq_true]
    refine ⟨short, List.mem_cons_of_mem _ (List.mem_flatMap.mpr ⟨x, hx, ?_⟩), by simp⟩
    unfold ext
    rw [hb]
    simp
  · have h' : ∀ x ∈ p, badForm w x = false := fun x hx => by
      cases q : badForm w x with
      | false => rfl
      | true => exact absurd ⟨x, hx, q⟩ h
    refine .inr ⟨?_, ?_⟩
    · rw [Bool.eq_false_iff]
      intro q
      rw [List.any_eq_true] at q
      obtain ⟨y, hy, e⟩ := q
      have e : y = short := by simpa using e
      subst e
      unfold rowOf at hy
      rw [row_good h'] at hy
      rcases List.mem_cons.mp hy with hy | hy
      · have := congrArg Prod.fst hy
        simp [short] at this
      · obtain ⟨x, hx, e⟩ := List.mem_map.mp hy
        have e1 := congrArg Prod.fst e
        have := hm x hx
        have e2 : x.1 = short.1 := e1
        rw [e2] at this
        exact absurd this (by decide)
    · unfold madeL rowOf
      rw [made_good _ h', row_good h']
      simp
theorem hits_row {p : Wy} {f w : List Nat} (hm : ∀ x ∈ p, x.1.length ≤ 4) : hits p f w = if (rowOf p w).any (· == short) then [] else (rowOf p w).filterMap fun x => if x.2 == f then some (.tup [.str w, .str x.1]) else none := by
  unfold hits
  rcases short_in (w := w) hm with ⟨h1, h2⟩ | ⟨h1, h2⟩
  · rw [h1, h2]
    rfl
  · rw [h1, h2]
    rfl
theorem cut_mem {A : Type} {l : List A} {lo hi : Option Int} {x : A} (h : x ∈ cut l lo hi) : x ∈ l := by
  unfold cut at h
  exact List.mem_of_mem_drop (List.mem_of_mem_take h)
theorem row_letters {p : Wy} {w : List Nat} (hp : p.all rowB = true) (hw : ∀ c ∈ w, WORDY.contains c = true) : ∀ x ∈ rowOf p w, ∀ c ∈ x.2, WORDY.contains c = true := by
  intro x hx c hc
  rcases List.mem_cons.mp hx with rfl | hx
  · exact hw c hc
  · obtain ⟨y, hy, hx⟩ := List.mem_flatMap.mp hx
    unfold ext at hx
    rcases List.mem_cons.mp hx with rfl | hx
    · rcases List.mem_append.mp hc with hc | hc
      · exact hw c (cut_mem hc)
      · have := List.all_eq_true.mp hp y hy
        unfold rowB smallB at this
        simp only [Bool.and_eq_true] at this
        have h1 := List.all_eq_true.mp this.2.2.2.2 c hc
        have : ∀ c, SMALL.contains c = true → WORDY.contains c = true := fun c hc => by
          have hc : c ∈ SMALL := by simpa using hc
          have : c ∈ WORDY := by
            unfold SMALL at hc
            unfold WORDY
            simp only [List.mem_cons, List.not_mem_nil, or_false] at hc ⊢
            omega
          simpa using this
        exact this c h1
    · split at hx
      · have : x = short := by simpa using hx
        subst this
        cases hc
      · cases hx
theorem pool_wordy : ∀ w ∈ pool, wordy w = true := by decide
theorem wordy_all {w : List Nat} (h : wordy w = true) : ∀ c ∈ w, WORDY.contains c = true := by
  unfold wordy at h
  simp only [Bool.and_eq_true] at h
  exact List.all_eq_true.mp h.2.2
theorem wordy_of {x : List Nat} (h : ∀ c ∈ x, WORDY.contains c = true) (h1 : 0 < x.length) (h2 : x.length < 13) : wordy x = true := by
  unfold wordy
  simp only [Bool.and_eq_true, decide_eq_true_eq]
  exact ⟨h1, by omega, List.all_eq_true.mpr h⟩
theorem rowOf_small {p : Wy} {w : List Nat} (hp : p.all rowB = true) (hw : w.length ≤ 1000) : ∀ x ∈ rowOf p w, x.2.length ≤ most := by
  intro x hx
  rcases List.mem_cons.mp hx with rfl | hx
  · exact small_le hw
  · obtain ⟨y, hy, hx⟩ := List.mem_flatMap.mp hx
    unfold ext at hx
    rcases List.mem_cons.mp hx with rfl | hx
    · refine formOf_le hw ?_
      have := List.all_eq_true.mp hp y hy
      unfold rowB at this
      simp only [Bool.and_eq_true] at this
      exact smallB_le this.2.2 (by decide)
    · split at hx
      · have : x = short := by simpa using hx
        subst this
        decide
      · cases hx
theorem rowOf_len {p : Wy} {w : List Nat} : (rowOf p w).length ≤ 1 + 2 * p.length := by
  unfold rowOf
  have : ∀ q : Wy, (q.flatMap (ext w)).length ≤ 2 * q.length := fun q => by
    induction q with
    | nil => simp
    | cons x q ih =>
      rw [List.flatMap_cons, List.length_append, List.length_cons]
      have : (ext w x).length ≤ 2 := by
        unfold ext
        split <;> simp
      omega
  have := this p
  rw [List.length_cons]
  omega
def mkR (p : Wy) (w : List Nat) : D := .tup [.str w, .lst (encR (rowOf p w))]
def goodOf (p : Wy) (w : List Nat) : List D := cut ((rowOf p w).filterMap fun x => if decide (0 < x.2.length) && decide (x.2.length < 13) then some (.str x.2) else none) none (some 3)
theorem cut3 {A : Type} (l : List A) : (cut l none (some 3)).length ≤ 3 := by
  unfold cut
  rw [List.length_take]
  have : sIx l.length l.length (some 3) ≤ 3 := by
    show (if (3 : Int) < 0 then ((3 : Int) + (l.length : Int)).toNat else min (3 : Int).toNat l.length) ≤ 3
    rw [if_neg (by decide)]
    exact Nat.min_le_left _ _
  omega
theorem goodOf_wordy {p : Wy} {w : List Nat} (hp : p.all rowB = true) (hw : wordy w = true) : ∀ d ∈ goodOf p w, ∃ f, d = .str f ∧ wordy f = true := by
  intro d hd
  obtain ⟨x, hx, e⟩ := List.mem_filterMap.mp (cut_mem hd)
  split at e
  · rename_i h
    cases e
    simp only [Bool.and_eq_true, decide_eq_true_eq] at h
    exact ⟨x.2, rfl, wordy_of (row_letters hp (wordy_all hw) x hx) h.1 h.2⟩
  · cases e
theorem inL_row (a : List Nat × List Nat) : ∀ R : List (List Nat × List Nat), inL (enc2 a) (encR R) = R.any (· == a)
  | [] => rfl
  | y :: R => by
    have ih := inL_row a R
    unfold inL encR at ih ⊢
    rw [List.map_cons, List.any_cons, List.any_cons, ih]
    congr 1
    show ((y.1 == a.1) && ((y.2 == a.2) && true)) = ((y.1 == a.1) && (y.2 == a.2))
    rw [Bool.and_true]
theorem okR (R : List (List Nat × List Nat)) : dataOk (.lst (encR R)) = true := dataOk_lst fun d hd => by
  obtain ⟨x, _, rfl⟩ := List.mem_map.mp hd
  rfl
theorem nin_row (a : List Nat × List Nat) (R : List (List Nat × List Nat)) : cmpD .nin (enc2 a) (.lst (encR R)) = some (!R.any (· == a)) := by
  show (if dataOk (enc2 a) && dataOk (.lst (encR R)) then some (!inL (enc2 a) (encR R)) else none) = _
  rw [okR, inL_row]
  rfl
theorem okHits (p : Wy) (f : List Nat) (ws : List (List Nat)) : dataOk (.lst (ws.flatMap (hits p f))) = true := dataOk_lst fun d hd => by
  obtain ⟨w, _, hd⟩ := List.mem_flatMap.mp hd
  unfold hits at hd
  split at hd
  · obtain ⟨x, _, e⟩ := List.mem_filterMap.mp hd
    split at e
    · cases e
      rfl
    · cases e
  · cases hd
theorem sl_lst_ev {cl : CallT} {a : E} {en : En} {s : Sta} {l : List D} {j : Int} (h : evE cl a en s = .ok (.lst l) s) : evE cl (.sl a (.cst .non) (.cst (.int j))) en s = .ok (.lst (cut l none (some j))) s := by
  rw [evE, h]
  rfl
theorem filt_congr {A B : Type} {f g : A → Option B} {l : List A} (h : ∀ x ∈ l, f x = g x) : l.filterMap f = l.filterMap g := by
  induction l with
  | nil => rfl
  | cons x l ih => rw [List.filterMap_cons, List.filterMap_cons, h x (List.mem_cons_self ..), ih fun y hy => h y (List.mem_cons_of_mem _ hy)]
/-! ### the walk -/
section
variable {n : Nat} {s : Sta} {p : Wy} {L : D}
/-- a row of the law: one way more -/
theorem row_turn {w : List Nat} (hw : w.length ≤ 1000) {x : List Nat × Nat × List Nat} (hx : x.2.2.length ≤ 1000) {M acc : List D} (hl : acc.length + 2 ≤ 50000) (g0 g3 g4 g12 g13 g14 g15 : Sl) :
    ∃ h0 h3 h4 h12 h13 h14 h15, xec (run n) ((bPat.at 1).fb.at 1).fb [g0, .sh .dice, .sh L, g3, g4, .sh (encW p), .ow (.lst M), .sh (.str w), .ow (.lst acc), .sh (.str x.1), .sh (.int x.2.1), .sh (.str x.2.2), g12, g13, g14, g15] s =
      .ok (.nx [h0, .sh .dice, .sh L, h3, h4, .sh (encW p), .ow (.lst M), .sh (.str w), .ow (.lst (acc ++ encR (ext w x))), .sh (.str x.1), .sh (.int x.2.1), .sh (.str x.2.2), h12, h13, h14, h15]) s := by
  have hm : most = 100000 := rfl
  have e1 : ∀ en : En, en[7]? = some (some (.str w)) → en[9]? = some (some (.str x.1)) → en[10]? = some (some (.int x.2.1)) → en[11]? = some (some (.str x.2.2)) →
      evE (run n) (.tup (.cons (.var 9) (.cons (.bin .add (.sl (.var 7) (.cst .non) (.bin .sub (.bi .len (.var 7)) (.var 10))) (.var 11)) .nil))) en s = .ok (enc2 (x.1, formOf w x)) s := fun en a b c d =>
    tup_ev (cons_ev (by rw [evE, b]) (cons_ev (form_ev hw hx (by rw [evE, a]) (by rw [evE, c]) (by rw [evE, d])) rfl)) (by rw [hm]; simp)
  have eb : ∀ en : En, en[7]? = some (some (.str w)) → en[8]? = some (some (.lst (acc ++ [enc2 (x.1, formOf w x)]))) → en[10]? = some (some (.int x.2.1)) →
      evE (run n) (.or (.cmp .ge (.var 10) (.bi .len (.var 7))) (.cmp .gt (.bi .len (.ix (.ix (.var 8) (.bi .neg (.cst (.int 1)))) (.cst (.int 1)))) (.cst (.int 12)))) en s = .ok (.bl (badForm w x)) s := fun en a b c =>
    bad_ev (by rw [evE, c]) (bi_ev (by rw [evE, a]) (len_str (small_le hw))) (cmp_ev (bi_ev (ix_ev (x := enc2 (x.1, formOf w x)) (ix_ev (x := .lst (acc ++ [enc2 (x.1, formOf w x)])) (by rw [evE, b]) (bi_ev (x := .int 1) rfl rfl) (getI_last _ _)) rfl rfl) (len_str (formOf_le hw hx))) rfl gt12)
  cases hb : badForm w x with
  | true =>
    have ee : acc ++ encR (ext w x) = (acc ++ [enc2 (x.1, formOf w x)]) ++ [enc2 short] := by
      unfold ext
      rw [hb]
      simp [encR]
    rw [ee]
    refine ⟨_, _, _, _, _, _, _, sq (app_eq (l := acc) rfl (e1 _ rfl rfl rfl rfl) rfl (by omega)) (sq (ifT ((eb _ rfl rfl rfl).trans (by rw [hb])) (sq (asg_eq (bin_ev rfl (lst_ev (l := [enc2 short]) rfl (by rw [hm]; decide)) (bin_lst ?_))) nopX)) rfl)⟩
    simp
    omega
  | false =>
    have ee : acc ++ encR (ext w x) = acc ++ [enc2 (x.1, formOf w x)] := by
      unfold ext
      rw [hb]
      rfl
    rw [ee]
    exact ⟨_, _, _, _, _, _, _, sq (app_eq (l := acc) rfl (e1 _ rfl rfl rfl rfl) rfl (by omega)) (sq (ifF ((eb _ rfl rfl rfl).trans (by rw [hb])) nopX) rfl)⟩
/-- the frame while the rows are made -/
def J1 (p : Wy) (L : D) (M : List D) (r : Fr) : Prop := ∃ g0 g3 g4 g7 g8 g9 g10 g11 g12 g13 g14 g15, r = [g0, .sh .dice, .sh L, g3, g4, .sh (encW p), .ow (.lst M), g7, g8, g9, g10, g11, g12, g13, g14, g15]
theorem text_turn (hp : p.all rowB = true) (h6 : p.length ≤ 6) {w : List Nat} (hw : w.length ≤ 1000) {M : List D} (hM : M.length ≤ 5000) {r : Fr} (J : J1 p L M r) :
    ∃ r', ((ofO s (bindF (.nm 7) (.str w) r)).bind fun r' s => xec (run n) (bPat.at 1).fb r' s) = .ok (.nx r') s ∧ J1 p L (M ++ [mkR p w]) r' := by
  obtain ⟨g0, g3, g4, g7, g8, g9, g10, g11, g12, g13, g14, g15, rfl⟩ := J
  have hm : most = 100000 := rfl
  have tails : ∀ x ∈ p, x.2.2.length ≤ 1000 := fun x hx => by
    have := List.all_eq_true.mp hp x hx
    unfold rowB at this
    simp only [Bool.and_eq_true] at this
    exact smallB_le this.2.2 (by decide)
  -- the inner loop
  let J2 : List D → Fr → Prop := fun acc r => ∃ g0 g3 g4 g9 g10 g11 g12 g13 g14 g15, r = [g0, .sh .dice, .sh L, g3, g4, .sh (encW p), .ow (.lst M), .sh (.str w), .ow (.lst acc), g9, g10, g11, g12, g13, g14, g15]
  have lp := for_acc (s := s) (f := fun x r s => (ofO s (bindF (.tp (.cons (.nm 9) (.cons (.nm 10) (.cons (.nm 11) .nil)))) x r)).bind fun r' s => xec (run n) ((bPat.at 1).fb.at 1).fb r' s) J2 enc3 (fun x => encR (ext w x)) 2 50000 p
  obtain ⟨r1, e1, h0', h3', h4', h9', h10', h11', h12', h13', h14', h15', rfl⟩ := lp [enc2 ([], w)] (freeze [5] ((afterE [7] [g0, .sh .dice, .sh L, g3, g4, .sh (encW p), .ow (.lst M), .sh (.str w), g8, g9, g10, g11, g12, g13, g14, g15] (.lst [enc2 ([], w)])).set 8 (.ow (.lst [enc2 ([], w)]))))
    (by simp; omega) ⟨_, _, _, _, _, _, _, _, _, _, rfl⟩ (fun x _ => by unfold ext encR; split <;> simp) (fun x hx acc r hl J => by
      obtain ⟨g0, g3, g4, g9, g10, g11, g12, g13, g14, g15, rfl⟩ := J
      obtain ⟨k0, k3, k4, k12, k13, k14, k15, e⟩ := row_turn (n := n) (s := s) (p := p) (L := L) hw (tails x hx) (M := M) (acc := acc) hl g0 g3 g4 g12 g13 g14 g15
      exact ⟨_, e, _, _, _, _, _, _, _, _, _, _, rfl⟩)
  have er : [enc2 ([], w)] ++ p.flatMap (fun x => encR (ext w x)) = encR (rowOf p w) := by
    unfold rowOf encR
    rw [List.map_cons, List.map_flatMap]
    rfl
  rw [er] at e1
  show ∃ r', xec (run n) (bPat.at 1).fb [g0, .sh .dice, .sh L, g3, g4, .sh (encW p), .ow (.lst M), .sh (.str w), g8, g9, g10, g11, g12, g13, g14, g15] s = .ok (.nx r') s ∧ J1 p L (M ++ [mkR p w]) r'
  refine ⟨_, sq (asg_eq (d := .lst [enc2 ([], w)]) (lst_ev (l := [enc2 ([], w)]) rfl (by rw [hm]; simp))) (sq ((for_eq (x := encW p) rfl rfl).trans e1) (sq (app_eq (l := M) (d := mkR p w) rfl rfl rfl (by omega)) nopX)), ?_⟩
  exact ⟨_, _, _, _, _, _, _, _, _, _, _, _, rfl⟩
/-- the frame while the forms are gathered -/
def J3 (p : Wy) (L Md : D) (acc : List D) (r : Fr) : Prop := (∀ d ∈ acc, ∃ f, d = .str f ∧ wordy f = true) ∧ ∃ g0 g3 g4 g7 g8 g9 g10 g11 g13 g14 g15, r = [g0, .sh .dice, .sh L, g3, g4, .sh (encW p), .sh Md, g7, g8, g9, g10, g11, .ow (.lst acc), g13, g14, g15]
theorem every_turn {Md : D} (hp : p.all rowB = true) (h6 : p.length ≤ 6) {w : List Nat} (hw : wordy w = true) {acc : List D} (hM : acc.length + 3 ≤ 5000) {r : Fr} (J : J3 p L Md acc r) :
    ∃ r', ((ofO s (bindF (.tp (.cons (.nm 7) (.cons (.nm 8) .nil))) (mkR p w) r)).bind fun r' s => xec (run n) (bPat.at 3).fb r' s) = .ok (.nx r') s ∧ J3 p L Md (acc ++ goodOf p w) r' := by
  obtain ⟨hg, g0, g3, g4, g7, g8, g9, g10, g11, g13, g14, g15, rfl⟩ := J
  have hm : most = 100000 := rfl
  have hw1 : w.length ≤ 1000 := by have := wordy_le hw; omega
  have hr := rowOf_len (p := p) (w := w)
  have e1 : ∀ en : En, en.length = 16 → en[8]? = some (some (.lst (encR (rowOf p w)))) → evE (run n) (.lc [9, 13] (.tp (.cons (.nm 9) (.cons (.nm 13) .nil))) (.var 8) (.chain .lt .lt (.cst (.int 0)) (.bi .len (.var 13)) (.cst (.int 13))) (.var 13)) en s =
      .ok (.lst ((rowOf p w).filterMap fun x => if decide (0 < x.2.length) && decide (x.2.length < 13) then some (.str x.2) else none)) s := fun en hl h8 => by
    have at13 : ∀ m o : List Nat, (((wipeE en [9, 13]).set 9 (some (.str m))).set 13 (some (.str o)))[13]? = some (some (.str o)) := fun m o => by
      rw [List.getElem?_set, if_pos rfl, if_pos]
      rw [List.length_set]
      show 13 < ((en.set 13 none).set 9 none).length
      rw [List.length_set, List.length_set, hl]
      decide
    refine pick_ev (fun m o => decide (0 < o.length) && decide (o.length < 13)) (fun m o => .str o) (x := .lst (encR (rowOf p w))) (by rw [evE, h8]) rfl (by omega) (fun m o hmo => ?_) fun m o hmo => ?_
    · refine (chain_b (x := .int 0) (y := .int o.length) (z := .int 13) rfl (bi_ev (x := .str o) (by rw [evE, at13]) (len_str (rowOf_small hp hw1 (m, o) hmo))) rfl rfl rfl).trans ?_
      have a1 : decide ((0 : Int) < o.length) = decide (0 < o.length) := by congr 1; apply propext; omega
      have a2 : decide ((o.length : Int) < 13) = decide (o.length < 13) := by congr 1; apply propext; omega
      rw [a1, a2]
    · rw [evE, at13]
  have c3 := cut3 ((rowOf p w).filterMap fun x => if decide (0 < x.2.length) && decide (x.2.length < 13) then some (D.str x.2) else none)
  show ∃ r', xec (run n) (bPat.at 3).fb [g0, .sh .dice, .sh L, g3, g4, .sh (encW p), .sh Md, .sh (.str w), .sh (.lst (encR (rowOf p w))), g9, g10, g11, .ow (.lst acc), g13, g14, g15] s = .ok (.nx r') s ∧ J3 p L Md (acc ++ goodOf p w) r'
  refine ⟨_, sq (asg_eq (d := .lst (acc ++ goodOf p w)) (bin_ev (x := .lst acc) (y := .lst (goodOf p w)) rfl (sl_lst_ev (e1 _ rfl rfl)) (bin_lst ?_))) nopX, ?_, _, _, _, _, _, _, _, _, _, _, _, rfl⟩
  · unfold goodOf
    omega
  · intro d hd
    rcases List.mem_append.mp hd with hd | hd
    · exact hg d hd
    · exact goodOf_wordy hp hw d hd
/-- the frame while what is due is gathered -/
def J4 (p : Wy) (L Md g12 : D) (f : List Nat) (acc : List D) (r : Fr) : Prop := ∃ g0 g3 g4 g7 g8 g9 g10 g11 g15, r = [g0, .sh .dice, .sh L, g3, g4, .sh (encW p), .sh Md, g7, g8, g9, g10, g11, .sh g12, .sh (.str f), .ow (.lst acc), g15]
theorem due_turn {Md g12 : D} (hp : p.all rowB = true) (h6 : p.length ≤ 6) {f w : List Nat} {acc : List D} (hM : acc.length + 7 ≤ 5000) {r : Fr} (J : J4 p L Md g12 f acc r) :
    ∃ r', ((ofO s (bindF (.tp (.cons (.nm 7) (.cons (.nm 8) .nil))) (mkR p w) r)).bind fun r' s => xec (run n) ((bPat.at 4).fb.at 1).fb r' s) = .ok (.nx r') s ∧ J4 p L Md g12 f (acc ++ hits p f w) r' := by
  obtain ⟨g0, g3, g4, g7, g8, g9, g10, g11, g15, rfl⟩ := J
  have hm : most = 100000 := rfl
  have hr := rowOf_len (p := p) (w := w)
  have hh := hits_len (p := p) (f := f) (w := w)
  have marks : ∀ x ∈ p, x.1.length ≤ 4 := fun x hx => by
    have := List.all_eq_true.mp hp x hx
    unfold rowB smallB at this
    simp only [Bool.and_eq_true, decide_eq_true_eq] at this
    omega
  have en := hits_row (p := p) (f := f) (w := w) marks
  show ∃ r', xec (run n) ((bPat.at 4).fb.at 1).fb [g0, .sh .dice, .sh L, g3, g4, .sh (encW p), .sh Md, .sh (.str w), .sh (.lst (encR (rowOf p w))), g9, g10, g11, .sh g12, .sh (.str f), .ow (.lst acc), g15] s = .ok (.nx r') s ∧ J4 p L Md g12 f (acc ++ hits p f w) r'
  cases hs : (rowOf p w).any (· == short) with
  | true =>
    rw [hs] at en
    rw [en]
    refine ⟨_, sq (ifF (cmp_ev (x := enc2 short) (y := .lst (encR (rowOf p w))) (tup_ev (l := [.str short.1, .str short.2]) rfl (by rw [hm]; decide)) rfl (by rw [nin_row, hs]; rfl)) nopX) nopX, ?_⟩
    have e0 : acc ++ (if true = true then [] else (rowOf p w).filterMap fun x => if (x.2 == f) = true then some (D.tup [.str w, .str x.1]) else none) = acc := by simp
    rw [e0]
    exact ⟨_, _, _, _, _, _, _, _, _, rfl⟩
  | false =>
    have hs' := hs
    rw [hs] at en
    have en : hits p f w = (rowOf p w).filterMap fun x => if x.2 == f then some (.tup [.str w, .str x.1]) else none := en
    refine ⟨_, sq (ifT (cmp_ev (x := enc2 short) (y := .lst (encR (rowOf p w))) (tup_ev (l := [.str short.1, .str short.2]) rfl (by rw [hm]; decide)) rfl (by rw [nin_row, hs]; rfl))
      (sq (asg_eq (d := .lst (acc ++ hits p f w)) (bin_ev (x := .lst acc) (y := .lst (hits p f w)) rfl ?_ (bin_lst (by omega)))) nopX)) nopX, ?_⟩
    · rw [en]
      exact pick_ev (fun m o => o == f) (fun m o => .tup [.str w, .str m]) (x := .lst (encR (rowOf p w))) rfl rfl (by omega) (fun m o _ => rfl) fun m o _ => rfl
    · exact ⟨_, _, _, _, _, _, _, _, _, rfl⟩
/-- a form -/
theorem form_turn {m : Nat} {ws : List (List Nat)} (hp : p.all rowB = true) (h6 : p.length ≤ 6) (hu : unlike (p.map (·.1)) = p.length) (hws : ∀ w ∈ ws, wordy w = true) (hl : ws.length ≤ 500) {f : List Nat} (hf : wordy f = true) (g0 g3 g4 g7 g8 g9 g10 g11 g13 g14 g15 : Sl) (g12 : D) :
    ∃ h0 h3 h4 h7 h8 h9 h10 h11 h13 h14 h15, xec (run (m + 5)) (bPat.at 4).fb [g0, .sh .dice, .sh (.lst (ws.map .str)), g3, g4, .sh (encW p), .sh (.lst (ws.map (mkR p))), g7, g8, g9, g10, g11, .sh g12, .sh (.str f), g14, g15] s =
      .ok (.nx [h0, .sh .dice, .sh (.lst (ws.map .str)), h3, h4, .sh (encW p), .sh (.lst (ws.map (mkR p))), h7, h8, h9, h10, h11, .sh g12, h13, h14, h15]) s := by
  have lp := for_acc (s := s) (f := fun x r s => (ofO s (bindF (.tp (.cons (.nm 7) (.cons (.nm 8) .nil))) x r)).bind fun r' s => xec (run (m + 5)) ((bPat.at 4).fb.at 1).fb r' s) (J4 p (.lst (ws.map .str)) (.lst (ws.map (mkR p))) g12 f) (mkR p) (hits p f) 7 5000 ws
  obtain ⟨r1, e1, h0, h3, h4, h7, h8, h9, h10, h11, h15, rfl⟩ := lp [] (freeze [6] ((afterE [] [g0, .sh .dice, .sh (.lst (ws.map .str)), g3, g4, .sh (encW p), .sh (.lst (ws.map (mkR p))), g7, g8, g9, g10, g11, .sh g12, .sh (.str f), g14, g15] (.lst [])).set 14 (.ow (.lst []))))
    (by simp; omega) ⟨_, _, _, _, _, _, _, _, _, rfl⟩ (fun w _ => Nat.le_trans hits_len (by omega)) (fun w hw acc r hl J => due_turn hp h6 hl J)
  have wh := whose_ok m s (p := p) (f := f) (ws := ws) h6 hp hu hf hws (by omega)
  refine ⟨_, _, _, _, _, _, _, _, _, _, _, sq (asg_eq (d := .lst []) (lst_ev (l := []) rfl (by decide))) (sq ((for_eq (x := .lst (ws.map (mkR p))) rfl rfl).trans e1) (sq (ifF (cmp_ev (x := .lst (ws.flatMap (hits p f))) (y := .lst (ws.flatMap (hits p f))) (call_ev (l := [.str f, .lst (ws.map .str), encW p]) rfl wh) rfl (ne_self (okHits p f ws))) nopX) nopX))⟩
theorem flat_one {A B : Type} (f : A → B) : ∀ l : List A, (l.flatMap fun x => [f x]) = l.map f
  | [] => rfl
  | x :: l => by rw [List.flatMap_cons, flat_one f l]; rfl
/-- the frame between two patterns -/
def J0 (L : D) (r : Fr) : Prop := ∃ g0 x2 g3 g4 g5 g6 g7 g8 g9 g10 g11 g12 g13 g14 g15, r = [g0, .sh .dice, x2, g3, g4, g5, g6, g7, g8, g9, g10, g11, g12, g13, g14, g15] ∧ (x2 = .ow L ∨ x2 = .sh L)
theorem pat_turn {m : Nat} {ws : List (List Nat)} (hp : p.all rowB = true) (h6 : p.length ≤ 6) (hu : unlike (p.map (·.1)) = p.length) (hws : ∀ w ∈ ws, wordy w = true) (hl : ws.length ≤ 500) (nm : List Nat) {r : Fr} (J : J0 (.lst (ws.map .str)) r) :
    ∃ r' s', ((ofO s (bindF (.tp (.cons (.nm 4) (.cons (.nm 5) .nil))) (.tup [.str nm, encW p]) r)).bind fun r' s => xec (run (m + 5)) bPat r' s) = .ok (.nx r') s' ∧ J0 (.lst (ws.map .str)) r' := by
  obtain ⟨g0, x2, g3, g4, g5, g6, g7, g8, g9, g10, g11, g12, g13, g14, g15, rfl, hx⟩ := J
  show ∃ r' s', xec (run (m + 5)) bPat [g0, .sh .dice, x2, g3, .sh (.str nm), .sh (encW p), g6, g7, g8, g9, g10, g11, g12, g13, g14, g15] s = .ok (.nx r') s' ∧ J0 (.lst (ws.map .str)) r'
  have v2 : slV true x2 = some (.lst (ws.map .str)) := by rcases hx with rfl | rfl <;> rfl
  have f2 : slF true (slF false x2) = .sh (.lst (ws.map .str)) := by rcases hx with rfl | rfl <;> rfl
  have v2' : slV true (slF false x2) = some (.lst (ws.map .str)) := by rcases hx with rfl | rfl <;> rfl
  have hm : most = 100000 := rfl
  -- the rows
  have l1 := for_acc (s := s) (f := fun x r s => (ofO s (bindF (.nm 7) x r)).bind fun r' s => xec (run (m + 5)) (bPat.at 1).fb r' s) (J1 p (.lst (ws.map .str))) D.str (fun w => [mkR p w]) 1 5000 ws
  obtain ⟨r1, e1, j1⟩ := l1 [] (freeze [2] ((afterE [] [g0, .sh .dice, x2, g3, .sh (.str nm), .sh (encW p), g6, g7, g8, g9, g10, g11, g12, g13, g14, g15] (.lst [])).set 6 (.ow (.lst []))))
    (by simp; omega) ⟨_, _, _, _, _, _, _, _, _, _, _, _, by show [_, _, slF true (slF false x2), _, _, _, _, _, _, _, _, _, _, _, _, _] = _; rw [f2]; rfl⟩ (fun w _ => Nat.le_refl _) (fun w hw acc r hl J => text_turn hp h6 (by have := wordy_le (hws w hw); omega) (by omega) J)
  have eM : ([] : List D) ++ ws.flatMap (fun w => [mkR p w]) = ws.map (mkR p) := by rw [List.nil_append, flat_one]
  rw [eM] at j1
  obtain ⟨k0, k3, k4, k7, k8, k9, k10, k11, k12, k13, k14, k15, rfl⟩ := j1
  -- the forms
  obtain ⟨w', hw', s1, ea⟩ := any_ok (m + 2) s
  have l2 := for_acc (s := s1) (f := fun x r s => (ofO s (bindF (.tp (.cons (.nm 7) (.cons (.nm 8) .nil))) x r)).bind fun r' s => xec (run (m + 5)) (bPat.at 3).fb r' s) (J3 p (.lst (ws.map .str)) (.lst (ws.map (mkR p)))) (mkR p) (goodOf p) 3 5000 ws
  obtain ⟨r2, e2, hg, q0, q3, q4, q7, q8, q9, q10, q11, q13, q14, q15, rfl⟩ := l2 [.str [97], .str [97, 98, 99, 99], .str w'] (freeze [6] ((afterE [1] [k0, .sh .dice, .sh (.lst (ws.map .str)), k3, k4, .sh (encW p), .ow (.lst (ws.map (mkR p))), k7, k8, k9, k10, k11, k12, k13, k14, k15] (.lst [.str [97], .str [97, 98, 99, 99], .str w'])).set 12 (.ow (.lst [.str [97], .str [97, 98, 99, 99], .str w']))))
    (by simp; omega) ⟨fun d hd => by
      simp only [List.mem_cons, List.not_mem_nil, or_false] at hd
      rcases hd with rfl | rfl | rfl
      · exact ⟨_, rfl, by decide⟩
      · exact ⟨_, rfl, by decide⟩
      · exact ⟨_, rfl, pool_wordy w' hw'⟩, _, _, _, _, _, _, _, _, _, _, _, rfl⟩ (fun w _ => cut3 _) (fun w hw acc r hl J => every_turn hp h6 (hws w hw) hl J)
  generalize hE : [D.str [97], .str [97, 98, 99, 99], .str w'] ++ ws.flatMap (goodOf p) = Ev at hg e2
  -- each form
  obtain ⟨r3, s3, e3, j3⟩ := for_inv (f := fun x r s => (ofO s (bindF (.nm 13) x r)).bind fun r' s => xec (run (m + 5)) (bPat.at 4).fb r' s)
    (fun r => ∃ g0 g3 g4 g7 g8 g9 g10 g11 g13 g14 g15, r = [g0, .sh .dice, .sh (.lst (ws.map .str)), g3, g4, .sh (encW p), .sh (.lst (ws.map (mkR p))), g7, g8, g9, g10, g11, .sh (.lst Ev), g13, g14, g15]) Ev (freeze [12] [q0, .sh .dice, .sh (.lst (ws.map .str)), q3, q4, .sh (encW p), .sh (.lst (ws.map (mkR p))), q7, q8, q9, q10, q11, .ow (.lst Ev), q13, q14, q15]) s1 ⟨_, _, _, _, _, _, _, _, _, _, _, rfl⟩ fun d hd r s J => by
      obtain ⟨f, rfl, hf⟩ := hg d hd
      obtain ⟨g0, g3, g4, g7, g8, g9, g10, g11, g13, g14, g15, rfl⟩ := J
      obtain ⟨h0, h3, h4, h7, h8, h9, h10, h11, h13, h14, h15, e⟩ := form_turn (m := m) (s := s) hp h6 hu hws hl hf g0 g3 g4 g7 g8 g9 g10 g11 g13 g14 g15 (.lst Ev)
      exact ⟨_, s, e, _, _, _, _, _, _, _, _, _, _, _, rfl⟩
  obtain ⟨z0, z3, z4, z7, z8, z9, z10, z11, z13, z14, z15, rfl⟩ := j3
  refine ⟨_, s3, sq (asg_eq (d := .lst []) (lst_ev (l := []) rfl (by decide))) (sq ((for_eq (x := .lst (ws.map .str)) ?_ rfl).trans e1) (sq (asg_eq (d := .lst [.str [97], .str [97, 98, 99, 99], .str w']) (lst_ev (cons_ev rfl (cons_ev rfl (cons_ev (call_ev (l := [.dice]) rfl ea) rfl))) (by rw [hm]; simp))) (sq ((for_eq (x := .lst (ws.map (mkR p))) rfl rfl).trans e2) (sq ((for_eq (x := .lst Ev) rfl rfl).trans e3) nopX)))), ?_⟩
  · show (match some (slV true (slF false x2)) with
      | some (some d) => Res.ok d s
      | _ => .bad) = _
    rw [v2']
  · exact ⟨_, _, _, _, _, _, _, _, _, _, _, _, _, _, _, rfl, .inr rfl⟩
end
def patsN : List (List Nat × Wy) := [([115], [([112, 108], 0, [97]), ([120], 1, [99, 99])]), ([116], []), ([117], [([121], 2, [])]), ([118], [([112, 108], 0, []), ([120], 3, [97]), ([121], 1, [97]), ([122], 0, [97, 98, 99, 100])])]
theorem patsN_ok : ∀ x ∈ patsN, x.2.all rowB = true ∧ x.2.length ≤ 6 ∧ unlike (x.2.map (·.1)) = x.2.length := by decide
def fuel : Nat := 8
theorem upTo_length : ∀ (k : Nat) (lo : Int), (upTo lo k).length = k
  | 0, _ => rfl
  | k + 1, lo => by simp [upTo, upTo_length k]
/-- some = [_law_any(dice) for turn in range(..)] -/
theorem some_ok (m : Nat) (s : Sta) (k : Nat) (hk : k ≤ 500) (en : En) (h1 : (wipeE en [3])[1]? = some (some .dice)) : ∃ (ws : List (List Nat)) (s' : Sta), (∀ w ∈ ws, w ∈ pool) ∧ ws.length ≤ k ∧
    lcRun (fun x s => (ofO s (bindT (.nm 3) x (wipeE en [3]))).bind fun r' s => (evE (run (m + 3)) (.cst (.bl true)) r' s).bind fun x s => (ofO s (blD x)).bind fun k s => if k then (evE (run (m + 3)) (.call 29 (.cons (.var 1) .nil)) r' s).bind fun d s => .ok (some d) s else .ok none s) (upTo 0 k) [] s = .ok (ws.map .str) s' := by
  obtain ⟨acc, s', e, ws, rfl, hw, hl⟩ := lc_all (s := s) (f := fun x s => (ofO s (bindT (.nm 3) x (wipeE en [3]))).bind fun r' s => (evE (run (m + 3)) (.cst (.bl true)) r' s).bind fun x s => (ofO s (blD x)).bind fun k s => if k then (evE (run (m + 3)) (.call 29 (.cons (.var 1) .nil)) r' s).bind fun d s => .ok (some d) s else .ok none s)
    (fun dn acc s => ∃ ws : List (List Nat), acc = ws.map .str ∧ (∀ w ∈ ws, w ∈ pool) ∧ ws.length = dn.length) (upTo 0 k) ⟨[], rfl, fun _ h => (by cases h), rfl⟩ (by rw [upTo_length]; exact small_le (by omega)) fun dn x rest acc s e h => by
      obtain ⟨ws, rfl, hw, hl⟩ := h
      obtain ⟨w, hw', s', ea⟩ := any_ok m s
      refine ⟨by simp [hl], .inr ⟨.str w, s', ?_, ws ++ [w], by simp, forall_app hw hw', by simp [hl]⟩⟩
      have h2 : ((wipeE en [3]).set 3 (some x))[1]? = some (some .dice) := by
        rw [List.getElem?_set_ne (by decide)]
        exact h1
      show ((evE (run (m + 3)) (.call 29 (.cons (.var 1) .nil)) ((wipeE en [3]).set 3 (some x)) s).bind _) = _
      rw [call_ev (l := [.dice]) (cons_ev (x := .dice) (by rw [evE, h2]) rfl) ea]
      rfl
  exact ⟨ws, s', hw, by rw [hl, upTo_length]; exact Nat.le_refl _, e⟩
theorem pats_ev (en : En) (s : Sta) : evE (run 8) (bL.at 1).it en s = .ok (.tup (patsN.map fun x => .tup [.str x.1, encW x.2])) s := rfl
theorem fr0 : frD nL = [.no, .sh .dice, .no, .no, .no, .no, .no, .no, .no, .no, .no, .no, .no, .no, .no, .no] := rfl
theorem round_ok : ∀ c k : Int, ∃ r s, xec (runF P fuel) bL (frD nL) ⟨(c, k)⟩ = .ok (.nx r) s := by
  intro c k
  show ∃ r s, xec (run 8) bL (frD nL) ⟨(c, k)⟩ = .ok (.nx r) s
  rw [fr0]
  obtain ⟨t, s1, e1, h0, h1⟩ := roll 6 (m := 9) (by decide) (by decide) ⟨(c, k)⟩
  have e1 : run 8 22 [.dice, .int 9] ⟨(c, k)⟩ = .ok (.int t) s1 := e1
  obtain ⟨ws, s2, hw, hl, e2⟩ := some_ok 5 s1 t.toNat (by omega) [none, some .dice, none, none, none, none, none, none, none, none, none, none, none, none, none, none] rfl
  have hws : ∀ w ∈ ws, wordy w = true := fun w h => pool_wordy w (hw w h)
  have hl : ws.length ≤ 500 := by omega
  have hm : most = 100000 := rfl
  have ev : evE (run 8) (bL.at 0).it [none, some .dice, none, none, none, none, none, none, none, none, none, none, none, none, none, none] ⟨(c, k)⟩ = .ok (.lst (ws.map .str)) s2 :=
    lc_ev (rng_ev (call_ev (l := [.dice, .int 9]) rfl e1) (by omega) (by omega)) rfl e2
  obtain ⟨r3, s3, e3, _⟩ := for_inv (f := fun x r s => (ofO s (bindF (.tp (.cons (.nm 4) (.cons (.nm 5) .nil))) x r)).bind fun r' s => xec (run 8) bPat r' s) (J0 (.lst (ws.map .str))) (patsN.map fun x => .tup [.str x.1, encW x.2])
    (freeze [] ((afterE [1, 3] [.no, .sh .dice, .no, .no, .no, .no, .no, .no, .no, .no, .no, .no, .no, .no, .no, .no] (.lst (ws.map .str))).set 2 (.ow (.lst (ws.map .str))))) s2 ⟨_, _, _, _, _, _, _, _, _, _, _, _, _, _, _, rfl, .inl rfl⟩ fun d hd r s J => by
      obtain ⟨x, hx, rfl⟩ := List.mem_map.mp hd
      obtain ⟨q1, q2, q3⟩ := patsN_ok x hx
      exact pat_turn (m := 3) q1 q2 q3 hws hl x.1 J
  refine ⟨r3, s3, ?_⟩
  refine sq (asg_eq (d := .lst (ws.map .str)) ev) ?_
  have e4 : xec (run 8) (.for [] (.tp (.cons (.nm 4) (.cons (.nm 5) .nil))) (bL.at 1).it bPat) ((afterE [1, 3] [.no, .sh .dice, .no, .no, .no, .no, .no, .no, .no, .no, .no, .no, .no, .no, .no, .no] (.lst (ws.map .str))).set 2 (.ow (.lst (ws.map .str)))) s2 = .ok (.nx r3) s3 :=
    (for_eq (pats_ev _ _) (show itemsD (.tup (patsN.map fun x => .tup [.str x.1, encW x.2])) = some (patsN.map fun x => .tup [.str x.1, encW x.2]) from rfl)).trans e3
  exact (seq_nx (b := .nop) e4).trans nopX
theorem rounds_ok : ∀ ns : List Int, ns.length ≤ 63 → ∃ l s, runF P fuel 23 [.scr ns, .int 5] ⟨(0, 0)⟩ = .ok (.lst l) s ∧ ∀ d ∈ l, ∃ c k, d = .lst [.int c, .int k] :=
  fun ns h => rounds 6 5 (by decide) ns h _
end Wk
namespace Wk
open PySem PySem.Spec PyProof.Rows L2
/-- the statement at the top -/
def topS (i : Nat) : Stmt := PySem.Challenge.pw_wordkeepers_k06_whole_whose_form.main.body.getD i (.Pass ⟨0, 0, 0, 0⟩)
def d0 : Df := { nm := "is_number", ps := ["thing", "low", "high"], N := ["thing", "low", "high"], st := topS 8 }
def d1 : Df := { nm := "is_small", ps := ["thing", "low", "high"], N := ["thing", "low", "high", "sign"], st := topS 9 }
def d2 : Df := { nm := "is_word", ps := ["thing"], N := ["thing", "sign"], st := topS 10 }
def d3 : Df := { nm := "need_word", ps := ["thing"], N := ["thing"], st := topS 11 }
def d4 : Df := { nm := "is_row", ps := ["thing"], N := ["thing"], st := topS 13 }
def d5 : Df := { nm := "is_pattern", ps := ["thing"], N := ["thing", "one"], st := topS 14 }
def d6 : Df := { nm := "need_pattern", ps := ["thing"], N := ["thing"], st := topS 15 }
def d7 : Df := { nm := "made", ps := ["word", "pattern"], N := ["word", "pattern", "found", "mark", "cut", "ending", "form"], st := topS 16 }
def d8 : Df := { nm := "whose", ps := ["form", "words", "pattern"], N := ["form", "words", "pattern", "one", "found", "word", "some", "mark"], st := topS 17 }
def d9 : Df := { nm := "_law_cell", ps := ["script", "k"], N := ["script", "k"], st := topS 19 }
def d10 : Df := { nm := "_law_drawn", ps := ["cell", "k"], N := ["cell", "k", "more"], st := topS 20 }
def d11 : Df := { nm := "_law_roll", ps := ["dice", "many"], N := ["dice", "many", "told"], st := topS 21 }
def d12 : Df := { nm := "_law_rounds", ps := ["script", "most"], N := ["script", "most", "k"], st := topS 22 }
def d13 : Df := { nm := "_law_pool", ps := [], N := [], st := topS 23 }
def d14 : Df := { nm := "_law_any", ps := ["dice"], N := ["dice"], st := topS 24 }
def d15 : Df := { nm := "_law_patterns", ps := [], N := [], st := topS 25 }
def tx : Txt := { P := P, ds := [(42, d0), (6, d1), (7, d2), (43, d3), (44, d4), (45, d5), (46, d6), (47, d7), (51, d8), (20, d9), (21, d10), (22, d11), (23, d12), (28, d13), (29, d14), (52, d15)], gl := [(0, "SMALL", (.str [97, 98, 99, 100, 101, 102, 103, 104, 105, 106, 107, 108, 109, 110, 111, 112, 113, 114, 115, 116, 117, 118, 119, 120, 121, 122])), (1, "QUIET", (.str [45, 39])), (2, "LONGEST", (.int 12))], xs := [(7, "BadWord"), (8, "BadPattern")] }
def lw : Lw := { N := ["script", "dice", "some", "turn", "name", "ways", "made_of", "text", "row", "mark", "cut", "tail", "every", "form", "due", "one"], st := topS 26, b := bL, fr := 23, m := 5 }
theorem chk : ∀ x ∈ tx.ds, tx.dfB x.1 x.2 = true := by
  intro x h
  have q : tx.ds.all (fun x => tx.dfB x.1 x.2) = true := by decide +kernel
  exact List.all_eq_true.mp q x h
theorem chkL : tx.lwB lw = true := by decide +kernel
theorem all_mk (n : Nat) (hrounds : ∀ ns : List Int, ns.length ≤ 63 → ∃ l s, runF P n lw.fr [.scr ns, .int lw.m] ⟨(0, 0)⟩ = .ok (.lst l) s ∧ ∀ d ∈ l, ∃ c k, d = .lst [.int c, .int k])
    (hround : ∀ c k : Int, ∃ r s, xec (runF P n) bL (frD nL) ⟨(c, k)⟩ = .ok (.nx r) s)
    {l : PySem.W.OpenLaw} {w : World} {K : PySem.W.Frag} {h : Heap} {mg : Str → Option Value} {fa : Addr} (X : K.In h) (G : h.Ns mainGlobals mg) (hfa : mg "law" = some (.ref fa))
    {f0 : Addr} {od0 an0 : Option Addr} {sl0 : Array (Option Value)} {oc0 kV0 dc0 pm0 cd0 ct0 : Value}
    {f1 : Addr} {od1 an1 : Option Addr} {sl1 : Array (Option Value)} {oc1 kV1 dc1 pm1 cd1 ct1 : Value}
    {f2 : Addr} {od2 an2 : Option Addr} {sl2 : Array (Option Value)} {oc2 kV2 dc2 pm2 cd2 ct2 : Value}
    {f3 : Addr} {od3 an3 : Option Addr} {sl3 : Array (Option Value)} {oc3 kV3 dc3 pm3 cd3 ct3 : Value}
    {f4 : Addr} {od4 an4 : Option Addr} {sl4 : Array (Option Value)} {oc4 kV4 dc4 pm4 cd4 ct4 : Value}
    {f5 : Addr} {od5 an5 : Option Addr} {sl5 : Array (Option Value)} {oc5 kV5 dc5 pm5 cd5 ct5 : Value}
    {f6 : Addr} {od6 an6 : Option Addr} {sl6 : Array (Option Value)} {oc6 kV6 dc6 pm6 cd6 ct6 : Value}
    {f7 : Addr} {od7 an7 : Option Addr} {sl7 : Array (Option Value)} {oc7 kV7 dc7 pm7 cd7 ct7 : Value}
    {f8 : Addr} {od8 an8 : Option Addr} {sl8 : Array (Option Value)} {oc8 kV8 dc8 pm8 cd8 ct8 : Value}
    {f9 : Addr} {od9 an9 : Option Addr} {sl9 : Array (Option Value)} {oc9 kV9 dc9 pm9 cd9 ct9 : Value}
    {f10 : Addr} {od10 an10 : Option Addr} {sl10 : Array (Option Value)} {oc10 kV10 dc10 pm10 cd10 ct10 : Value}
    {f11 : Addr} {od11 an11 : Option Addr} {sl11 : Array (Option Value)} {oc11 kV11 dc11 pm11 cd11 ct11 : Value}
    {f12 : Addr} {od12 an12 : Option Addr} {sl12 : Array (Option Value)} {oc12 kV12 dc12 pm12 cd12 ct12 : Value}
    {f13 : Addr} {od13 an13 : Option Addr} {sl13 : Array (Option Value)} {oc13 kV13 dc13 pm13 cd13 ct13 : Value}
    {f14 : Addr} {od14 an14 : Option Addr} {sl14 : Array (Option Value)} {oc14 kV14 dc14 pm14 cd14 ct14 : Value}
    {f15 : Addr} {od15 an15 : Option Addr} {sl15 : Array (Option Value)} {oc15 kV15 dc15 pm15 cd15 ct15 : Value}
    {f16 : Addr} {od16 an16 : Option Addr} {sl16 : Array (Option Value)} {oc16 kV16 dc16 pm16 cd16 ct16 : Value}
    {t0 : Tok}
    {t1 : Tok}
    {t2 : Tok}
    {x0 : Addr}
    {x1 : Addr}
    (a0 : PySem.W.nsIn K mainGlobals "is_number" = some (some (.ref f0))) (l0 : K.lookup f0 = some ⟨oc0, od0, .func (PySem.W.fnOf "is_number" "is_number" (defArgs (topS 8)) (defBody (topS 8)) (defScope (topS 8)) .none kV0 dc0 pm0 an0 cd0 ct0), sl0⟩) (c0 : PySem.W.codeIn K cd0 "is_number" = true) (k0 : PySem.W.keepIn K (.ref f0) = true)
    (a1 : PySem.W.nsIn K mainGlobals "is_small" = some (some (.ref f1))) (l1 : K.lookup f1 = some ⟨oc1, od1, .func (PySem.W.fnOf "is_small" "is_small" (defArgs (topS 9)) (defBody (topS 9)) (defScope (topS 9)) .none kV1 dc1 pm1 an1 cd1 ct1), sl1⟩) (c1 : PySem.W.codeIn K cd1 "is_small" = true) (k1 : PySem.W.keepIn K (.ref f1) = true)
    (a2 : PySem.W.nsIn K mainGlobals "is_word" = some (some (.ref f2))) (l2 : K.lookup f2 = some ⟨oc2, od2, .func (PySem.W.fnOf "is_word" "is_word" (defArgs (topS 10)) (defBody (topS 10)) (defScope (topS 10)) .none kV2 dc2 pm2 an2 cd2 ct2), sl2⟩) (c2 : PySem.W.codeIn K cd2 "is_word" = true) (k2 : PySem.W.keepIn K (.ref f2) = true)
    (a3 : PySem.W.nsIn K mainGlobals "need_word" = some (some (.ref f3))) (l3 : K.lookup f3 = some ⟨oc3, od3, .func (PySem.W.fnOf "need_word" "need_word" (defArgs (topS 11)) (defBody (topS 11)) (defScope (topS 11)) .none kV3 dc3 pm3 an3 cd3 ct3), sl3⟩) (c3 : PySem.W.codeIn K cd3 "need_word" = true) (k3 : PySem.W.keepIn K (.ref f3) = true)
    (a4 : PySem.W.nsIn K mainGlobals "is_row" = some (some (.ref f4))) (l4 : K.lookup f4 = some ⟨oc4, od4, .func (PySem.W.fnOf "is_row" "is_row" (defArgs (topS 13)) (defBody (topS 13)) (defScope (topS 13)) .none kV4 dc4 pm4 an4 cd4 ct4), sl4⟩) (c4 : PySem.W.codeIn K cd4 "is_row" = true) (k4 : PySem.W.keepIn K (.ref f4) = true)
    (a5 : PySem.W.nsIn K mainGlobals "is_pattern" = some (some (.ref f5))) (l5 : K.lookup f5 = some ⟨oc5, od5, .func (PySem.W.fnOf "is_pattern" "is_pattern" (defArgs (topS 14)) (defBody (topS 14)) (defScope (topS 14)) .none kV5 dc5 pm5 an5 cd5 ct5), sl5⟩) (c5 : PySem.W.codeIn K cd5 "is_pattern" = true) (k5 : PySem.W.keepIn K (.ref f5) = true)
    (a6 : PySem.W.nsIn K mainGlobals "need_pattern" = some (some (.ref f6))) (l6 : K.lookup f6 = some ⟨oc6, od6, .func (PySem.W.fnOf "need_pattern" "need_pattern" (defArgs (topS 15)) (defBody (topS 15)) (defScope (topS 15)) .none kV6 dc6 pm6 an6 cd6 ct6), sl6⟩) (c6 : PySem.W.codeIn K cd6 "need_pattern" = true) (k6 : PySem.W.keepIn K (.ref f6) = true)
    (a7 : PySem.W.nsIn K mainGlobals "made" = some (some (.ref f7))) (l7 : K.lookup f7 = some ⟨oc7, od7, .func (PySem.W.fnOf "made" "made" (defArgs (topS 16)) (defBody (topS 16)) (defScope (topS 16)) .none kV7 dc7 pm7 an7 cd7 ct7), sl7⟩) (c7 : PySem.W.codeIn K cd7 "made" = true) (k7 : PySem.W.keepIn K (.ref f7) = true)
    (a8 : PySem.W.nsIn K mainGlobals "whose" = some (some (.ref f8))) (l8 : K.lookup f8 = some ⟨oc8, od8, .func (PySem.W.fnOf "whose" "whose" (defArgs (topS 17)) (defBody (topS 17)) (defScope (topS 17)) .none kV8 dc8 pm8 an8 cd8 ct8), sl8⟩) (c8 : PySem.W.codeIn K cd8 "whose" = true) (k8 : PySem.W.keepIn K (.ref f8) = true)
    (a9 : PySem.W.nsIn K mainGlobals "_law_cell" = some (some (.ref f9))) (l9 : K.lookup f9 = some ⟨oc9, od9, .func (PySem.W.fnOf "_law_cell" "_law_cell" (defArgs (topS 19)) (defBody (topS 19)) (defScope (topS 19)) .none kV9 dc9 pm9 an9 cd9 ct9), sl9⟩) (c9 : PySem.W.codeIn K cd9 "_law_cell" = true) (k9 : PySem.W.keepIn K (.ref f9) = true)
    (a10 : PySem.W.nsIn K mainGlobals "_law_drawn" = some (some (.ref f10))) (l10 : K.lookup f10 = some ⟨oc10, od10, .func (PySem.W.fnOf "_law_drawn" "_law_drawn" (defArgs (topS 20)) (defBody (topS 20)) (defScope (topS 20)) .none kV10 dc10 pm10 an10 cd10 ct10), sl10⟩) (c10 : PySem.W.codeIn K cd10 "_law_drawn" = true) (k10 : PySem.W.keepIn K (.ref f10) = true)
    (a11 : PySem.W.nsIn K mainGlobals "_law_roll" = some (some (.ref f11))) (l11 : K.lookup f11 = some ⟨oc11, od11, .func (PySem.W.fnOf "_law_roll" "_law_roll" (defArgs (topS 21)) (defBody (topS 21)) (defScope (topS 21)) .none kV11 dc11 pm11 an11 cd11 ct11), sl11⟩) (c11 : PySem.W.codeIn K cd11 "_law_roll" = true) (k11 : PySem.W.keepIn K (.ref f11) = true)
    (a12 : PySem.W.nsIn K mainGlobals "_law_rounds" = some (some (.ref f12))) (l12 : K.lookup f12 = some ⟨oc12, od12, .func (PySem.W.fnOf "_law_rounds" "_law_rounds" (defArgs (topS 22)) (defBody (topS 22)) (defScope (topS 22)) .none kV12 dc12 pm12 an12 cd12 ct12), sl12⟩) (c12 : PySem.W.codeIn K cd12 "_law_rounds" = true) (k12 : PySem.W.keepIn K (.ref f12) = true)
    (a13 : PySem.W.nsIn K mainGlobals "_law_pool" = some (some (.ref f13))) (l13 : K.lookup f13 = some ⟨oc13, od13, .func (PySem.W.fnOf "_law_pool" "_law_pool" (defArgs (topS 23)) (defBody (topS 23)) (defScope (topS 23)) .none kV13 dc13 pm13 an13 cd13 ct13), sl13⟩) (c13 : PySem.W.codeIn K cd13 "_law_pool" = true) (k13 : PySem.W.keepIn K (.ref f13) = true)
    (a14 : PySem.W.nsIn K mainGlobals "_law_any" = some (some (.ref f14))) (l14 : K.lookup f14 = some ⟨oc14, od14, .func (PySem.W.fnOf "_law_any" "_law_any" (defArgs (topS 24)) (defBody (topS 24)) (defScope (topS 24)) .none kV14 dc14 pm14 an14 cd14 ct14), sl14⟩) (c14 : PySem.W.codeIn K cd14 "_law_any" = true) (k14 : PySem.W.keepIn K (.ref f14) = true)
    (a15 : PySem.W.nsIn K mainGlobals "_law_patterns" = some (some (.ref f15))) (l15 : K.lookup f15 = some ⟨oc15, od15, .func (PySem.W.fnOf "_law_patterns" "_law_patterns" (defArgs (topS 25)) (defBody (topS 25)) (defScope (topS 25)) .none kV15 dc15 pm15 an15 cd15 ct15), sl15⟩) (c15 : PySem.W.codeIn K cd15 "_law_patterns" = true) (k15 : PySem.W.keepIn K (.ref f15) = true)
    (a16 : PySem.W.nsIn K mainGlobals "law" = some (some (.ref f16))) (l16 : K.lookup f16 = some ⟨oc16, od16, .func (PySem.W.fnOf "law" "law" (defArgs (topS 26)) (defBody (topS 26)) (defScope (topS 26)) .none kV16 dc16 pm16 an16 cd16 ct16), sl16⟩) (c16 : PySem.W.codeIn K cd16 "law" = true) (k16 : PySem.W.keepIn K (.ref f16) = true)
    (gg0 : PySem.W.nsIn K mainGlobals "SMALL" = some (some (.str ⟨([97, 98, 99, 100, 101, 102, 103, 104, 105, 106, 107, 108, 109, 110, 111, 112, 113, 114, 115, 116, 117, 118, 119, 120, 121, 122] : List Nat).toArray⟩ t0)))
    (gg1 : PySem.W.nsIn K mainGlobals "QUIET" = some (some (.str ⟨([45, 39] : List Nat).toArray⟩ t1)))
    (gg2 : PySem.W.nsIn K mainGlobals "LONGEST" = some (some (.int 12 t2)))
    (xa0 : PySem.W.nsIn K mainGlobals "BadWord" = some (some (.ref x0))) (xk0 : PySem.W.keepIn K (.ref x0) = true) (xe0 : PySem.W.excIn K x0 vTail "ValueError.__new__" = true) (xb0 : PySem.W.subIn K (.ref x0) (.type "BaseException") = some true) (xt0 : PySem.W.typeIn K (.ref x0) = some (.type "type"))
    (xa1 : PySem.W.nsIn K mainGlobals "BadPattern" = some (some (.ref x1))) (xk1 : PySem.W.keepIn K (.ref x1) = true) (xe1 : PySem.W.excIn K x1 vTail "ValueError.__new__" = true) (xb1 : PySem.W.subIn K (.ref x1) (.type "BaseException") = some true) (xt1 : PySem.W.typeIn K (.ref x1) = some (.type "type"))
    (z0 : PySem.W.nsIn K mainGlobals "len" = some none)
    (z1 : PySem.W.nsIn K mainGlobals "all" = some none)
    (z2 : PySem.W.nsIn K mainGlobals "any" = some none)
    (z3 : PySem.W.nsIn K mainGlobals "sum" = some none)
    (z4 : PySem.W.nsIn K mainGlobals "int" = some none)
    (z5 : PySem.W.nsIn K mainGlobals "tuple" = some none)
    (z6 : PySem.W.nsIn K mainGlobals "list" = some none)
    (z7 : PySem.W.nsIn K mainGlobals "str" = some none)
    (z8 : PySem.W.nsIn K mainGlobals "bool" = some none)
    (z9 : PySem.W.nsIn K mainGlobals "isinstance" = some none)
    (z10 : PySem.W.nsIn K mainGlobals "min" = some none)
    (z11 : PySem.W.nsIn K mainGlobals "max" = some none)
    (z12 : PySem.W.nsIn K mainGlobals "range" = some none)
    (z13 : PySem.W.nsIn K mainGlobals "enumerate" = some none)
    (z14 : PySem.W.nsIn K mainGlobals "zip" = some none)
    (z15 : PySem.W.nsIn K mainGlobals "sorted" = some none)
    (z16 : PySem.W.nsIn K mainGlobals "set" = some none)
    (z17 : PySem.W.nsIn K mainGlobals "dict" = some none)
    : ∃ fd : FuncData, (∀ (s : Shared) (v : Value), BindsTo s fd ⟨[v], []⟩ [("script", v)]) ∧ ∀ base : Heap, K.In base → base.Ns mainGlobals mg → FnOk l.prog w K mg base (CX l.prog w) (n + 1) fa fd ["script"] (spLaw K) := by
  have e := hfa.symm.trans (PySem.W.mg_of X G a16)
  cases e
  have F0 := fun_mk (st := topS 8) l0 c0 k0
  have F1 := fun_mk (st := topS 9) l1 c1 k1
  have F2 := fun_mk (st := topS 10) l2 c2 k2
  have F3 := fun_mk (st := topS 11) l3 c3 k3
  have F4 := fun_mk (st := topS 13) l4 c4 k4
  have F5 := fun_mk (st := topS 14) l5 c5 k5
  have F6 := fun_mk (st := topS 15) l6 c6 k6
  have F7 := fun_mk (st := topS 16) l7 c7 k7
  have F8 := fun_mk (st := topS 17) l8 c8 k8
  have F9 := fun_mk (st := topS 19) l9 c9 k9
  have F10 := fun_mk (st := topS 20) l10 c10 k10
  have F11 := fun_mk (st := topS 21) l11 c11 k11
  have F12 := fun_mk (st := topS 22) l12 c12 k12
  have F13 := fun_mk (st := topS 23) l13 c13 k13
  have F14 := fun_mk (st := topS 24) l14 c14 k14
  have F15 := fun_mk (st := topS 25) l15 c15 k15
  have F16 := fun_mk (st := topS 26) l16 c16 k16
  have B0 := F0.binds (ps := ["thing", "low", "high"]) fun _ _ _ _ _ _ us hl => match us, hl with | [_, _, _], _ => rfl
  have B1 := F1.binds (ps := ["thing", "low", "high"]) fun _ _ _ _ _ _ us hl => match us, hl with | [_, _, _], _ => rfl
  have B2 := F2.binds (ps := ["thing"]) fun _ _ _ _ _ _ us hl => match us, hl with | [_], _ => rfl
  have B3 := F3.binds (ps := ["thing"]) fun _ _ _ _ _ _ us hl => match us, hl with | [_], _ => rfl
  have B4 := F4.binds (ps := ["thing"]) fun _ _ _ _ _ _ us hl => match us, hl with | [_], _ => rfl
  have B5 := F5.binds (ps := ["thing"]) fun _ _ _ _ _ _ us hl => match us, hl with | [_], _ => rfl
  have B6 := F6.binds (ps := ["thing"]) fun _ _ _ _ _ _ us hl => match us, hl with | [_], _ => rfl
  have B7 := F7.binds (ps := ["word", "pattern"]) fun _ _ _ _ _ _ us hl => match us, hl with | [_, _], _ => rfl
  have B8 := F8.binds (ps := ["form", "words", "pattern"]) fun _ _ _ _ _ _ us hl => match us, hl with | [_, _, _], _ => rfl
  have B9 := F9.binds (ps := ["script", "k"]) fun _ _ _ _ _ _ us hl => match us, hl with | [_, _], _ => rfl
  have B10 := F10.binds (ps := ["cell", "k"]) fun _ _ _ _ _ _ us hl => match us, hl with | [_, _], _ => rfl
  have B11 := F11.binds (ps := ["dice", "many"]) fun _ _ _ _ _ _ us hl => match us, hl with | [_, _], _ => rfl
  have B12 := F12.binds (ps := ["script", "most"]) fun _ _ _ _ _ _ us hl => match us, hl with | [_, _], _ => rfl
  have B13 := F13.binds (ps := []) fun _ _ _ _ _ _ us hl => match us, hl with | [], _ => rfl
  have B14 := F14.binds (ps := ["dice"]) fun _ _ _ _ _ _ us hl => match us, hl with | [_], _ => rfl
  have B15 := F15.binds (ps := []) fun _ _ _ _ _ _ us hl => match us, hl with | [], _ => rfl
  let B : Bas := { K := K, ca := fun _ => 0, fn := fun _ => [], xa := fun n => match n with | 7 => x0 | 8 => x1 | _ => 0, xf := fun _ => "", dp := none }
  have hd : Head tx B K mg := by
    refine ⟨rfl, fun f d q => ?_, fun g nm d q => ?_, fun x q => ?_, fun n nm q => ?_⟩
    · have q := lk_mem q
      simp only [tx, List.mem_cons, List.not_mem_nil, or_false, Prod.mk.injEq] at q
      rcases q with ⟨rfl, rfl⟩ | ⟨rfl, rfl⟩ | ⟨rfl, rfl⟩ | ⟨rfl, rfl⟩ | ⟨rfl, rfl⟩ | ⟨rfl, rfl⟩ | ⟨rfl, rfl⟩ | ⟨rfl, rfl⟩ | ⟨rfl, rfl⟩ | ⟨rfl, rfl⟩ | ⟨rfl, rfl⟩ | ⟨rfl, rfl⟩ | ⟨rfl, rfl⟩ | ⟨rfl, rfl⟩ | ⟨rfl, rfl⟩ | ⟨rfl, rfl⟩
      · exact ⟨_, _, F0, B0, PySem.W.mg_of X G a0⟩
      · exact ⟨_, _, F1, B1, PySem.W.mg_of X G a1⟩
      · exact ⟨_, _, F2, B2, PySem.W.mg_of X G a2⟩
      · exact ⟨_, _, F3, B3, PySem.W.mg_of X G a3⟩
      · exact ⟨_, _, F4, B4, PySem.W.mg_of X G a4⟩
      · exact ⟨_, _, F5, B5, PySem.W.mg_of X G a5⟩
      · exact ⟨_, _, F6, B6, PySem.W.mg_of X G a6⟩
      · exact ⟨_, _, F7, B7, PySem.W.mg_of X G a7⟩
      · exact ⟨_, _, F8, B8, PySem.W.mg_of X G a8⟩
      · exact ⟨_, _, F9, B9, PySem.W.mg_of X G a9⟩
      · exact ⟨_, _, F10, B10, PySem.W.mg_of X G a10⟩
      · exact ⟨_, _, F11, B11, PySem.W.mg_of X G a11⟩
      · exact ⟨_, _, F12, B12, PySem.W.mg_of X G a12⟩
      · exact ⟨_, _, F13, B13, PySem.W.mg_of X G a13⟩
      · exact ⟨_, _, F14, B14, PySem.W.mg_of X G a14⟩
      · exact ⟨_, _, F15, B15, PySem.W.mg_of X G a15⟩
    · have q := lk_mem q
      simp only [tx, List.mem_cons, List.not_mem_nil, or_false, Prod.mk.injEq] at q
      rcases q with ⟨rfl, rfl, rfl⟩ | ⟨rfl, rfl, rfl⟩ | ⟨rfl, rfl, rfl⟩
      · exact ⟨_, .str ⟨([97, 98, 99, 100, 101, 102, 103, 104, 105, 106, 107, 108, 109, 110, 111, 112, 113, 114, 115, 116, 117, 118, 119, 120, 121, 122] : List Nat).toArray⟩, PySem.W.mg_of X G gg0, ⟨_, rfl⟩, fun B' z _ => rp_str.mpr ⟨rfl, by decide⟩⟩
      · exact ⟨_, .str ⟨([45, 39] : List Nat).toArray⟩, PySem.W.mg_of X G gg1, ⟨_, rfl⟩, fun B' z _ => rp_str.mpr ⟨rfl, by decide⟩⟩
      · exact ⟨_, .int 12, PySem.W.mg_of X G gg2, ⟨_, rfl⟩, fun B' z _ => rp_int.mpr rfl⟩
    · have e : PySem.W.nsIn K mainGlobals x = some none := by
        simp only [bnames, List.mem_cons, List.not_mem_nil, or_false] at q
        rcases q with rfl | rfl | rfl | rfl | rfl | rfl | rfl | rfl | rfl | rfl | rfl | rfl | rfl | rfl | rfl | rfl | rfl | rfl
        all_goals assumption
      exact PySem.W.mg_none_of X G e
    · have q := lk_mem q
      simp only [tx, List.mem_cons, List.not_mem_nil, or_false, Prod.mk.injEq] at q
      rcases q with ⟨rfl, rfl⟩ | ⟨rfl, rfl⟩
      · exact ⟨PySem.W.mg_of X G xa0, xk0, xe0, xb0, xt0⟩
      · exact ⟨PySem.W.mg_of X G xa1, xk1, xe1, xb1, xt1⟩
  exact ⟨_, fun s v => .of_eq rfl, fun base _ _ => law_ok hd chk chkL F16 hrounds hround⟩
end Wk
open PySem PySem.W PyProof.Rows
set_option maxRecDepth 100000 in
set_option maxHeartbeats 0 in
theorem PySem.Challenge.cw_wordkeepers_k06_whole_whose_form_holds : PySem.Challenge.rw_wordkeepers_k06_whole_whose_form.Holds := by
  w_on; o_law; k_head; (case hw => w_witness2)
  k_fill
  refine Wk.law_walk (l := PySem.Challenge.rw_wordkeepers_k06_whole_whose_form) (n := Wk.fuel + 1) rfl rfl ⟨rfl, by decide, by decide⟩ (fun w h Y => PySem.W.kIn_of Y) ?F
  case F =>
    intro w mg fa h KX G hmg
    refine' Wk.all_mk Wk.fuel Wk.rounds_ok Wk.round_ok KX G hmg ?a0 ?l0 ?c0 ?k0 ?a1 ?l1 ?c1 ?k1 ?a2 ?l2 ?c2 ?k2 ?a3 ?l3 ?c3 ?k3 ?a4 ?l4 ?c4 ?k4 ?a5 ?l5 ?c5 ?k5 ?a6 ?l6 ?c6 ?k6 ?a7 ?l7 ?c7 ?k7 ?a8 ?l8 ?c8 ?k8 ?a9 ?l9 ?c9 ?k9 ?a10 ?l10 ?c10 ?k10 ?a11 ?l11 ?c11 ?k11 ?a12 ?l12 ?c12 ?k12 ?a13 ?l13 ?c13 ?k13 ?a14 ?l14 ?c14 ?k14 ?a15 ?l15 ?c15 ?k15 ?a16 ?l16 ?c16 ?k16 ?gg0 ?gg1 ?gg2 ?xa0 ?xk0 ?xe0 ?xb0 ?xt0 ?xa1 ?xk1 ?xe1 ?xb1 ?xt1 ?z0 ?z1 ?z2 ?z3 ?z4 ?z5 ?z6 ?z7 ?z8 ?z9 ?z10 ?z11 ?z12 ?z13 ?z14 ?z15 ?z16 ?z17
    (case a0 => k_is)
    (case l0 => k_is)
    (case c0 => k_is)
    (case k0 => k_is)
    (case a1 => k_is)
    (case l1 => k_is)
    (case c1 => k_is)
    (case k1 => k_is)
    (case a2 => k_is)
    (case l2 => k_is)
    (case c2 => k_is)
    (case k2 => k_is)
    (case a3 => k_is)
    (case l3 => k_is)
    (case c3 => k_is)
    (case k3 => k_is)
    (case a4 => k_is)
    (case l4 => k_is)
    (case c4 => k_is)
    (case k4 => k_is)
    (case a5 => k_is)
    (case l5 => k_is)
    (case c5 => k_is)
    (case k5 => k_is)
    (case a6 => k_is)
    (case l6 => k_is)
    (case c6 => k_is)
    (case k6 => k_is)
    (case a7 => k_is)
    (case l7 => k_is)
    (case c7 => k_is)
    (case k7 => k_is)
    (case a8 => k_is)
    (case l8 => k_is)
    (case c8 => k_is)
    (case k8 => k_is)
    (case a9 => k_is)
    (case l9 => k_is)
    (case c9 => k_is)
    (case k9 => k_is)
    (case a10 => k_is)
    (case l10 => k_is)
    (case c10 => k_is)
    (case k10 => k_is)
    (case a11 => k_is)
    (case l11 => k_is)
    (case c11 => k_is)
    (case k11 => k_is)
    (case a12 => k_is)
    (case l12 => k_is)
    (case c12 => k_is)
    (case k12 => k_is)
    (case a13 => k_is)
    (case l13 => k_is)
    (case c13 => k_is)
    (case k13 => k_is)
    (case a14 => k_is)
    (case l14 => k_is)
    (case c14 => k_is)
    (case k14 => k_is)
    (case a15 => k_is)
    (case l15 => k_is)
    (case c15 => k_is)
    (case k15 => k_is)
    (case a16 => k_is)
    (case l16 => k_is)
    (case c16 => k_is)
    (case k16 => k_is)
    (case gg0 => k_is)
    (case gg1 => k_is)
    (case gg2 => k_is)
    (case xa0 => k_is)
    (case xk0 => k_is)
    (case xe0 => k_exc)
    (case xb0 => k_is)
    (case xt0 => k_is)
    (case xa1 => k_is)
    (case xk1 => k_is)
    (case xe1 => k_exc)
    (case xb1 => k_is)
    (case xt1 => k_is)
    (case z0 => k_is)
    (case z1 => k_is)
    (case z2 => k_is)
    (case z3 => k_is)
    (case z4 => k_is)
    (case z5 => k_is)
    (case z6 => k_is)
    (case z7 => k_is)
    (case z8 => k_is)
    (case z9 => k_is)
    (case z10 => k_is)
    (case z11 => k_is)
    (case z12 => k_is)
    (case z13 => k_is)
    (case z14 => k_is)
    (case z15 => k_is)
    (case z16 => k_is)
    (case z17 => k_is)
