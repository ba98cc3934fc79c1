import PyProof.Rows.All
import Wide.All
import OpenK.AllK
import Wide.FinOn
import KE.DataCmp
import HandS.ForMost
import HandS.ForExc
import HandS.Flow
import HandS.Deep
import HandS.IsInst
import HandS.TupAny
import HandS.TupMul
import HandS.Style
import HandS.Defaults
import HandS.Head0
import HandS.Head1
import HandS.Head2
import HandS.HeadEnd
import HandS.HeadHook1
import HandS.HeadHook2
import PyProof.Rows.RegStrFacts
import KE.GoesEnum
import KE.GoesMore
import HandS.Zip
import HandS.ExcInit
import HandS.ExcIs
import HandS.ExcField
import KE.KExcSuper
import KE.KSuper
import HandS.EndBits
import KE.KExcIs
import PySem.Challenge.RW_lawsleft_k00_grounds_made_and_refused
set_option Elab.async false
set_option linter.all false
set_option maxRecDepth 100000
set_option maxHeartbeats 2000000
noncomputable section
namespace Fw
open PySem PySem.Spec PyProof.Rows L2

inductive D where
  | dat (p : PyData)
  | ref (r : Nat)
  | fn (x : Str)

inductive Ob where
  | lst (xs : List D)
  | dct (kvs : List (PyData × D))
  | ins (c : Str) (fs : List (Str × D))

abbrev Gh := List Ob

structure Xn where
  cls : Str
  what : PyData

inductive Rs (α : Type) where
  | ok (a : α) (g : Gh)
  | exc (x : Xn) (g : Gh)
  | bad

def Rs.bind {α β : Type} (r : Rs α) (k : α → Gh → Rs β) : Rs β :=
  match r with
  | .ok a g => k a g
  | .exc x g => .exc x g
  | .bad => .bad
theorem Rs.ok_bind {α β : Type} {a : α} {g : Gh} {k : α → Gh → Rs β} : (Rs.ok a g).bind k = k a g := rfl
theorem Rs.exc_bind {α β : Type} {x : Xn} {g : Gh} {k : α → Gh → Rs β} : (Rs.exc x g : Rs α).bind k = .exc x g := rfl
theorem Rs.bind_assoc {α β γ : Type} (r : Rs α) (k : α → Gh → Rs β) (l : β → Gh → Rs γ) : (r.bind k).bind l = r.bind fun a g => (k a g).bind l := by cases r <;> rfl
theorem Rs.bad_bind {α β : Type} {k : α → Gh → Rs β} : (Rs.bad : Rs α).bind k = .bad := rfl

def Rs.of {α : Type} (o : Option α) (g : Gh) : Rs α :=
  match o with
  | some a => .ok a g
  | none => .bad

inductive BinO where
  | add | sub | mul | fdiv | mod | pow
  deriving DecidableEq
inductive CmpO where
  | eq | ne | lt | le | gt | ge | isIn | notIn | is_ | isNot
  deriving DecidableEq
inductive Bi where
  | len | int | max2 | min2 | tuple | list | all | any | sum | repr | abs | bool
  | isi (t : Str)
  deriving DecidableEq
inductive Mt where
  | append | pop | popAt | extend | index
  deriving DecidableEq
inductive Tg where
  | nm (i : Nat)
  | tp (ts : List Tg)

mutual
inductive CE where
  | non | bl (b : Bool) | int (i : Int) | str (x : Str)
  | var (i : Nat)
  | gl (x : Str)
  | tup (es : CEs)
  | lst (m : Bool) (es : CEs)
  | bin (o : BinO) (a b : CE)
  | neg (a : CE)
  | not (a : CE)
  | cmp (o : CmpO) (a b : CE)
  | chn (o p : CmpO) (a b c : CE)
  | and (a b : CE)
  | or (a b : CE)
  | ite (c a b : CE)
  | ix (a i : CE)
  | sl (a : CE) (lo hi : CO)
  | call (f : Nat) (es : CEs)
  | bi (b : Bi) (es : CEs)
  | mth (m : Mt) (o : CE) (es : CEs)
  | lc (m : Bool) (t : Tg) (s : CI) (wp : List Nat) (c : CO) (e : CE)
  | lc2 (m : Bool) (t : Tg) (s : CI) (c : CO) (t2 : Tg) (s2 : CI) (c2 : CO) (wp wp2 : List Nat) (e : CE)
  | mlist (a : CE)
inductive CEs where
  | nil
  | cons (e : CE) (es : CEs)
inductive CO where
  | no
  | so (e : CE)
inductive CI where
  | seq (a : CE)
  | rng1 (a : CE)
  | rng2 (a b : CE)
  | enum (a : CE)
  | zip (a b : CE)
end

inductive HE where
  | c (e : CE)
  | what
  | isi (tab : List (Str × Bool))
  | rep (a : HE)
  | and (a b : HE)
  | cmp (o : CmpO) (a b : HE)
  | ite (c a b : HE)
  | tp0 | tp (a b : HE)
structure Hd where
  tab : List (Str × Bool)
  ret : HE
mutual
inductive CS where
  | expr (e : CE)
  | set (t : Tg) (e : CE)
  | par (i j : Nat) (a b : CE)
  | par3 (i j k : Nat) (a b c : CE)
  | tryx (rt : Bool) (e : CE) (i : Nat) (hs : List Hd)
  | sub (o i v : CE)
  | aug (i : Nat) (o : BinO) (e : CE)
  | ret (e : CE)
  | retN
  | ife (c : CE) (a b : CSs)
  | for_ (t : Tg) (s : CI) (b : CSs)
  | whl (c : CE) (b : CSs)
  | raise (x : Str) (e : CE)
  | brk | cnt | pass
inductive CSs where
  | nil
  | cons (s : CS) (ss : CSs)
end

def line : Nat := 16777216
theorem line_eq : line = sizeLine := by rw [sizeLine_eq]; rfl

def eqD (a b : PyData) : Option Bool :=
  match a, b with
  | .str x, .str y => some (x == y)
  | a, b => if SeqAt.shaped a && SeqAt.shaped b then some (PyData.eqv a b) else none
def ltD (a b : PyData) : Option Bool :=
  match a, b with
  | .int i, .int j => some (decide (i < j))
  | .tuple xs, .tuple ys => if PySem.W.alike (.tuple xs) (.tuple ys) && decide ((PyData.tuple xs).depth ≤ 64) then some (PySem.W.dataLt (.tuple xs) (.tuple ys)) else none
  | _, _ => none
def flatD : PyData → Bool
  | .none => true
  | .bool _ => true
  | .int _ => true
  | .str _ => true
  | _ => false
def inD (x y : PyData) : Option Bool :=
  match x, y with
  | .str y, .str z => match y.cps.toList with
    | [c] => some (decide (c ∈ z.cps.toList))
    | _ => none
  | x, .tuple ys => if flatD x && ys.all flatD then some (ys.any fun z => PyData.eqv z x) else none
  | x, .list ys => if flatD x && ys.all flatD then some (ys.any fun z => PyData.eqv z x) else
      if SeqAt.shaped x && SeqAt.shaped (.list ys) then some (ys.any fun z => PyData.eqv z x) else none
  | _, _ => none
def noneD : PyData → Bool
  | .none => true
  | _ => false
def isD (x y : PyData) : Option Bool :=
  match x, y with
  | x, .none => some (noneD x)
  | .bool a, .bool b => some (decide (a = b))
  | _, _ => none
def cmpD (o : CmpO) (a b : PyData) : Option Bool :=
  match o with
  | .eq => eqD a b
  | .ne => (eqD a b).map not
  | .lt => ltD a b
  | .gt => ltD b a
  | .le => (ltD b a).map not
  | .ge => (ltD a b).map not
  | .isIn => inD a b
  | .notIn => (inD a b).map not
  | .is_ => isD a b
  | .isNot => (isD a b).map not
def binD (o : BinO) (a b : PyData) : Option PyData :=
  match o, a, b with
  | .add, .int i, .int j => some (.int (i + j))
  | .sub, .int i, .int j => some (.int (i - j))
  | .mul, .int i, .int j => if (-(2 ^ 64) < i ∧ i < 2 ^ 64) ∨ (-(2 ^ 64) < j ∧ j < 2 ^ 64) then some (.int (i * j)) else none
  | .fdiv, .int i, .int j => if 0 < j ∧ j < 1073741824 then some (.int (i / j)) else none
  | .mod, .int i, .int j => if 0 < j then some (.int (i % j)) else none
  | .pow, .int i, .int j => if 0 ≤ j ∧ j ≤ 1000000 ∧ i.natAbs < 2 ^ 64 then some (.int (i ^ j.toNat)) else none
  | .add, .str x, .str y => if x.length + y.length ≤ line then some (.str (x ++ y)) else none
  | .add, .tuple xs, .tuple ys => if xs.length + ys.length ≤ line then some (.tuple (xs ++ ys)) else none
  | .add, .list xs, .list ys => if xs.length + ys.length ≤ line then some (.list (xs ++ ys)) else none
  | .mul, .tuple xs, .int k => if xs ≠ [] ∧ -(2 ^ 63) ≤ k ∧ k ≤ 1000 ∧ xs.length ≤ 1000 then some (.tuple (List.replicate k.toNat xs).flatten) else none
  | _, _, _ => none
def truD : PyData → Option Bool
  | .none => some false
  | .bool b => some b
  | .int i => some (i != 0)
  | .str x => if x.length ≤ line then some ((x.length : Int) != 0) else none
  | .list xs => some (!xs.isEmpty)
  | .tuple xs => some (!xs.isEmpty)
  | _ => none
def ixD (a b : PyData) : Option PyData :=
  match a, b with
  | .tuple xs, .int i => atI xs i
  | .list xs, .int i => atI xs i
  | .str z, .int i => if z.length ≤ line then (atI z.cps.toList i).map fun c => .str ⟨#[c]⟩ else none
  | _, _ => none
def cutD {α : Type} (xs : List α) (lo hi : Option Int) : List α :=
  (xs.drop (HT.sIx xs.length 0 lo)).take (HT.sIx xs.length xs.length hi - HT.sIx xs.length 0 lo)
def slD (a : PyData) (lo hi : Option Int) : Option PyData :=
  match a with
  | .tuple xs => some (.tuple (cutD xs lo hi))
  | .list xs => some (.list (cutD xs lo hi))
  | _ => none
def allB : List PyData → Option (List Bool)
  | [] => some []
  | .bool b :: r => (allB r).map (b :: ·)
  | _ :: _ => none
def allI : List PyData → Option (List Int)
  | [] => some []
  | .int b :: r => (allI r).map (b :: ·)
  | _ :: _ => none
def isiD (t : Str) (p : PyData) : Option Bool :=
  if t = "int" then some (match p with | .int _ => true | .bool _ => true | _ => false)
  else if t = "bool" then some (match p with | .bool _ => true | _ => false)
  else if t = "str" then some (match p with | .str _ => true | _ => false)
  else if t = "tuple" then some (match p with | .tuple _ => true | _ => false)
  else if t = "list" then some (match p with | .list _ => true | _ => false)
  else none
def seqD : PyData → Option (List PyData)
  | .tuple xs => some xs
  | .list xs => some xs
  | _ => none
mutual
def wgt : PyData → Nat
  | .none => 4
  | .bool _ => 5
  | .int _ => 2000
  | .str x => 10 * x.length + 2
  | .list xs => wgts xs + 4
  | .tuple xs => wgts xs + 4
  | .dict _ => 0
def wgts : List PyData → Nat
  | [] => 0
  | x :: xs => wgt x + 2 + wgts xs
end
def reprOk (p : PyData) : Bool := SeqAt.shaped p && p.showable && decide (wgt p ≤ line)
def biD (b : Bi) (ps : List PyData) : Option PyData :=
  match b, ps with
  | .len, [.tuple xs] => some (.int xs.length)
  | .len, [.list xs] => some (.int xs.length)
  | .len, [.str z] => if z.length ≤ line then some (.int z.length) else none
  | .int, [.int i] => some (.int i)
  | .int, [.bool b] => some (.int (if b then 1 else 0))
  | .bool, [.int i] => some (.bool (i != 0))
  | .bool, [.bool b] => some (.bool b)
  | .max2, [.int i, .int j] => some (.int (if j > i then j else i))
  | .min2, [.int i, .int j] => some (.int (if j < i then j else i))
  | .abs, [.int i] => some (.int (if i < 0 then -i else i))
  | .tuple, [.list xs] => some (.tuple xs)
  | .tuple, [.tuple xs] => some (.tuple xs)
  | .list, [.list xs] => some (.list xs)
  | .list, [.tuple xs] => some (.list xs)
  | .all, [.list xs] => (allB xs).map fun bs => .bool (bs.all id)
  | .any, [.list xs] => (allB xs).map fun bs => .bool (bs.any id)
  | .sum, [.list xs] => (allI xs).map fun is => .int is.sum
  | .repr, [p] => if reprOk p then some (.str p.shown) else none
  | .isi t, [p] => (isiD t p).map .bool
  | _, _ => none

abbrev Fr := List (Option D)
def wipeF (fr : Fr) : List Nat → Fr
  | [] => fr
  | v :: vs => (wipeF fr vs).set v none
def datOf : D → Option PyData
  | .dat p => some p
  | _ => none
def datsOf : List D → Option (List PyData)
  | [] => some []
  | d :: ds => (datOf d).bind fun p => (datsOf ds).map (p :: ·)
mutual
def setT : Tg → D → Fr → Option Fr
  | .nm i, d, fr => some (fr.set i (some d))
  | .tp ts, .dat (.tuple ps), fr => setTs ts (ps.map .dat) fr
  | .tp _, _, _ => none
def setTs : List Tg → List D → Fr → Option Fr
  | [], [], fr => some fr
  | t :: ts, d :: ds, fr => (setT t d fr).bind (setTs ts ds)
  | [], _ :: _, _ => none
  | _ :: _, [], _ => none
end
inductive Itm where
  | one (d : D)
  | two (a b : D)
def setI : Tg → Itm → Fr → Option Fr
  | t, .one d, fr => setT t d fr
  | .tp [t, u], .two a b, fr => (setT t a fr).bind (setT u b)
  | _, .two _ _, _ => none
def seqI (p : PyData) : Option (List D) :=
  match p with
  | .tuple xs => some (xs.map .dat)
  | .list xs => some (xs.map .dat)
  | .str z => some (z.cps.toList.map fun c => .dat (.str ⟨#[c]⟩))
  | _ => none
def pairI (d : D) : Option (List D) :=
  match d with
  | .dat (.tuple xs) => some (xs.map .dat)
  | .dat (.list xs) => some (xs.map .dat)
  | _ => none
def zipI (d e : D) : Option (List (D × D)) :=
  match d, e with
  | .dat (.tuple xs), .dat (.tuple ys) => some ((xs.map .dat).zip (ys.map .dat))
  | .dat (.list xs), .dat (.list ys) => some ((xs.map .dat).zip (ys.map .dat))
  | _, _ => none
def rngI (lo : Int) (n : Nat) : List D := (List.range n).map fun k => .dat (.int (lo + (k : Nat)))
def inB (i : Int) : Bool := decide (-(2 ^ 62) ≤ i ∧ i < 2 ^ 62)

def getL (g : Gh) (r : Nat) : Option (List D) :=
  match g[r]? with
  | some (.lst xs) => some xs
  | _ => none
def isL (d : D) (g : Gh) : Bool :=
  match d with
  | .ref r => (getL g r).isSome
  | _ => false
def putO (g : Gh) (r : Nat) (o : Ob) : Gh := g.set r o
def mtd (m : Mt) (o : D) (ds : List D) (g : Gh) : Rs D :=
  match m, o, ds with
  | .append, .ref r, [d] => match getL g r with
    | some xs => if xs.length < line then .ok (.dat .none) (putO g r (.lst (xs ++ [d]))) else .bad
    | none => .bad
  | .pop, .ref r, [] => match getL g r with
    | some xs => match xs[xs.length - 1]? with
      | some d => .ok d (putO g r (.lst xs.dropLast))
      | none => .bad
    | none => .bad
  | .popAt, .ref r, [.dat (.int i)] => match getL g r with
    | some xs => if -(2 ^ 63) ≤ i ∧ i < 2 ^ 63 then match seqIndex? i xs.length with
        | some k => match xs[k]? with
          | some d => .ok d (putO g r (.lst (xs.eraseIdx k)))
          | none => .bad
        | none => .bad
      else .bad
    | none => .bad
  | .extend, .ref r, [.dat (.list ps)] => match getL g r with
    | some xs => if xs.length + ps.length ≤ line then .ok (.dat .none) (putO g r (.lst (xs ++ ps.map .dat))) else .bad
    | none => .bad
  | _, _, _ => .bad
def Rs.ofP (o : Option PyData) (g : Gh) : Rs D :=
  match o with
  | some p => .ok (.dat p) g
  | none => .bad
def Rs.ofB (o : Option Bool) (g : Gh) : Rs D :=
  match o with
  | some b => .ok (.dat (.bool b)) g
  | none => .bad
def viaR (g : Gh) (r : Nat) : Option PyData := (getL g r).bind fun xs => (datsOf xs).map .list
def viaL (g : Gh) (d : D) : Option PyData :=
  match d with
  | .dat p => some p
  | .ref r => viaR g r
  | .fn _ => none
def viaLs (g : Gh) : List D → Option (List PyData)
  | [] => some []
  | d :: ds => (viaL g d).bind fun p => (viaLs g ds).map (p :: ·)
def binV (o : BinO) (a b : D) (g : Gh) : Rs D :=
  match a, b with
  | .dat p, .dat q => .ofP (binD o p q) g
  | _, _ => .bad
def CmpO.look : CmpO → Bool
  | .eq => true | .ne => true | .isIn => true | .notIn => true | _ => false
def cmpV (o : CmpO) (a b : D) (g : Gh) : Rs D :=
  match a, b with
  | .dat p, .dat q => .ofB (cmpD o p q) g
  | .ref r, .dat q => match o, q with
    | .is_, .none => .ok (.dat (.bool false)) g
    | .isNot, .none => .ok (.dat (.bool true)) g
    | o, q => if o.look then .ofB ((viaR g r).bind fun p => cmpD o p q) g else .bad
  | .dat p, .ref r => if o.look then .ofB ((viaR g r).bind fun q => cmpD o p q) g else .bad
  | _, _ => .bad
def ixV (a i : D) (g : Gh) : Rs D :=
  match a, i with
  | .dat p, .dat q => .ofP (ixD p q) g
  | .ref r, .dat (.int i) => .of ((getL g r).bind fun xs => atI xs i) g
  | _, _ => .bad
def truV (d : D) (g : Gh) : Option Bool :=
  match d with
  | .dat p => truD p
  | .ref r => (getL g r).map fun xs => !xs.isEmpty
  | .fn _ => none
def slV (a : D) (lo hi : Option Int) (g : Gh) : Rs D := .ofP ((viaL g a).bind fun p => slD p lo hi) g
def biV (b : Bi) (ds : List D) (g : Gh) : Rs D := .ofP ((viaLs g ds).bind fun ps => biD b ps) g
def intOf : D → Option Int
  | .dat (.int i) => some i
  | _ => none
def blOf : D → Option Bool
  | .dat (.bool b) => some b
  | _ => none
abbrev Wt := Option (Nat × List D)
def stillL (w : Wt) (g : Gh) : Prop :=
  match w with
  | none => True
  | some (r, ds) => getL g r = some ds
instance stillDec (w : Wt) (g : Gh) : Decidable (stillL w g) := Classical.propDecidable _
def itemsV (d : D) (g : Gh) : Option (List D × Wt) :=
  match d with
  | .dat p => (seqI p).map fun ds => (ds, none)
  | .ref r => (getL g r).map fun ds => (ds, some (r, ds))
  | .fn _ => none

def belowD (n : Nat) : D → Bool
  | .ref r => decide (r < n)
  | _ => true
def belowO (n : Nat) : Ob → Bool
  | .lst xs => xs.all (belowD n)
  | .dct kvs => kvs.all fun p => belowD n p.2
  | .ins _ fs => fs.all fun p => belowD n p.2
def lstOf : PyData → Option (List PyData)
  | .tuple xs => some xs
  | .list xs => some xs
  | _ => none
def Rs.still {α : Type} (r : Rs α) : Rs α :=
  match r with
  | .ok a g => .ok a g
  | _ => .bad
section
variable (gl : Str → Option PyData) (cl : Nat → List D → Gh → Rs D)
def putL (n : Nat) (d : D) (g : Gh) : Rs Unit :=
  match getL g n with
  | some ys => if ys.length < line then .ok () (putO g n (.lst (ys ++ [d]))) else .bad
  | none => .bad
def lcGo (step : Itm → Gh → Rs Unit) (w : Wt) : List Itm → Gh → Rs Unit
  | [], g => if stillL w g then .ok () g else .bad
  | x :: xs, g => if stillL w g then (step x g).bind fun _ g1 => lcGo step w xs g1 else .bad
def lcEnd (m : Bool) (n : Nat) (g : Gh) : Rs D :=
  if m then .ok (.ref n) g else
  if g.length = n + 1 ∧ (g.take n).all (belowO n) = true then match getL g n with
    | some ds => match datsOf ds with
      | some ps => .ok (.dat (.list ps)) (g.take n)
      | none => .bad
    | none => .bad
  else .bad
mutual
def ev : CE → Fr → Gh → Rs D
  | .non, _, g => .ok (.dat .none) g
  | .bl b, _, g => .ok (.dat (.bool b)) g
  | .int i, _, g => .ok (.dat (.int i)) g
  | .str x, _, g => .ok (.dat (.str x)) g
  | .var i, fr, g => match fr[i]? with
    | some (some d) => .ok d g
    | _ => .bad
  | .gl x, _, g => match gl x with
    | some p => .ok (.dat p) g
    | none => .bad
  | .tup es, fr, g => (evs es fr g).bind fun ds g1 => match datsOf ds with
    | some ps => if ps.length ≤ line then .ok (.dat (.tuple ps)) g1 else .bad
    | none => .bad
  | .lst m es, fr, g => (evs es fr g).bind fun ds g1 => if ds.length ≤ line then
      (if m then .ok (.ref g1.length) (g1 ++ [.lst ds]) else match datsOf ds with
        | some ps => .ok (.dat (.list ps)) g1
        | none => .bad)
    else .bad
  | .bin o a b, fr, g => (ev a fr g).bind fun x g1 => (ev b fr g1).bind fun y g2 => binV o x y g2
  | .neg a, fr, g => (ev a fr g).bind fun x g1 => match intOf x with
    | some i => .ok (.dat (.int (-i))) g1
    | none => .bad
  | .not a, fr, g => (ev a fr g).bind fun x g1 => match truV x g1 with
    | some b => .ok (.dat (.bool (!b))) g1
    | none => .bad
  | .cmp o a b, fr, g => (ev a fr g).bind fun x g1 => (ev b fr g1).bind fun y g2 => cmpV o x y g2
  | .chn o p a b c, fr, g => (ev a fr g).bind fun x g1 => (ev b fr g1).bind fun y g2 => (cmpV o x y g2).bind fun z g3 => match blOf z with
    | some true => (ev c fr g3).bind fun u g4 => cmpV p y u g4
    | some false => .ok (.dat (.bool false)) g3
    | none => .bad
  | .and a b, fr, g => (ev a fr g).bind fun x g1 => match blOf x with
    | some true => ev b fr g1
    | some false => .ok (.dat (.bool false)) g1
    | none => .bad
  | .or a b, fr, g => (ev a fr g).bind fun x g1 => match blOf x with
    | some true => .ok (.dat (.bool true)) g1
    | some false => ev b fr g1
    | none => .bad
  | .ite c a b, fr, g => (ev c fr g).bind fun x g1 => match truV x g1 with
    | some true => ev a fr g1
    | some false => ev b fr g1
    | none => .bad
  | .ix a i, fr, g => (ev a fr g).bind fun x g1 => (ev i fr g1).bind fun y g2 => ixV x y g2
  | .sl a lo hi, fr, g => (ev a fr g).bind fun x g1 => (evo lo fr g1).bind fun l g2 => (evo hi fr g2).bind fun h g3 => slV x l h g3
  | .call f es, fr, g => (evs es fr g).bind fun ds g1 => cl f ds g1
  | .bi b es, fr, g => (evs es fr g).bind fun ds g1 => biV b ds g1
  | .mth m o es, fr, g => (ev o fr g).bind fun x g1 => if isL x g1 then (evs es fr g1).bind fun ds g2 => mtd m x ds g2 else .bad
  | .lc m t s wp c e, fr, g => (evi s fr g).bind fun its g1 =>
      ((lcGo (fun it g2 => match setI t it (wipeF fr wp) with
        | some fr2 => (evc c fr2 g2).bind fun b g3 => match b with
          | true => (ev e fr2 g3).bind fun d g4 => putL g1.length d g4
          | false => Rs.ok () g3
        | none => Rs.bad) its.2 its.1 (g1 ++ [.lst []])).bind fun _ g2 => lcEnd m g1.length g2).still
  | .lc2 m t s c t2 s2 c2 wp wp2 e, fr, g => (evi s fr g).bind fun its g1 =>
      ((lcGo (fun it g2 => match setI t it (wipeF fr wp) with
        | some fr2 => (evc c fr2 g2).bind fun b g3 => match b with
          | true => (evi s2 fr2 g3).bind fun its2 g4 => lcGo (fun it2 g5 => match setI t2 it2 (wipeF fr2 wp2) with
            | some fr3 => (evc c2 fr3 g5).bind fun b2 g6 => match b2 with
              | true => (ev e fr3 g6).bind fun d g7 => putL g1.length d g7
              | false => Rs.ok () g6
            | none => Rs.bad) its2.2 its2.1 g4
          | false => Rs.ok () g3
        | none => Rs.bad) its.2 its.1 (g1 ++ [.lst []])).bind fun _ g2 => lcEnd m g1.length g2).still
  | .mlist a, fr, g => (ev a fr g).bind fun d g1 => match (viaL g1 d).bind lstOf with
    | some ps => .ok (.ref g1.length) (g1 ++ [.lst (ps.map .dat)])
    | none => .bad
def evs : CEs → Fr → Gh → Rs (List D)
  | .nil, _, g => .ok [] g
  | .cons e es, fr, g => (ev e fr g).bind fun d g1 => (evs es fr g1).bind fun ds g2 => .ok (d :: ds) g2
def evo : CO → Fr → Gh → Rs (Option Int)
  | .no, _, g => .ok none g
  | .so e, fr, g => (ev e fr g).bind fun d g1 => match intOf d with
    | some i => .ok (some i) g1
    | none => .bad
def evc : CO → Fr → Gh → Rs Bool
  | .no, _, g => .ok true g
  | .so c, fr, g => (ev c fr g).bind fun x g1 => match truV x g1 with
    | some b => .ok b g1
    | none => .bad
def evi : CI → Fr → Gh → Rs (List Itm × Wt)
  | .seq a, fr, g => (ev a fr g).bind fun d g1 => match itemsV d g1 with
    | some z => .ok (z.1.map .one, z.2) g1
    | none => .bad
  | .rng1 a, fr, g => (ev a fr g).bind fun d g1 => match intOf d with
    | some j => if inB j then .ok ((rngI 0 j.toNat).map .one, none) g1 else .bad
    | none => .bad
  | .rng2 a b, fr, g => (ev a fr g).bind fun d g1 => (ev b fr g1).bind fun e g2 => match intOf d, intOf e with
    | some i, some j => if inB i && inB j then .ok ((rngI i (j - i).toNat).map .one, none) g2 else .bad
    | _, _ => .bad
  | .enum a, fr, g => (ev a fr g).bind fun d g1 => match pairI d with
    | some ds => .ok (ds.zipIdx.map fun p => .two (.dat (.int (p.2 : Nat))) p.1, none) g1
    | none => .bad
  | .zip a b, fr, g => (ev a fr g).bind fun d g1 => (ev b fr g1).bind fun e g2 => match zipI d e with
    | some ps => .ok (ps.map fun p => .two p.1 p.2, none) g2
    | none => .bad
end

inductive Fl where
  | nx (fr : Fr)
  | rt (d : D)
  | bk (fr : Fr)
  | ct (fr : Fr)
def forGo (body : Fr → Gh → Rs Fl) (t : Tg) (w : Wt) : List Itm → Fr → Gh → Rs Fl
  | [], fr, g => if stillL w g then .ok (.nx fr) g else .bad
  | x :: xs, fr, g => if stillL w g then match setI t x fr with
    | none => .bad
    | some fr1 => (body fr1 g).bind fun f g1 => match f with
      | .nx fr2 => forGo body t w xs fr2 g1
      | .ct fr2 => forGo body t w xs fr2 g1
      | .bk fr2 => .ok (.nx fr2) g1
      | .rt d => .ok (.rt d) g1
    else .bad
def whlGo (test : Fr → Gh → Rs Bool) (body : Fr → Gh → Rs Fl) : Nat → Fr → Gh → Rs Fl
  | 0, _, _ => .bad
  | n + 1, fr, g => (test fr g).bind fun b g1 => match b with
    | false => .ok (.nx fr) g1
    | true => (body fr g1).bind fun f g2 => match f with
      | .nx fr2 => whlGo test body n fr2 g2
      | .ct fr2 => whlGo test body n fr2 g2
      | .bk fr2 => .ok (.nx fr2) g2
      | .rt d => .ok (.rt d) g2
def setV (o i v : D) (g : Gh) : Rs Unit :=
  match o, i with
  | .ref r, .dat (.int k) => match getL g r with
    | some xs => match ixN xs.length k with
      | some j => .ok () (putO g r (.lst (xs.set j v)))
      | none => .bad
    | none => .bad
  | _, _ => .bad
def tpV (d e : D) (g : Gh) : Rs D :=
  match d, e with
  | .dat p, .dat (.tuple ps) => if ps.length < line then .ok (.dat (.tuple (p :: ps))) g else .bad
  | _, _ => .bad
def evH (x : Xn) : HE → Fr → Gh → Rs D
  | .c e, fr, g => ev gl cl e fr g
  | .what, _, g => .ok (.dat x.what) g
  | .isi tab, _, g => .ofB (tab.lookup x.cls) g
  | .rep a, fr, g => (evH x a fr g).bind fun d g1 => biV .repr [d] g1
  | .and a b, fr, g => (evH x a fr g).bind fun d g1 => match blOf d with
    | some true => evH x b fr g1
    | some false => .ok (.dat (.bool false)) g1
    | none => .bad
  | .cmp o a b, fr, g => (evH x a fr g).bind fun d g1 => (evH x b fr g1).bind fun e g2 => cmpV o d e g2
  | .ite c a b, fr, g => (evH x c fr g).bind fun d g1 => match blOf d with
    | some true => evH x a fr g1
    | some false => evH x b fr g1
    | none => .bad
  | .tp0, _, g => .ok (.dat (.tuple [])) g
  | .tp a b, fr, g => (evH x a fr g).bind fun d g1 => (evH x b fr g1).bind fun e g2 => tpV d e g2
def hdGo (x : Xn) : List Hd → Fr → Gh → Rs Fl
  | [], _, g => .exc x g
  | h :: hs, fr, g => match h.tab.lookup x.cls with
    | some true => ((evH gl cl x h.ret fr g).bind fun d g1 => Rs.ok (Fl.rt d) g1).still
    | some false => hdGo x hs fr g
    | none => .bad
variable (wf : Nat)
mutual
def ex : CS → Fr → Gh → Rs Fl
  | .expr e, fr, g => (ev gl cl e fr g).bind fun _ g1 => .ok (.nx fr) g1
  | .set t e, fr, g => (ev gl cl e fr g).bind fun d g1 => match setT t d fr with
    | some fr1 => .ok (.nx fr1) g1
    | none => .bad
  | .par i j a b, fr, g => (ev gl cl a fr g).bind fun x g1 => (ev gl cl b fr g1).bind fun y g2 => .ok (.nx ((fr.set i (some x)).set j (some y))) g2
  | .par3 i j k a b c, fr, g => (ev gl cl a fr g).bind fun x g1 => (ev gl cl b fr g1).bind fun y g2 => (ev gl cl c fr g2).bind fun z g3 => .ok (.nx (((fr.set i (some x)).set j (some y)).set k (some z))) g3
  | .tryx rt e i hs, fr, g => match ev gl cl e fr g with
    | .ok d g1 => if rt then .ok (.rt d) g1 else .ok (.nx fr) g1
    | .exc x g1 => hdGo gl cl x hs (fr.set i none) g1
    | .bad => .bad
  | .sub o i v, fr, g => (ev gl cl v fr g).bind fun z g1 => (ev gl cl o fr g1).bind fun x g2 => (ev gl cl i fr g2).bind fun y g3 => (setV x y z g3).bind fun _ g4 => .ok (.nx fr) g4
  | .aug i o e, fr, g => match fr[i]? with
    | some (some x) => (ev gl cl e fr g).bind fun y g1 => (binV o x y g1).bind fun z g2 => .ok (.nx (fr.set i (some z))) g2
    | _ => .bad
  | .ret e, fr, g => (ev gl cl e fr g).bind fun d g1 => .ok (.rt d) g1
  | .retN, _, g => .ok (.rt (.dat .none)) g
  | .ife c a b, fr, g => (ev gl cl c fr g).bind fun x g1 => match truV x g1 with
    | some true => exs a fr g1
    | some false => exs b fr g1
    | none => .bad
  | .for_ t s b, fr, g => (evi gl cl s fr g).bind fun its g1 => forGo (fun fr g => exs b fr g) t its.2 its.1 fr g1
  | .whl c b, fr, g => whlGo (fun fr g => (ev gl cl c fr g).bind fun x g1 => Rs.of (truV x g1) g1) (fun fr g => exs b fr g) wf fr g
  | .raise x e, fr, g => (ev gl cl e fr g).bind fun d g1 => match d with
    | .dat p => .exc ⟨x, p⟩ g1
    | _ => .bad
  | .brk, fr, g => .ok (.bk fr) g
  | .cnt, fr, g => .ok (.ct fr) g
  | .pass, fr, g => .ok (.nx fr) g
def exs : CSs → Fr → Gh → Rs Fl
  | .nil, fr, g => .ok (.nx fr) g
  | .cons s ss, fr, g => (ex s fr g).bind fun f g1 => match f with
    | .nx fr1 => exs ss fr1 g1
    | .rt d => .ok (.rt d) g1
    | .bk fr1 => .ok (.bk fr1) g1
    | .ct fr1 => .ok (.ct fr1) g1
end
end

structure FDef where
  nm : Str
  np : Nat
  ns : Nat
  fz : Bool
  body : CSs
def fin (fz : Bool) (n : Nat) (v : D) (g : Gh) : Rs D :=
  if (g.take n).all (belowO n) then
    match v with
    | .ref r => if r < n then .ok v (g.take n) else if fz then (match viaL g v with
        | some p => .ok (.dat p) (g.take n)
        | none => .ok v g) else .ok v g
    | v => .ok v (g.take n)
  else .ok v g
def finX (n : Nat) (g : Gh) : Gh := if (g.take n).all (belowO n) then g.take n else g
def run (gl : Str → Option PyData) (P : List FDef) (wf : Nat) : Nat → Nat → List D → Gh → Rs D
  | 0, _, _, _ => .bad
  | n + 1, f, ds, g => match P[f]? with
    | none => .bad
    | some d => if ds.length = d.np then
        match exs gl (run gl P wf n) wf d.body (ds.map some ++ List.replicate (d.ns - d.np) none) g with
        | .ok (.rt v) g1 => fin d.fz g.length v g1
        | .ok (.nx _) g1 => fin d.fz g.length (.dat .none) g1
        | .exc x g1 => .exc x (finX g.length g1)
        | _ => .bad
      else .bad
end Fw
end
set_option Elab.async false
set_option linter.all false
set_option maxRecDepth 100000
set_option maxHeartbeats 2000000
namespace Fw
open PySem PySem.Spec PyProof.Rows L2

def imm : HO → Prop
  | .lst _ => True
  | .tup _ => True
  | .frz _ _ => True
  | .xd _ => True
  | _ => False

def KL (K : PySem.W.Frag) (a : Addr) (vs : List V) : Prop :=
  ∃ (its : Array Value) (n : Nat), K.lookup a = some { cls := .type "list", data := .seq its n } ∧ its.size ≤ sizeLine ∧ Vals vs its.toList
mutual
inductive RelP (K : PySem.W.Frag) (rho : List Addr) (H : Hp) : PyData → V → Prop
  | non : RelP K rho H .none .non
  | bl (b : Bool) : RelP K rho H (.bool b) (.bl b)
  | int (i : Int) : RelP K rho H (.int i) (.int i)
  | str (x : Str) : RelP K rho H (.str x) (.str x)
  | tup {a : Addr} {vs : List V} {ps : List PyData} : SqT K H a vs → RelPs K rho H ps vs → RelP K rho H (.tuple ps) (.ref a)
  | lst {a : Addr} {vs : List V} {ps : List PyData} : (Rd H a (.lst vs) ∧ a ∉ rho ∨ KL K a vs) → RelPs K rho H ps vs → RelP K rho H (.list ps) (.ref a)
inductive RelPs (K : PySem.W.Frag) (rho : List Addr) (H : Hp) : List PyData → List V → Prop
  | nil : RelPs K rho H [] []
  | cons {p : PyData} {ps : List PyData} {v : V} {vs : List V} : RelP K rho H p v → RelPs K rho H ps vs → RelPs K rho H (p :: ps) (v :: vs)
end

inductive RelD (K : PySem.W.Frag) (rho : List Addr) (H : Hp) : D → V → Prop
  | dat {p : PyData} {v : V} : RelP K rho H p v → RelD K rho H (.dat p) v
  | ref {r : Nat} {a : Addr} : rho[r]? = some a → RelD K rho H (.ref r) (.ref a)
  | fn {x : Str} {a : Addr} : a = He.ga K x → RelD K rho H (.fn x) (.ref a)
abbrev RelDs (K : PySem.W.Frag) (rho : List Addr) (H : Hp) : List D → List V → Prop := Paired (RelD K rho H)

def RelO (K : PySem.W.Frag) (rho : List Addr) (H : Hp) (a : Addr) : Ob → Prop
  | .lst xs => ∃ vs, H a = some (.lst vs) ∧ RelDs K rho H xs vs
  | .dct _ => False
  | .ins _ _ => False

structure Wf (K : PySem.W.Frag) (rho : List Addr) (H : Hp) (g : Gh) : Prop where
  len : rho.length = g.length
  nd : rho.Nodup
  ob : ∀ (r : Nat) (o : Ob) (a : Addr), g[r]? = some o → rho[r]? = some a → RelO K rho H a o

structure Ext (rho : List Addr) (H : Hp) (rho' : List Addr) (H' : Hp) : Prop where
  pre : rho <+: rho'
  stay : ∀ a o, H a = some o → imm o → a ∉ rho → a ∉ rho' ∧ H' a = some o

theorem Ext.refl (rho : List Addr) (H : Hp) : Ext rho H rho H := ⟨List.prefix_refl _, fun _ _ h _ n => ⟨n, h⟩⟩
theorem Ext.trans {r r1 r2 : List Addr} {H H1 H2 : Hp} (a : Ext r H r1 H1) (b : Ext r1 H1 r2 H2) : Ext r H r2 H2 :=
  ⟨a.pre.trans b.pre, fun c o h i n => by
    obtain ⟨n1, h1⟩ := a.stay c o h i n
    exact b.stay c o h1 i n1⟩
theorem Ext.rd {r r1 : List Addr} {H H1 : Hp} (e : Ext r H r1 H1) {a : Addr} {u : HO} (h : Rd H a u) (i : imm u) (n : a ∉ r) : Rd H1 a u ∧ a ∉ r1 := by
  rcases h with h | ⟨o, h⟩
  · obtain ⟨n1, h1⟩ := e.stay a _ h i n
    exact ⟨.inl h1, n1⟩
  · obtain ⟨n1, h1⟩ := e.stay a _ h True.intro n
    exact ⟨.inr ⟨o, h1⟩, n1⟩
structure Mut1 (K : PySem.W.Frag) (rho : List Addr) (H : Hp) : Prop where
  ok : ∀ a ∈ rho, ∃ o, H a = some o ∧ (∀ vs, o ≠ .tup vs) ∧ (∀ o' u, o ≠ .frz o' u)
theorem Wf.mut {K : PySem.W.Frag} {rho : List Addr} {H : Hp} {g : Gh} (w : Wf K rho H g) : Mut1 K rho H := ⟨fun a ha => by
  obtain ⟨r, hr, e⟩ := List.mem_iff_getElem.mp ha
  have h1 : rho[r]? = some a := by rw [List.getElem?_eq_getElem hr, e]
  have hg : r < g.length := by rw [← w.len]; exact hr
  have q := w.ob r g[r] a (List.getElem?_eq_getElem hg) h1
  cases ho : g[r] with
  | lst xs =>
    rw [ho] at q
    obtain ⟨vs, h, _⟩ := q
    exact ⟨_, h, fun _ z => (by cases z), fun _ _ z => (by cases z)⟩
  | dct _ => rw [ho] at q; exact q.elim
  | ins _ _ => rw [ho] at q; exact q.elim⟩
theorem Mut1.tup {K : PySem.W.Frag} {rho : List Addr} {H : Hp} (m : Mut1 K rho H) {a : Addr} {vs : List V} (h : Rd H a (.tup vs)) : a ∉ rho := fun hm => by
  obtain ⟨o, e, n1, n2⟩ := m.ok a hm
  rcases h with h | ⟨u, h⟩
  · rw [e] at h; cases h; exact n1 _ rfl
  · rw [e] at h; cases h; exact n2 _ _ rfl
theorem SqT.ext {K : PySem.W.Frag} {r r1 : List Addr} {H H1 : Hp} (m : Mut1 K r H) (e : Ext r H r1 H1) {a : Addr} {vs : List V} (h : SqT K H a vs) : SqT K H1 a vs := by
  rcases h with h | h
  · exact .inl (e.rd h True.intro (m.tup h)).1
  · exact .inr h
theorem sqL_of {K : PySem.W.Frag} {rho : List Addr} {H : Hp} {a : Addr} {vs : List V} : (Rd H a (.lst vs) ∧ a ∉ rho ∨ KL K a vs) → SqL K H a vs
  | .inl h => .inl h.1
  | .inr ⟨its, n, h, hz, r⟩ => .inr ⟨_, its, n, h, rfl, rfl, rfl, hz, r⟩
theorem lst_ext {K : PySem.W.Frag} {r r1 : List Addr} {H H1 : Hp} (e : Ext r H r1 H1) {a : Addr} {vs : List V} : (Rd H a (.lst vs) ∧ a ∉ r ∨ KL K a vs) → (Rd H1 a (.lst vs) ∧ a ∉ r1 ∨ KL K a vs)
  | .inl h => .inl (e.rd h.1 True.intro h.2)
  | .inr h => .inr h
mutual
theorem RelP.ext {K : PySem.W.Frag} {r r1 : List Addr} {H H1 : Hp} (m : Mut1 K r H) (e : Ext r H r1 H1) : ∀ {p : PyData} {v : V}, RelP K r H p v → RelP K r1 H1 p v
  | _, _, .non => .non
  | _, _, .bl b => .bl b
  | _, _, .int i => .int i
  | _, _, .str x => .str x
  | _, _, .tup h hs => .tup (SqT.ext m e h) (RelPs.ext m e hs)
  | _, _, .lst h hs => .lst (lst_ext e h) (RelPs.ext m e hs)
theorem RelPs.ext {K : PySem.W.Frag} {r r1 : List Addr} {H H1 : Hp} (m : Mut1 K r H) (e : Ext r H r1 H1) : ∀ {p : List PyData} {v : List V}, RelPs K r H p v → RelPs K r1 H1 p v
  | _, _, .nil => .nil
  | _, _, .cons h hs => .cons (RelP.ext m e h) (RelPs.ext m e hs)
end
theorem pre_get {r r1 : List Addr} (h : r <+: r1) {i : Nat} {a : Addr} (e : r[i]? = some a) : r1[i]? = some a := by
  obtain ⟨t, rfl⟩ := h
  exact (List.getElem?_append_left (List.getElem?_eq_some_iff.mp e).1).trans e
theorem RelD.ext {K : PySem.W.Frag} {r r1 : List Addr} {H H1 : Hp} (m : Mut1 K r H) (e : Ext r H r1 H1) {d : D} {v : V} : RelD K r H d v → RelD K r1 H1 d v
  | .dat h => .dat (h.ext m e)
  | .ref h => .ref (pre_get e.pre h)
  | .fn h => .fn h
theorem RelDs.ext {K : PySem.W.Frag} {r r1 : List Addr} {H H1 : Hp} (m : Mut1 K r H) (e : Ext r H r1 H1) : ∀ {d : List D} {v : List V}, RelDs K r H d v → RelDs K r1 H1 d v
  | _, _, .nil => .nil
  | _, _, .cons h hs => .cons (h.ext m e) (RelDs.ext m e hs)

theorem RelDs.dats {K : PySem.W.Frag} {r : List Addr} {H : Hp} : ∀ {ds : List D} {vs : List V} {ps : List PyData}, RelDs K r H ds vs → datsOf ds = some ps → RelPs K r H ps vs
  | _, _, _, .nil, e => by
    have e' := Option.some.inj (show some [] = some _ from e)
    subst e'
    exact .nil
  | _, _, ps, .cons (a := d) (l₁ := ds) h hs, e => by
    cases h with
    | dat hp =>
      rename_i p
      cases q : datsOf ds with
      | none =>
        have e' : (datsOf ds).map (p :: ·) = some ps := e
        rw [q] at e'; cases e'
      | some qs =>
        have e' : (datsOf ds).map (p :: ·) = some ps := e
        rw [q] at e'
        cases e'
        exact .cons hp (RelDs.dats hs q)
    | ref _ => cases e
    | fn _ => cases e
theorem RelPs.toDs {K : PySem.W.Frag} {r : List Addr} {H : Hp} : ∀ {ps : List PyData} {vs : List V}, RelPs K r H ps vs → RelDs K r H (ps.map .dat) vs
  | _, _, .nil => .nil
  | _, _, .cons h hs => .cons (.dat h) (RelPs.toDs hs)
theorem RelPs.length {K : PySem.W.Frag} {r : List Addr} {H : Hp} : ∀ {ps : List PyData} {vs : List V}, RelPs K r H ps vs → ps.length = vs.length
  | _, _, .nil => rfl
  | _, _, .cons _ hs => by simp [RelPs.length hs]
theorem RelPs.paired {K : PySem.W.Frag} {r : List Addr} {H : Hp} : ∀ {ps : List PyData} {vs : List V}, RelPs K r H ps vs → Paired (RelP K r H) ps vs
  | _, _, .nil => .nil
  | _, _, .cons h hs => .cons h (RelPs.paired hs)
theorem RelPs.of {K : PySem.W.Frag} {r : List Addr} {H : Hp} : ∀ {ps : List PyData} {vs : List V}, Paired (RelP K r H) ps vs → RelPs K r H ps vs
  | _, _, .nil => .nil
  | _, _, .cons h hs => .cons h (RelPs.of hs)

mutual
theorem RelP.dp {K : PySem.W.Frag} {r : List Addr} {H : Hp} : ∀ {p : PyData} {v : V}, RelP K r H p v → Dp K H v p
  | _, _, .non => .non
  | _, _, .bl b => .bl b
  | _, _, .int i => .int i
  | _, _, .str x => .str x
  | _, _, .tup h hs => .tup h (RelPs.dp hs)
  | _, _, .lst h hs => .lst (sqL_of h) (RelPs.dp hs)
theorem RelPs.dp {K : PySem.W.Frag} {r : List Addr} {H : Hp} : ∀ {p : List PyData} {v : List V}, RelPs K r H p v → DpAll K H v p
  | _, _, .nil => .nil
  | _, _, .cons h hs => .cons (RelP.dp h) (RelPs.dp hs)
end

section
variable {K : PySem.W.Frag} {rho : List Addr} {H : Hp} {g : Gh}
theorem Wf.in_some (w : Wf K rho H g) {a : Addr} (h : a ∈ rho) : ∃ o, H a = some o := by
  obtain ⟨o, e, _⟩ := w.mut.ok a h
  exact ⟨o, e⟩
theorem Wf.not_in (w : Wf K rho H g) {p : Addr} (h : H p = none) : p ∉ rho := fun z => by
  obtain ⟨o, e⟩ := w.in_some z
  rw [h] at e; cases e
theorem RelO.ext {r1 : List Addr} {H1 : Hp} (m : Mut1 K rho H) (e : Ext rho H r1 H1) {a : Addr} {o : Ob} (h : RelO K rho H a o) (k : H1 a = H a) : RelO K r1 H1 a o := by
  cases o with
  | lst xs =>
    obtain ⟨vs, h1, h2⟩ := h
    exact ⟨vs, k.trans h1, h2.ext m e⟩
  | dct _ => exact h
  | ins _ _ => exact h
theorem Wf.alloc (w : Wf K rho H g) {p : Addr} (hp : H p = none) (o : HO) : Ext rho H rho (upd H p o) ∧ Wf K rho (upd H p o) g := by
  have hn := w.not_in hp
  have e : Ext rho H rho (upd H p o) := ⟨List.prefix_refl _, fun a u h _ n => ⟨n, by rw [upd_ne (ne_of_none h hp)]; exact h⟩⟩
  refine ⟨e, w.len, w.nd, fun r ob a h1 h2 => (w.ob r ob a h1 h2).ext w.mut e ?_⟩
  exact upd_ne fun z => hn (z ▸ List.mem_of_getElem? h2)
theorem Wf.alloc_mut (w : Wf K rho H g) {p : Addr} (hp : H p = none) {xs : List D} {vs : List V} (h : RelDs K rho H xs vs) :
    Ext rho H (rho ++ [p]) (upd H p (.lst vs)) ∧ Wf K (rho ++ [p]) (upd H p (.lst vs)) (g ++ [.lst xs]) := by
  have hn := w.not_in hp
  have e : Ext rho H (rho ++ [p]) (upd H p (.lst vs)) := ⟨List.prefix_append _ _, fun a u h _ n => ⟨fun z => by
    rcases List.mem_append.mp z with z | z
    · exact n z
    · exact ne_of_none h hp (by simpa using z), by rw [upd_ne (ne_of_none h hp)]; exact h⟩⟩
  refine ⟨e, by simp [w.len], ?_, fun r ob a h1 h2 => ?_⟩
  · refine List.nodup_append.mpr ⟨w.nd, by simp, fun x hx y hy => ?_⟩
    have : y = p := by simpa using hy
    subst this
    exact fun z => hn (z ▸ hx)
  · by_cases hr : r < g.length
    · rw [List.getElem?_append_left hr] at h1
      rw [List.getElem?_append_left (by rw [w.len]; exact hr)] at h2
      exact (w.ob r ob a h1 h2).ext w.mut e (upd_ne fun z => hn (z ▸ List.mem_of_getElem? h2))
    · have hl : r < (g ++ [Ob.lst xs]).length := (List.getElem?_eq_some_iff.mp h1).1
      have hrg : r = g.length := by simp at hl; omega
      subst hrg
      simp at h1
      have h2' : (rho ++ [p])[rho.length]? = some a := by rw [w.len]; exact h2
      simp at h2'
      subst h1 h2'
      exact ⟨vs, upd_same, h.ext w.mut e⟩
theorem Wf.change (w : Wf K rho H g) {r : Nat} {a : Addr} (ha : rho[r]? = some a) {xs : List D} {vs : List V} (h : RelDs K rho H xs vs) :
    Ext rho H rho (upd H a (.lst vs)) ∧ Wf K rho (upd H a (.lst vs)) (putO g r (.lst xs)) := by
  have hm : a ∈ rho := List.mem_of_getElem? ha
  have e : Ext rho H rho (upd H a (.lst vs)) := ⟨List.prefix_refl _, fun b u h _ n => ⟨n, by rw [upd_ne fun (z : b = a) => n (by rw [z]; exact hm)]; exact h⟩⟩
  refine ⟨e, by simp [putO, w.len], w.nd, fun q ob b h1 h2 => ?_⟩
  by_cases hq : q = r
  · subst hq
    rw [ha] at h2
    cases h2
    unfold putO at h1
    have hl : q < g.length := by rw [← w.len]; exact (List.getElem?_eq_some_iff.mp ha).1
    rw [List.getElem?_set_self hl] at h1
    cases h1
    exact ⟨vs, upd_same, h.ext w.mut e⟩
  · unfold putO at h1
    rw [List.getElem?_set_ne (Ne.symm hq)] at h1
    refine (w.ob q ob b h1 h2).ext w.mut e (upd_ne fun z => ?_)
    subst z
    have l1 := (List.getElem?_eq_some_iff.mp h2).1
    have l2 := (List.getElem?_eq_some_iff.mp ha).1
    have e1 := (List.getElem?_eq_some_iff.mp h2).2
    have e2 := (List.getElem?_eq_some_iff.mp ha).2
    exact hq ((List.getElem_inj w.nd).mp (e1.trans e2.symm))
theorem Wf.getL (w : Wf K rho H g) {r : Nat} {xs : List D} (h : getL g r = some xs) {a : Addr} (ha : rho[r]? = some a) : ∃ vs, H a = some (.lst vs) ∧ RelDs K rho H xs vs := by
  unfold Fw.getL at h
  cases e : g[r]? with
  | none => rw [e] at h; cases h
  | some o =>
    rw [e] at h
    cases o with
    | lst ys =>
      have h' := Option.some.inj (show some ys = some xs from h)
      subst h'
      exact w.ob r _ a e ha
    | dct _ => cases h
    | ins _ _ => cases h
end

def RelF (K : PySem.W.Frag) (rho : List Addr) (H : Hp) (fr : Fr) (sg : L2.St) : Prop := ∀ (i : Nat) (d : D), fr[i]? = some (some d) → ∃ v, sg[i]? = some (some v) ∧ RelD K rho H d v
theorem RelF.ext {K : PySem.W.Frag} {r r1 : List Addr} {H H1 : Hp} (m : Mut1 K r H) (e : Ext r H r1 H1) {fr : Fr} {sg : L2.St} (h : RelF K r H fr sg) : RelF K r1 H1 fr sg := fun i d hi => by
  obtain ⟨v, h1, h2⟩ := h i d hi
  exact ⟨v, h1, h2.ext m e⟩
theorem RelF.set {K : PySem.W.Frag} {r : List Addr} {H : Hp} {fr : Fr} {sg : L2.St} (h : RelF K r H fr sg) {i : Nat} {d : D} {v : V} (hv : RelD K r H d v) (hl : fr.length = sg.length) : RelF K r H (fr.set i (some d)) (sg.set i (some v)) := fun j e hj => by
  by_cases hij : i = j
  · subst hij
    have hlt : i < fr.length := by
      have := (List.getElem?_eq_some_iff.mp hj).1
      simpa using this
    rw [List.getElem?_set_self hlt] at hj
    cases hj
    exact ⟨v, List.getElem?_set_self (by omega), hv⟩
  · rw [List.getElem?_set_ne hij] at hj
    obtain ⟨u, h1, h2⟩ := h j e hj
    exact ⟨u, by rw [List.getElem?_set_ne hij]; exact h1, h2⟩
theorem wipeF_length (fr : Fr) : ∀ vs : List Nat, (wipeF fr vs).length = fr.length
  | [] => rfl
  | v :: vs => by unfold wipeF; rw [List.length_set, wipeF_length fr vs]
theorem RelF.wipe {K : PySem.W.Frag} {r : List Addr} {H : Hp} {fr : Fr} {sg : L2.St} (h : RelF K r H fr sg) : ∀ vs : List Nat, RelF K r H (wipeF fr vs) (L2.wipe sg vs)
  | [] => h
  | v :: vs => fun i d hi => by
    unfold wipeF at hi
    unfold L2.wipe
    by_cases hv : v = i
    · subst hv
      by_cases hl : v < (wipeF fr vs).length
      · rw [List.getElem?_set_self hl] at hi; cases hi
      · rw [List.getElem?_eq_none (by simpa using hl)] at hi; cases hi
    · rw [List.getElem?_set_ne hv] at hi
      obtain ⟨u, h1, h2⟩ := RelF.wipe h vs i d hi
      exact ⟨u, by rw [List.getElem?_set_ne hv]; exact h1, h2⟩
end Fw
set_option Elab.async false
set_option linter.all false
set_option maxRecDepth 100000
set_option maxHeartbeats 2000000
namespace Fw
open PySem PySem.Spec PyProof.Rows L2

structure FnG (P : Program) (w : World) (K : PySem.W.Frag) (mg : Str → Option Value) (base : Heap) (k : Nat) (f : Addr) (fd : FuncData) (ps : List Str) (sp : Sp) : Prop where
  many : ∀ vs H Q E, sp vs H Q E → vs.length = ps.length
  go : ∀ (A : Around) (outer : List Env) (s : Shared) (H : Hp) (us : List Value) (vs : List V) (Q : VK) (E : XK), Room k A → A.guards = some [] → Env0 P w K mg base A outer s H →
    BindsTo s fd ⟨us, []⟩ (ps.zip us) → Vals vs us → sp vs H Q E → codeAny (model P w) A (.call (.ref f) ⟨us, []⟩) (CR (L2.CX P w) outer P w H s Q E) s

section
variable {P : Program} {w : World} {K : PySem.W.Frag} {mg : Str → Option Value} {base : Heap} {k : Nat} {f : Addr} {N ps : List Str} {sp : Sp}
theorem fnG_of {name qual : Str} {params : Arguments} {body : List Stmt} {sco : Scope} {dV kV doc pm cdv ct oc : Value} {an od : Option Addr} {osl : Array (Option Value)}
    (at_ : K.lookup f = some ⟨oc, od, .func (PySem.W.fnOf name qual params body sco dV kV doc pm an cdv ct), osl⟩) (code : PySem.W.codeIn K cdv qual = true) (fs : FnScope N ps sco)
    (many : ∀ vs H Q E, sp vs H Q E → vs.length = ps.length)
    (doing : ∀ (A : Around) (outer : List Env) (s : Shared) (H : Hp) (vs : List V) (Q : VK) (E : XK), A.guards = some [] → Room k (A.deeper (envOfC qual sco s.heap.objs.size f cdv)) → sp vs H Q E →
      ∃ t, PSs (cxOf (L2.CX P w) P w K mg base N qual sco f cdv A outer s H E) body t ∧ t { nx := fun _ H' => Q .non H', rt := Q } (L2.start N vs) H) :
    FnG P w K mg base (k + 1) f (PySem.W.fnOf name qual params body sco dV kV doc pm an cdv ct) ps sp where
  many := many
  go := by
    intro A outer s H us vs Q E room noRepr env binds vals asked
    have inK : K.In s.heap := env.mod.kin.keeps fun c o z => (env.bs c o z).1
    have kinds : ∀ y ∈ ps.zip us, sco.names.lookup y.1 = some .local ∨ (sco.names.lookup y.1 = some .cell ∧ ((cellsFrom (s.heap.objs.size + 1) sco.names []).lookup y.1).isSome = true) := by
      intro y hy
      rcases fs.par y.1 (List.of_mem_zip (a := y.1) (b := y.2) hy).1 with z | z
      · exact Or.inl z
      · exact Or.inr ⟨z, PySem.W.cellsFrom_some _ _ _ (Or.inl z)⟩
    apply codeAny_call_function room.depth (inK _ _ at_) rfl fs.co fs.gen rfl (PySem.W.codeRec_of inK code)
    apply binds
    apply wpAny_newFunctionEnv_cells fs.kind kinds
    rintro env' rfl sB entered
    refine ⟨(env.mod.nolimit.keeps fun c o z => (env.bs c o z).1).keeps entered.toInCall.keep, ?_⟩
    apply codeAny_func
    obtain ⟨t, does, reads⟩ := doing A outer s H vs Q E noRepr (room.deeper _) asked
    have inv := inv_start (CX := L2.CX P w) (E := E) fs room.hd env (many _ _ _ _ asked) vals entered
    apply wpAny_mono (does.run [] sB (L2.start N vs) H _ inv reads)
    · intro fl sC ended
      match fl, ended with
      | .ret u, ⟨v, _, H1, J, rv, q⟩ => exact ⟨v, H1, J.os, J.bare, J.base, J.hok, rv, q⟩
      | .next, ⟨_, H1, J, q⟩ => exact ⟨V.non, H1, J.os, J.bare, J.base, J.hok, rfl, q⟩
      | .brk, ⟨_, _, _, q⟩ => exact q.elim
      | .cont, ⟨_, _, _, q⟩ => exact q.elim
    · exact fun _ _ z => z
end

section
variable {X : Cx} {k : Nat} {f : Addr} {fd : FuncData} {ps : List Str} {sp : Sp} {W : WX} {x : Str} {p pos : Pos} {e : Expr} {es : List Expr} {t : TA}
theorem callG {pins : List (Addr × Obj)} {sg : L2.St} {H : Hp} {s : Shared} {Q : VK} {us : List Value} {vs : List V} (F : FnG X.prog X.w X.K X.mg X.base k f fd ps sp) (room : Room k X.A) (noRepr : X.A.guards = some [])
    (binds : Binds X.K fd ps []) (tk : Takes X W) (I : Inv X pins sg H s) (r : Vals vs us) (asked : sp vs H Q (fun cls d H' => W cls d sg H')) : wpAny (model X.prog X.w) X.A (call (.ref f) us) (EP X pins sg Q) X.xe s := by
  have many : us.length = ps.length := r.length.symm.trans (F.many _ _ _ _ asked)
  have b := binds s us I.kIn (by simpa using many)
  rw [List.append_nil] at b
  apply wpAny_call
  apply codeAny_mono (F.go X.A X.stack s H us vs Q _ room noRepr I.env0 b r asked)
  intro res sB ended
  match res, ended with
  | .error ex, z => exact passAt tk sg pins H s ex sB I z
  | .ok (.ret u), z => exact I.after z
  | .ok .next, z => exact False.elim z
  | .ok .brk, z => exact False.elim z
  | .ok .cont, z => exact False.elim z
def tCallG (sp : Sp) (W : WX) (t : TA) : TE := fun sg H Q => t sg H fun vs H1 => sp vs H1 Q fun cls d H' => W cls d sg H'
theorem pe_callG (F : FnG X.prog X.w X.K X.mg X.base k f fd ps sp) (room : Room k X.A) (noRepr : X.A.guards = some []) (hg : Gl X x) (hm : X.mg x = some (.ref f)) (hk : PySem.W.keepIn X.K (.ref f) = true) (binds : Binds X.K fd ps [])
    (tk : Takes X W) (ha : PA X (e :: es) t) (hdb : (x == ("__debug__" : Str)) = false) (he : starEach (e :: es) X.env = (false, eval e X.env) :: starEach es X.env) (hpl : (backTo pos (starEach es X.env)).any (·.1) = false) :
    PE X (.Call (.Name x p) (e :: es) [] pos) (tCallG sp W t) where
  run := by
    intro pins s sg H Q I h
    apply wpAny_Call_Name_kw (ld_glob I hg hm _ hdb)
    refine PySem.W.callWith_K (h₀ := X.base) I.ok.mod.kin hk (thn (ha.run pos pins s sg H _ I h) ?_) he hpl
    rintro us sB ⟨vs, H1, I1, r, q⟩
    exact ⟨I1.kIn, callG F room noRepr binds tk I1 r q⟩
theorem pe_callG0 (F : FnG X.prog X.w X.K X.mg X.base k f fd ps sp) (room : Room k X.A) (noRepr : X.A.guards = some []) (hg : Gl X x) (hm : X.mg x = some (.ref f)) (hk : PySem.W.keepIn X.K (.ref f) = true) (binds : Binds X.K fd ps [])
    (tk : Takes X W) (hdb : (x == ("__debug__" : Str)) = false) : PE X (.Call (.Name x p) [] [] pos) (tCallG sp W tNil) where
  run := by
    intro pins s sg H Q I h
    apply wpAny_Call_Name_kw (ld_glob I hg hm _ hdb)
    exact PySem.W.callWith_K0 I.kIn hk (callG (us := []) F room noRepr binds tk I .nil h)
end

section
variable {P : Program} {w : World} {K : PySem.W.Frag} {mg mb : Str → Option Value} {k : Nat} {fa a : Addr} {fd : FuncData} {x : Str} {sp : Sp} {s : Shared} {vs : List Value} {ns : List Int}
def scriptH (a : Addr) (vs : List Value) (ns : List Int) : Hp := fun c => if c = a then some (.frz { cls := .type "list", data := .seq vs.toArray } (.lst (ns.map V.int))) else none
theorem scriptH_none {a c : Addr} {vs : List Value} {ns : List Int} (h : c ≠ a) : scriptH a vs ns c = none := if_neg h
theorem scriptH_at {a : Addr} {vs : List Value} {ns : List Int} : scriptH a vs ns a = some (.frz { cls := .type "list", data := .seq vs.toArray } (.lst (ns.map V.int))) := if_pos rfl
theorem relPs_ints {K : PySem.W.Frag} {rho : List Addr} {H : Hp} : ∀ ns : List Int, RelPs K rho H (ns.map .int) (ns.map V.int)
  | [] => .nil
  | n :: ns => .cons (.int n) (relPs_ints ns)
theorem law_callG (inK : K.In s.heap) (glob : s.heap.Ns mainGlobals mg) (blt : s.heap.Ns builtinsNs mb) (boot : ∀ y : Str, y ≠ "__name__" → mb y = bootBuiltins y) (lim : s.heap.NoLimit) (gens : s.gens = #[])
    (script : s.heap.get? a = some { cls := .type "list", data := .seq vs.toArray }) (intsOk : IntsAre vs ns) (small : ns.length ≤ sizeLine) (room : Room k callerA)
    (F : ∀ base : Heap, K.In base → base.Ns mainGlobals mg → ∃ (fd : FuncData) (ps : List Str), FnG P w K mg base k fa fd ps sp ∧ Binds K fd ps [])
    (asked : ∀ H : Hp, RelP K [] H (.list (ns.map .int)) (.ref a) → sp [.ref a] H (fun v _ => v = .bl true) fun _ _ _ => False) :
    codeAny (model P w) callerA (.call (.ref fa) ⟨[.ref a], []⟩) (fun r s' => r = .ok (.ret (.bool true)) ∧ OldK s.heap s'.heap ∧ s'.os = s.os ∧ AllBare s'.gens) s := by
  have rel := vals_ints intsOk
  have len2 := intsOk.length
  suffices main : ∀ H : Hp, (∀ c, c ≠ a → H c = none) → (H a = none ∨ H a = some (.frz { cls := .type "list", data := .seq vs.toArray } (.lst (ns.map V.int))) ∧ K.lookup a = none) → HOk P w H s.heap →
      RelP K [] H (.list (ns.map .int)) (.ref a) → codeAny (model P w) callerA (.call (.ref fa) ⟨[.ref a], []⟩) (fun r s' => r = .ok (.ret (.bool true)) ∧ OldK s.heap s'.heap ∧ s'.os = s.os ∧ AllBare s'.gens) s by
    cases hk : K.lookup a with
    | some o =>
      have same := inK a o hk
      rw [script] at same
      cases same
      refine main (fun _ => none) (fun _ _ => rfl) (.inl rfl) (fun _ _ z => nomatch z) (.lst (.inr ⟨vs.toArray, _, hk, ?_, by simpa using rel⟩) (relPs_ints ns))
      rw [List.size_toArray, len2]
      exact small
    | none =>
      refine main (scriptH a vs ns) (fun _ z => scriptH_none z) (.inr ⟨scriptH_at, hk⟩) ?_ (.lst (.inl ⟨.inr ⟨_, scriptH_at⟩, by simp⟩) (relPs_ints ns))
      intro c u z
      by_cases hc : c = a
      · subst hc
        rw [scriptH_at] at z
        cases z
        exact ⟨script, by simpa using small, vs, _, rel, script⟩
      · rw [scriptH_none hc] at z; cases z
  intro H other atA hok relA
  have off : ∀ {c : Addr} {o : Obj}, s.heap.get? c = some o → H c = none → (hidT s.heap H).get? c = some o := fun z n => hidT_get z n
  have nsOff : ∀ {c : Addr} {m : Str → Option Value}, s.heap.Ns c m → (hidT s.heap H).Ns c m := by
    rintro c m ⟨o, es, ep, z, d, rest⟩
    refine ⟨o, es, ep, off z (other c ?_), d, rest⟩
    rintro rfl
    rw [script] at z
    cases z
    cases d
  have inB : K.In (hidT s.heap H) := by
    intro c o z
    apply off (inK c o z)
    by_cases hc : c = a
    · subst hc
      rcases atA with n | ⟨_, n⟩
      · exact n
      · rw [n] at z; cases z
    · exact other c hc
  have md : Mod K mg (hidT s.heap H) := by
    obtain ⟨mc, z1, z2⟩ := lim
    exact ⟨inB, nsOff glob, ⟨mb, nsOff blt, boot⟩, mc, nsOff z1, z2⟩
  have env : Env0 P w K mg (hidT s.heap H) callerA [] s H :=
    ⟨rfl, md, fun c o z => of_hidT z, Nat.le_of_eq (hidT_size _ _), trivial, (fun c z => absurd (show c ∈ ([] : List Addr) from z) (by simp)), hok, .of_eq gens⟩
  obtain ⟨fd, ps, FF, binds⟩ := F _ inB (nsOff glob)
  have one := FF.many _ _ _ _ (asked H relA)
  have bound := binds s [.ref a] inK (by simpa using one)
  rw [List.append_nil] at bound
  apply codeAny_mono (FF.go callerA [] s _ [.ref a] [.ref a] _ _ room rfl env bound (.cons rfl .nil) (asked H relA))
  intro res sB ended
  match res, ended with
  | .error ex, ⟨_, _, _, _, _, _, _, _, _, _, _, _, z⟩ => exact z.elim
  | .ok .next, z => exact False.elim z
  | .ok .brk, z => exact False.elim z
  | .ok .cont, z => exact False.elim z
  | .ok (.ret u), ⟨v, H1, os, bare, un, hok1, rv, q⟩ =>
    have q' : v = .bl true := q
    subst q'
    obtain rfl : u = Value.bool true := rv
    refine ⟨rfl, OldK.of_keep fun c o z => ?_, os, bare⟩
    by_cases hn : H c = none
    · exact un.keep c o z hn (by intro m; nomatch m) (by simp)
    · have hc : c = a := Classical.byContradiction fun n => hn (other c n)
      subst hc
      rcases atA with n | ⟨n, _⟩
      · exact absurd n hn
      · have z2 := un.frzs c _ _ n
        obtain ⟨z3, _⟩ := hok1 c _ z2
        rw [script] at z
        cases z
        exact z3
end
end Fw
set_option Elab.async false
set_option linter.all false
set_option maxRecDepth 100000
set_option maxHeartbeats 2000000
namespace Fw
open PySem PySem.Spec PyProof.Rows L2

def RelX (K : PySem.W.Frag) (rho : List Addr) (H : Hp) (x : Xn) (cls : Value) (d : Option Addr) : Prop :=
  cls = .ref (He.ga K x.cls) ∧ ∃ dd v, d = some dd ∧ dd ∉ rho ∧ H dd = some (.xd [("what", v)]) ∧ RelP K rho H x.what v

def Pst {α β : Type} (K : PySem.W.Frag) (W : WX) (sg : L2.St) (R : List Addr → Hp → α → β → Prop) (rho : List Addr) (H : Hp) (r : Rs α) (Q : β → Hp → Prop) : Prop :=
  match r with
  | .ok a g => ∀ rho' H' v, Ext rho H rho' H' → Wf K rho' H' g → R rho' H' a v → Q v H'
  | .exc x g => ∀ rho' H' cls d, Ext rho H rho' H' → Wf K rho' H' g → RelX K rho' H' x cls d → W cls d sg H'
  | .bad => False
section
variable {α β γ : Type} {K : PySem.W.Frag} {W : WX} {sg : L2.St} {R : List Addr → Hp → α → β → Prop} {rho rho1 : List Addr} {H H1 : Hp} {r : Rs α} {Q Q' : β → Hp → Prop}
theorem Pst.ext (h : Pst K W sg R rho H r Q) (e : Ext rho H rho1 H1) : Pst K W sg R rho1 H1 r Q := by
  cases r with
  | ok a g => exact fun r2 H2 v e2 w q => h r2 H2 v (e.trans e2) w q
  | exc x g => exact fun r2 H2 c d e2 w q => h r2 H2 c d (e.trans e2) w q
  | bad => exact h
theorem Pst.mono (h : Pst K W sg R rho H r Q) (m : ∀ v H, Q v H → Q' v H) : Pst K W sg R rho H r Q' := by
  cases r with
  | ok a g => exact fun r2 H2 v e2 w q => m _ _ (h r2 H2 v e2 w q)
  | exc x g => exact h
  | bad => exact h
theorem Pst.here {a : α} {g : Gh} {v : β} (h : Pst K W sg R rho H (.ok a g) Q) (w : Wf K rho H g) (q : R rho H a v) : Q v H := h rho H v (Ext.refl _ _) w q
end

def tE (K : PySem.W.Frag) (W : WX) (f : Fr → Gh → Rs D) : TE := fun sg H Q =>
  ∃ rho fr g, fr.length = sg.length ∧ RelF K rho H fr sg ∧ Wf K rho H g ∧ Pst K W sg (RelD K) rho H (f fr g) Q
def tT (K : PySem.W.Frag) (W : WX) (f : Fr → Gh → Rs Bool) : TT := fun sg H Q =>
  ∃ rho fr g, fr.length = sg.length ∧ RelF K rho H fr sg ∧ Wf K rho H g ∧ Pst K W sg (fun _ _ a b => a = b) rho H (f fr g) Q
def tAs (K : PySem.W.Frag) (W : WX) (f : Fr → Gh → Rs (List D)) : TA := fun sg H Q =>
  ∃ rho fr g, fr.length = sg.length ∧ RelF K rho H fr sg ∧ Wf K rho H g ∧ Pst K W sg (RelDs K) rho H (f fr g) Q

section
variable {K : PySem.W.Frag} {W : WX} {sg : L2.St} {rho : List Addr} {H : Hp} {fr : Fr} {g : Gh}
def After {α β γ δ : Type} (K : PySem.W.Frag) (W : WX) (sg : L2.St) (S : List Addr → Hp → α → β → Prop) (R : List Addr → Hp → γ → δ → Prop) (rho : List Addr) (H : Hp) (fr : Fr) (k : α → Gh → Rs γ) (Q : δ → Hp → Prop) (v : β) (H1 : Hp) : Prop :=
  ∃ rho1 g1 a, Ext rho H rho1 H1 ∧ RelF K rho1 H1 fr sg ∧ Wf K rho1 H1 g1 ∧ S rho1 H1 a v ∧ Pst K W sg R rho1 H1 (k a g1) Q
theorem Pst.bind {α β γ δ : Type} {S : List Addr → Hp → α → β → Prop} {R : List Addr → Hp → γ → δ → Prop} {r : Rs α} {k : α → Gh → Rs γ} {Q : δ → Hp → Prop} (hf : RelF K rho H fr sg) (hw : Wf K rho H g)
    (h : Pst K W sg R rho H (r.bind k) Q) : Pst K W sg S rho H r (After K W sg S R rho H fr k Q) := by
  cases r with
  | ok a g1 => exact fun r2 H2 v e w q => ⟨r2, g1, a, e, hf.ext hw.mut e, w, q, Pst.ext h e⟩
  | exc x g1 => exact h
  | bad => exact h
variable {γ δ : Type} {R : List Addr → Hp → γ → δ → Prop} {Q : δ → Hp → Prop}
theorem stepE {f : Fr → Gh → Rs D} {k : D → Gh → Rs γ} (hl : fr.length = sg.length) (hf : RelF K rho H fr sg) (hw : Wf K rho H g) (h : Pst K W sg R rho H ((f fr g).bind k) Q) :
    tE K W f sg H (After K W sg (RelD K) R rho H fr k Q) := ⟨rho, fr, g, hl, hf, hw, Pst.bind hf hw h⟩
theorem stepA {f : Fr → Gh → Rs (List D)} {k : List D → Gh → Rs γ} (hl : fr.length = sg.length) (hf : RelF K rho H fr sg) (hw : Wf K rho H g) (h : Pst K W sg R rho H ((f fr g).bind k) Q) :
    tAs K W f sg H (After K W sg (RelDs K) R rho H fr k Q) := ⟨rho, fr, g, hl, hf, hw, Pst.bind hf hw h⟩
theorem stepT {f : Fr → Gh → Rs Bool} {k : Bool → Gh → Rs γ} (hl : fr.length = sg.length) (hf : RelF K rho H fr sg) (hw : Wf K rho H g) (h : Pst K W sg R rho H ((f fr g).bind k) Q) :
    tT K W f sg H (After K W sg (fun _ _ a b => a = b) R rho H fr k Q) := ⟨rho, fr, g, hl, hf, hw, Pst.bind hf hw h⟩
theorem tE.mono {f : Fr → Gh → Rs D} {Q Q' : VK} (h : tE K W f sg H Q) (m : ∀ v H, Q v H → Q' v H) : tE K W f sg H Q' := by
  obtain ⟨rho, fr, g, hl, hf, hw, h⟩ := h
  exact ⟨rho, fr, g, hl, hf, hw, h.mono m⟩
theorem tAs.mono {f : Fr → Gh → Rs (List D)} {Q Q' : List V → Hp → Prop} (h : tAs K W f sg H Q) (m : ∀ v H, Q v H → Q' v H) : tAs K W f sg H Q' := by
  obtain ⟨rho, fr, g, hl, hf, hw, h⟩ := h
  exact ⟨rho, fr, g, hl, hf, hw, h.mono m⟩
theorem tT.mono {f : Fr → Gh → Rs Bool} {Q Q' : Bool → Hp → Prop} (h : tT K W f sg H Q) (m : ∀ v H, Q v H → Q' v H) : tT K W f sg H Q' := by
  obtain ⟨rho, fr, g, hl, hf, hw, h⟩ := h
  exact ⟨rho, fr, g, hl, hf, hw, h.mono m⟩
end

section
variable {X : Cx} {e : Expr} {es : List Expr}
theorem pe_imp {t t' : TE} (h : PE X e t) (i : ∀ sg H Q, t' sg H Q → t sg H Q) : PE X e t' := ⟨fun pins s sg H Q I q => h.run pins s sg H Q I (i sg H Q q)⟩
theorem pt_imp {t t' : TT} (h : PT X e t) (i : ∀ sg H Q, t' sg H Q → t sg H Q) : PT X e t' := ⟨fun pins s sg H Q I q => h.run pins s sg H Q I (i sg H Q q)⟩
theorem pa_imp {t t' : TA} (h : PA X es t) (i : ∀ sg H Q, t' sg H Q → t sg H Q) : PA X es t' := ⟨fun pos pins s sg H Q I q => h.run pos pins s sg H Q I (i sg H Q q)⟩
end

def BinO.op : BinO → Operator
  | .add => .Add | .sub => .Sub | .mul => .Mult | .fdiv => .FloorDiv | .mod => .Mod | .pow => .Pow
def CmpO.op : CmpO → CmpOp
  | .eq => .Eq | .ne => .NotEq | .lt => .Lt | .le => .LtE | .gt => .Gt | .ge => .GtE | .isIn => .In | .notIn => .NotIn | .is_ => .Is | .isNot => .IsNot
def r2V (K : PySem.W.Frag) (W : WX) (sg : L2.St) (f : D → D → Gh → Rs D) : R2 := fun x y H Q =>
  ∃ rho g a b, Wf K rho H g ∧ RelD K rho H a x ∧ RelD K rho H b y ∧ Pst K W sg (RelD K) rho H (f a b g) Q

section
variable {K : PySem.W.Frag} {W : WX} {sg : L2.St} {rho : List Addr} {H : Hp} {g : Gh} {Q : VK}
theorem Pst.newTup {ps : List PyData} {vs : List V} (w : Wf K rho H g) (h : Pst K W sg (RelD K) rho H (.ok (.dat (.tuple ps)) g) Q) (r : RelPs K rho H ps vs) : ∀ p, H p = none → Q (.ref p) (upd H p (.tup vs)) := fun p hp => by
  obtain ⟨e, w1⟩ := w.alloc hp (.tup vs)
  exact h _ _ _ e w1 (.dat (.tup (.inl (.inl upd_same)) (r.ext w.mut e)))
theorem Pst.newLst {ps : List PyData} {vs : List V} (w : Wf K rho H g) (h : Pst K W sg (RelD K) rho H (.ok (.dat (.list ps)) g) Q) (r : RelPs K rho H ps vs) : ∀ p, H p = none → Q (.ref p) (upd H p (.lst vs)) := fun p hp => by
  obtain ⟨e, w1⟩ := w.alloc hp (.lst vs)
  exact h _ _ _ e w1 (.dat (.lst (.inl ⟨.inl upd_same, w.not_in hp⟩) (r.ext w.mut e)))
theorem RelPs.append {ps qs : List PyData} {vs us : List V} : RelPs K rho H ps vs → RelPs K rho H qs us → RelPs K rho H (ps ++ qs) (vs ++ us)
  | .nil, h => h
  | .cons a b, h => .cons a (b.append h)
theorem RelPs.rep {ps : List PyData} {vs : List V} (h : RelPs K rho H ps vs) : ∀ k : Nat, RelPs K rho H (List.replicate k ps).flatten (List.replicate k vs).flatten
  | 0 => .nil
  | k + 1 => by
    rw [List.replicate_succ, List.replicate_succ, List.flatten_cons, List.flatten_cons]
    exact h.append (h.rep k)
theorem RelPs.get {ps : List PyData} {vs : List V} (h : RelPs K rho H ps vs) {i : Nat} {p : PyData} (e : ps[i]? = some p) : ∃ v, vs[i]? = some v ∧ RelP K rho H p v := by
  induction i generalizing ps vs with
  | zero =>
    cases h with
    | nil => cases e
    | cons a b => cases e; exact ⟨_, rfl, a⟩
  | succ i ih =>
    cases h with
    | nil => cases e
    | cons a b => exact ih b e
theorem RelPs.take {ps : List PyData} {vs : List V} : RelPs K rho H ps vs → ∀ n : Nat, RelPs K rho H (ps.take n) (vs.take n)
  | _, 0 => .nil
  | .nil, _ + 1 => .nil
  | .cons a b, n + 1 => .cons a (b.take n)
theorem RelPs.drop {ps : List PyData} {vs : List V} : RelPs K rho H ps vs → ∀ n : Nat, RelPs K rho H (ps.drop n) (vs.drop n)
  | h, 0 => h
  | .nil, _ + 1 => .nil
  | .cons a b, n + 1 => b.drop n
theorem RelDs.get {ds : List D} {vs : List V} (h : RelDs K rho H ds vs) {i : Nat} {p : D} (e : ds[i]? = some p) : ∃ v, vs[i]? = some v ∧ RelD K rho H p v := by
  induction i generalizing ds vs with
  | zero =>
    cases h with
    | nil => cases e
    | cons a b => cases e; exact ⟨_, rfl, a⟩
  | succ i ih =>
    cases h with
    | nil => cases e
    | cons a b => exact ih b e
end
theorem atI_rel {α β : Type} {F : α → β → Prop} {xs : List α} {ys : List β} (hl : xs.length = ys.length) (hg : ∀ (i : Nat) (a : α), xs[i]? = some a → ∃ b, ys[i]? = some b ∧ F a b) {i : Int} {a : α} (h : atI xs i = some a) : ∃ b, atI ys i = some b ∧ F a b := by
  unfold atI at h ⊢
  rw [← hl]
  cases q : ixN xs.length i with
  | none => rw [q] at h; cases h
  | some j =>
    rw [q] at h
    exact hg j a h

theorem Pst.ofP {K : PySem.W.Frag} {W : WX} {sg : L2.St} {rho : List Addr} {H : Hp} {g : Gh} {Q : VK} {o : Option PyData} (h : Pst K W sg (RelD K) rho H (.ofP o g) Q) : ∃ r, o = some r ∧ Pst K W sg (RelD K) rho H (.ok (.dat r) g) Q := by
  cases o with
  | none => exact (show False from h).elim
  | some r => exact ⟨r, rfl, h⟩
theorem Pst.ofB {K : PySem.W.Frag} {W : WX} {sg : L2.St} {rho : List Addr} {H : Hp} {g : Gh} {Q : VK} {o : Option Bool} (h : Pst K W sg (RelD K) rho H (.ofB o g) Q) : ∃ r, o = some r ∧ Pst K W sg (RelD K) rho H (.ok (.dat (.bool r)) g) Q := by
  cases o with
  | none => exact (show False from h).elim
  | some r => exact ⟨r, rfl, h⟩
theorem Pst.of {K : PySem.W.Frag} {W : WX} {sg : L2.St} {rho : List Addr} {H : Hp} {g : Gh} {Q : VK} {o : Option D} (h : Pst K W sg (RelD K) rho H (.of o g) Q) : ∃ r, o = some r ∧ Pst K W sg (RelD K) rho H (.ok r g) Q := by
  cases o with
  | none => exact (show False from h).elim
  | some r => exact ⟨r, rfl, h⟩
section
theorem mulOne (l : Addr) (items : Array Value) (n : Nat) (dd : Option Addr) (sl : Array (Option Value)) (u : Tok) :
    Meets (Builtin.«tuple.__mul__» ⟨[.ref l, .int 1 u], []⟩) (fun _ R s => s.heap.get? l = some { cls := .type "tuple", dict := dd, data := .seq items n, slots := sl } ∧ R (.ok (.ret (Value.ref l))) s) :=
  .of_wp fun prog w A R s given => by
    obtain ⟨hp, gs, dr, tk, os⟩ := s
    obtain ⟨there, goal⟩ := given
    have whole := AutoSeq1.idx_int
    wp_walk using wpAny_loadPart' there
    exact ⟨_, rfl, goal⟩
theorem mulNone (l : Addr) (items : Array Value) (n : Nat) (dd : Option Addr) (sl : Array (Option Value)) (x : Int) (u : Tok) (h0 : -(2 ^ 63) ≤ x) (h1 : x ≤ 0) (ne : items.isEmpty = false) :
    Meets (Builtin.«tuple.__mul__» ⟨[.ref l, .int x u], []⟩) (fun _ R s => s.heap.get? l = some { cls := .type "tuple", dict := dd, data := .seq items n, slots := sl } ∧
      R (.ok (.ret (Value.ref s.heap.objs.size))) { s with heap := s.heap.push { cls := Value.type "tuple", data := Data.seq #[] }, toks := s.toks }) :=
  .of_wp fun prog w A R s given => by
    obtain ⟨hp, gs, dr, tk, os⟩ := s
    obtain ⟨there, goal⟩ := given
    have whole := AutoSeq1.idx_int
    wp_walk using wpAny_loadPart' there
    have c0 : ¬ ((decide (x < -2 ^ 63) || decide (x ≥ 2 ^ 63)) = true) := by
      rw [Bool.or_eq_true, decide_eq_true_eq, decide_eq_true_eq]
      omega
    rw [if_neg c0]
    wp_walk using wpAny_loadPart' there
    have c1 : ¬ ((items.isEmpty || x == 1) = true) := by
      rw [ne, Bool.false_or, beq_iff_eq]
      omega
    rw [if_neg c1]
    wp_walk using wpAny_loadPart' there
    exact ⟨_, rfl, goal⟩
theorem mulSmall {X : Cx} {pins : List (Addr × Obj)} {s : Shared} {tau : L2.St} {H : Hp} {Q : VK} {l : Addr} {k : Int} {t : Tok} {xs : List V} (I : Inv X pins tau H s) (hT : SqT X.K H l xs) (ne : xs ≠ []) (h0 : -(2 ^ 63) ≤ k) (h1 : k ≤ 1)
    (q1 : k = 1 → Q (.ref l) H) (q0 : k ≤ 0 → ∀ p, H p = none → Q (.ref p) (upd H p (.tup []))) : wpAny (model X.prog X.w) X.A (binaryOp .Mult (.ref l) (.int k t)) (EP X pins tau Q) X.xe s := by
  obtain ⟨its, r, ⟨⟨cls, dd, data, sl⟩, there, hc, n, hd⟩, hs⟩ := I.tuple hT
  simp only at hc hd
  subst hc hd
  have hi : its.toArray.isEmpty = false := by
    cases r with
    | nil => exact absurd rfl ne
    | cons _ _ => rfl
  refine wpAny_binaryOp_repeat_ref (T := "tuple") (U := "int") (by decide) ⟨_, there, rfl⟩ (fun s' => typeIs_int s' k t) noFill_tuple_mul F.fills_int_mul F.slot_int_rmul repeat_tuple F.slot_int_index.lookup
    (call_meets F.slot_int_rmul (typeIs_int s k t) F.entry_int_rmul (F.args_int_rmul_2 _ _) (int_rmul_tuple k t l its.toArray n dd sl) ⟨there, rfl, ⟨_, there, rfl⟩, ?_⟩)
  by_cases hk : k = 1
  · subst hk
    exact call_meets F.slot_tuple_mul ⟨_, there, rfl⟩ F.entry_tuple_mul (F.args_tuple_mul_2 _ _) (mulOne l its.toArray n dd sl t) ⟨there, .ref l, H, I, rfl, q1 rfl⟩
  · refine call_meets F.slot_tuple_mul ⟨_, there, rfl⟩ F.entry_tuple_mul (F.args_tuple_mul_2 _ _) (mulNone l its.toArray n dd sl k t h0 (by omega) hi) ⟨there, ?_⟩
    refine ⟨.ref s.heap.objs.size, _, I.laid (t' := s.toks) (o := .tup []) (fun b ob q => Heap.get?_push_of_some _ q) (Nat.le_refl _) ?_, rfl, q0 (by omega) _ (I.hok.fresh (Nat.le_refl _))⟩
    exact ⟨Nat.zero_le _, [], .nil, IsTup.new _ _⟩
theorem lstObj {X : Cx} {pins : List (Addr × Obj)} {s : Shared} {tau : L2.St} {H : Hp} {rho : List Addr} {b : Addr} {zs : List V} (I : Inv X pins tau H s) (h : Rd H b (.lst zs) ∧ b ∉ rho ∨ KL X.K b zs) :
    ∃ (its : List Value) (n : Nat), Vals zs its ∧ s.heap.get? b = some { cls := .type "list", data := .seq its.toArray n } := by
  rcases h with ⟨hb | ⟨o, hb⟩, _⟩ | ⟨arr, n2, hk, _, r2⟩
  · obtain ⟨_, its2, n2, r2, _, e2⟩ := I.lstM hb
    exact ⟨its2, n2, r2, e2⟩
  · obtain ⟨_, _, its2, n2, r2, e2⟩ := (show ObjOk X.prog X.w H s.heap b (.frz o (.lst zs)) from I.hok b _ hb)
    exact ⟨its2, n2, r2, e2⟩
  · exact ⟨arr.toList, n2, r2, by simpa using I.kIn b _ hk⟩
end
section
variable {X : Cx} {W : WX} {sg : L2.St}
theorem opBin (o : BinO) : OpR X (binaryOp o.op) (r2V X.K W sg (binV o)) := by
  intro pins s σ H x y v u Q I rx ry h
  obtain ⟨rho, g, a, b, w, ra, rb, h⟩ := h
  cases ra with
  | ref _ => exact (show False from h).elim
  | fn _ => exact (show False from h).elim
  | @dat p _ ha =>
  cases rb with
  | ref _ => exact (show False from h).elim
  | fn _ => exact (show False from h).elim
  | @dat q _ hb =>
  obtain ⟨r, e, h⟩ := Pst.ofP (show Pst X.K W sg (RelD X.K) rho H (.ofP (binD o p q) g) Q from h)
  have fin : ∀ {i : Int}, r = .int i → Q (.int i) H := fun {i} er => by subst er; exact h.here w (.dat (.int i))
  cases o with
  | add =>
    cases ha with
    | @int i => cases hb with
      | @int j =>
        cases e
        exact op_add pins s σ H _ _ v u Q I rx ry ⟨i, j, rfl, rfl, fin rfl⟩
      | _ => cases e
    | @str i => cases hb with
      | @str j =>
        have e' : (if i.length + j.length ≤ line then some (PyData.str (i ++ j)) else none) = some r := e
        split at e'
        · cases e'
          exact op_add_str pins s σ H _ _ v u Q I rx ry ⟨i, j, rfl, rfl, by rw [← line_eq]; assumption, h.here w (.dat (.str _))⟩
        · cases e'
      | _ => cases e
    | @tup a vs ps hq hs => cases hb with
      | @tup b us qs hq2 hs2 =>
        have e' : (if ps.length + qs.length ≤ line then some (PyData.tuple (ps ++ qs)) else none) = some r := e
        split at e'
        · rename_i hz
          cases e'
          refine op_catA pins s σ H _ _ v u Q I rx ry ⟨a, b, vs, us, rfl, rfl, hq, hq2, ?_, fun z => ?_, fun z1 z => ?_, fun z1 z2 => ?_⟩
          · rw [← hs.length, ← hs2.length, ← line_eq]; exact hz
          · subst z
            cases hs
            exact h.here w (.dat (.tup hq2 hs2))
          · subst z
            cases hs2
            exact h.here w (.dat (.tup hq (by rw [List.append_nil]; exact hs)))
          · exact h.newTup w (hs.append hs2)
        · cases e'
      | _ => cases e
    | @lst a vs ps hq hs => cases hb with
      | @lst b us qs hq2 hs2 =>
        have e' : (if ps.length + qs.length ≤ line then some (PyData.list (ps ++ qs)) else none) = some r := e
        split at e'
        · rename_i hz
          cases e'
          cases rx
          cases ry
          obtain ⟨its, n, r1, o1⟩ := lstObj I hq
          obtain ⟨its2, n2, r2, o2⟩ := lstObj I hq2
          have l1 := r1.length
          have l2 := r2.length
          have hz' : vs.length + us.length ≤ sizeLine := by rw [← hs.length, ← hs2.length, ← line_eq]; exact hz
          refine PySem.P.add_list o1 o2 ?_ (by rw [List.size_toArray, List.size_toArray]; omega)
          have ea : its.toArray ++ its2.toArray = (its ++ its2).toArray := by simp
          rw [ea]
          exact ⟨.ref _, _, I.lnew (t' := s.toks) (r1.append r2) (by rw [List.length_append]; omega), rfl, h.newLst w (hs.append hs2) _ I.fresh⟩
        · cases e'
      | _ => cases e
    | _ => cases hb <;> cases e
  | sub =>
    cases ha with
    | @int i => cases hb with
      | @int j =>
        cases e
        exact op_sub pins s σ H _ _ v u Q I rx ry ⟨i, j, rfl, rfl, fin rfl⟩
      | _ => cases e
    | _ => cases hb <;> cases e
  | mul =>
    cases ha with
    | @int i => cases hb with
      | @int j =>
        have e' : (if (-(2 ^ 64) < i ∧ i < 2 ^ 64) ∨ (-(2 ^ 64) < j ∧ j < 2 ^ 64) then some (PyData.int (i * j)) else none) = some r := e
        split at e'
        · rename_i hc
          cases e'
          exact op_mul pins s σ H _ _ v u Q I rx ry ⟨i, j, rfl, rfl, hc, fin rfl⟩
        · cases e'
      | _ => cases e
    | @tup a vs ps hq hs => cases hb with
      | @int k =>
        have e' : (if ps ≠ [] ∧ -(2 ^ 63) ≤ k ∧ k ≤ 1000 ∧ ps.length ≤ 1000 then some (PyData.tuple (List.replicate k.toNat ps).flatten) else none) = some r := e
        split at e'
        · rename_i hc
          obtain ⟨h1, h2, h3, h4⟩ := hc
          have nv : vs ≠ [] := by
            rintro rfl
            cases hs
            exact h1 rfl
          cases e'
          by_cases hk : 2 ≤ k
          · exact op_repT pins s σ H _ _ v u Q I rx ry ⟨a, k, vs, rfl, rfl, hq, nv, hk, h3, by rw [← hs.length]; exact h4, h.newTup w (hs.rep _)⟩
          · cases rx
            obtain ⟨t, rfl⟩ := ry
            refine mulSmall I hq nv h2 (by omega) (fun k1 => ?_) fun k0 => ?_
            · subst k1
              refine h.here w (.dat (.tup hq ?_))
              have z := hs.rep 1
              simpa using hs
            · have z : k.toNat = 0 := by omega
              rw [z] at h
              exact h.newTup w .nil
        · cases e'
      | _ => cases e
    | _ => cases hb <;> cases e
  | fdiv =>
    cases ha with
    | @int i => cases hb with
      | @int j =>
        have e' : (if 0 < j ∧ j < 1073741824 then some (PyData.int (i / j)) else none) = some r := e
        split at e'
        · rename_i hc
          cases e'
          exact op_fdiv pins s σ H _ _ v u Q I rx ry ⟨i, j, rfl, rfl, hc, fin rfl⟩
        · cases e'
      | _ => cases e
    | _ => cases hb <;> cases e
  | mod =>
    cases ha with
    | @int i => cases hb with
      | @int j =>
        have e' : (if 0 < j then some (PyData.int (i % j)) else none) = some r := e
        split at e'
        · rename_i hc
          cases e'
          exact op_mod pins s σ H _ _ v u Q I rx ry ⟨i, j, rfl, rfl, hc, fin rfl⟩
        · cases e'
      | _ => cases e
    | _ => cases hb <;> cases e
  | pow =>
    cases ha with
    | @int i => cases hb with
      | @int j =>
        have e' : (if 0 ≤ j ∧ j ≤ 1000000 ∧ i.natAbs < 2 ^ 64 then some (PyData.int (i ^ j.toNat)) else none) = some r := e
        split at e'
        · rename_i hc
          cases e'
          exact op_pow pins s σ H _ _ v u Q I rx ry ⟨i, j, rfl, rfl, hc, fin rfl⟩
        · cases e'
      | _ => cases e
    | _ => cases hb <;> cases e
end
end Fw
set_option Elab.async false
set_option linter.all false
set_option maxRecDepth 100000
set_option maxHeartbeats 2000000
namespace Fw
open PySem PySem.Spec PyProof.Rows L2
section
variable {K : PySem.W.Frag} {rho : List Addr} {H : Hp} {g : Gh}
theorem viaL_dp (w : Wf K rho H g) {d : D} {v : V} {p : PyData} (r : RelD K rho H d v) (e : viaL g d = some p) : Dp K H v p := by
  cases r with
  | dat h => cases e; exact h.dp
  | fn _ => cases e
  | @ref n a ha =>
    have e' : viaR g n = some p := e
    unfold viaR at e'
    cases q : getL g n with
    | none => rw [q] at e'; cases e'
    | some xs =>
      rw [q] at e'
      have e2 : (datsOf xs).map .list = some p := e'
      cases q2 : datsOf xs with
      | none => rw [q2] at e2; cases e2
      | some ps =>
        rw [q2] at e2
        cases e2
        obtain ⟨vs, h1, h2⟩ := w.getL q ha
        exact .lst (.inl (.inl h1)) (h2.dats q2).dp
theorem flat_dp {v : V} {p : PyData} (h : Dp K H v p) (f : flatD p = true) : flatV v = true := by
  cases h <;> first | rfl | cases f
theorem eqV_dp {v u : V} {p q : PyData} (h : Dp K H v p) (h2 : Dp K H u q) (f : flatD p = true) (f2 : flatD q = true) : eqV v u = PyData.eqv p q := by
  cases h <;> first | (cases f; done) | (cases h2 <;> first | (cases f2; done) | (simp [eqV, PyData.eqv]))
theorem all_flat : ∀ {vs : List V} {ps : List PyData}, DpAll K H vs ps → ps.all flatD = true → vs.all flatV = true
  | _, _, .nil, _ => rfl
  | _, _, .cons h hs, f => by
    rw [List.all_cons, Bool.and_eq_true] at f
    rw [List.all_cons, flat_dp h f.1, all_flat hs f.2]; rfl
theorem inV_dp {u : V} {q : PyData} (h2 : Dp K H u q) (f2 : flatD q = true) : ∀ {vs : List V} {ps : List PyData}, DpAll K H vs ps → ps.all flatD = true → inV u vs = ps.any fun z => PyData.eqv z q
  | _, _, .nil, _ => rfl
  | _, _, .cons (vs := vs) h hs, f => by
    rw [List.all_cons, Bool.and_eq_true] at f
    have ih := inV_dp h2 f2 hs f.2
    unfold inV at ih ⊢
    rw [List.any_cons, List.any_cons, ih, eqV_dp h h2 f.1 f2]
end
theorem one_sign {x : Str} {c : Nat} (h : x.cps.toList = [c]) : x = ⟨#[c]⟩ := by
  obtain ⟨⟨l⟩⟩ := x
  have h' : l = [c] := h
  subst h'
  rfl
theorem int_le_not {i j : Int} : decide (i ≤ j) = !decide (j < i) := by
  by_cases h : j < i
  · rw [decide_eq_true h, decide_eq_false (by omega)]; rfl
  · rw [decide_eq_false h, decide_eq_true (by omega)]; rfl
theorem min_le64 {A : Around} {p q : PyData} (hu : A.units + 65 < cLine) (h : p.depth ≤ 64) : A.units + min p.depth q.depth < cLine := by
  have : min p.depth q.depth ≤ p.depth := Nat.min_le_left _ _
  omega
theorem min_le64' {A : Around} {p q : PyData} (hu : A.units + 65 < cLine) (h : q.depth ≤ 64) : A.units + min p.depth q.depth < cLine := by
  have : min p.depth q.depth ≤ q.depth := Nat.min_le_right _ _
  omega
theorem map_not {o : Option Bool} {b : Bool} (h : o.map not = some b) : o = some (!b) := by
  cases o with
  | none => cases h
  | some c => cases h; simp
section
variable {X : Cx} {pins : List (Addr × Obj)} {s : Shared} {sg : L2.St} {H : Hp} {x y : V} {v u : Value} {Q : VK} {p q : PyData} {b : Bool}
theorem cmp_eq (hu : X.A.units + 65 < cLine) (I : Inv X pins sg H s) (rx : RelV x v) (ry : RelV y u) (hx : Dp X.K H x p) (hy : Dp X.K H y q) (e : eqD p q = some b) (h : Q (.bl b) H) :
    wpAny (model X.prog X.w) X.A (compareOp .Eq v u) (EP X pins sg Q) X.xe s := by
  unfold eqD at e
  split at e
  · cases hx; cases hy; cases e
    refine L2.op_eq pins s sg H _ _ v u Q I rx ry ⟨rfl, ?_⟩
    rw [dec_str]; exact h
  · split at e
    · rename_i z
      rw [Bool.and_eq_true] at z
      cases e
      exact op_eqD (by omega) pins s sg H x y v u Q I rx ry ⟨p, q, hx, hy, z.1, z.2, h⟩
    · cases e
theorem cmp_ne (hu : X.A.units + 65 < cLine) (I : Inv X pins sg H s) (rx : RelV x v) (ry : RelV y u) (hx : Dp X.K H x p) (hy : Dp X.K H y q) (e : eqD p q = some (!b)) (h : Q (.bl b) H) :
    wpAny (model X.prog X.w) X.A (compareOp .NotEq v u) (EP X pins sg Q) X.xe s := by
  unfold eqD at e
  split at e
  · rename_i z z2
    cases hx; cases hy
    refine op_ne pins s sg H _ _ v u Q I rx ry ⟨rfl, ?_⟩
    rw [dec_str]
    have e' : (z == z2) = !b := Option.some.inj e
    rw [e', Bool.not_not]; exact h
  · split at e
    · rename_i z
      rw [Bool.and_eq_true] at z
      have e' : PyData.eqv p q = !b := Option.some.inj e
      exact op_neD (by omega) pins s sg H x y v u Q I rx ry ⟨p, q, hx, hy, z.1, z.2, by rw [e', Bool.not_not]; exact h⟩
    · cases e
theorem cmp_lt (hu : X.A.units + 65 < cLine) (I : Inv X pins sg H s) (rx : RelV x v) (ry : RelV y u) (hx : Dp X.K H x p) (hy : Dp X.K H y q) (e : ltD p q = some b) (h : Q (.bl b) H) :
    wpAny (model X.prog X.w) X.A (compareOp .Lt v u) (EP X pins sg Q) X.xe s := by
  unfold ltD at e
  split at e
  · cases hx; cases hy; cases e
    exact op_lt pins s sg H _ _ v u Q I rx ry ⟨_, _, rfl, rfl, h⟩
  · split at e
    · rename_i z
      rw [Bool.and_eq_true] at z
      cases e
      obtain ⟨as, r1⟩ := Dp.reads I _ _ _ hx rx
      obtain ⟨bs, r2⟩ := Dp.reads I _ _ _ hy ry
      exact PySem.W.lt_data r1 r2 z.1 (fun c => nomatch c) (min_le64 hu (of_decide_eq_true z.2)) ⟨.bl _, H, I, rfl, h⟩
    · cases e
  · cases e
theorem cmp_gt (hu : X.A.units + 65 < cLine) (I : Inv X pins sg H s) (rx : RelV x v) (ry : RelV y u) (hx : Dp X.K H x p) (hy : Dp X.K H y q) (e : ltD q p = some b) (h : Q (.bl b) H) :
    wpAny (model X.prog X.w) X.A (compareOp .Gt v u) (EP X pins sg Q) X.xe s := by
  unfold ltD at e
  split at e
  · cases hx; cases hy; cases e
    exact op_gt pins s sg H _ _ v u Q I rx ry ⟨_, _, rfl, rfl, h⟩
  · split at e
    · rename_i z
      rw [Bool.and_eq_true] at z
      cases e
      obtain ⟨as, r1⟩ := Dp.reads I _ _ _ hx rx
      obtain ⟨bs, r2⟩ := Dp.reads I _ _ _ hy ry
      exact PySem.W.gt_data r1 r2 (by rw [PySem.W.alike_comm]; exact z.1) (fun c => nomatch c) (min_le64' hu (of_decide_eq_true z.2)) ⟨.bl _, H, I, rfl, h⟩
    · cases e
  · cases e
theorem cmp_le (hu : X.A.units + 65 < cLine) (I : Inv X pins sg H s) (rx : RelV x v) (ry : RelV y u) (hx : Dp X.K H x p) (hy : Dp X.K H y q) (e : ltD q p = some (!b)) (h : Q (.bl b) H) :
    wpAny (model X.prog X.w) X.A (compareOp .LtE v u) (EP X pins sg Q) X.xe s := by
  unfold ltD at e
  split at e
  · rename_i i j
    cases hx; cases hy
    have e' : decide (i < j) = !b := Option.some.inj e
    exact op_le pins s sg H _ _ v u Q I rx ry ⟨_, _, rfl, rfl, by show Q (.bl (decide (j ≤ i))) H; rw [int_le_not, e', Bool.not_not]; exact h⟩
  · split at e
    · rename_i z
      rw [Bool.and_eq_true] at z
      have e' := Option.some.inj e
      obtain ⟨as, r1⟩ := Dp.reads I _ _ _ hx rx
      obtain ⟨bs, r2⟩ := Dp.reads I _ _ _ hy ry
      exact PySem.W.le_data r1 r2 (by rw [PySem.W.alike_comm]; exact z.1) (fun c => nomatch c) (min_le64' hu (of_decide_eq_true z.2)) ⟨.bl _, H, I, rfl, by rw [e', Bool.not_not]; exact h⟩
    · cases e
  · cases e
theorem cmp_ge (hu : X.A.units + 65 < cLine) (I : Inv X pins sg H s) (rx : RelV x v) (ry : RelV y u) (hx : Dp X.K H x p) (hy : Dp X.K H y q) (e : ltD p q = some (!b)) (h : Q (.bl b) H) :
    wpAny (model X.prog X.w) X.A (compareOp .GtE v u) (EP X pins sg Q) X.xe s := by
  unfold ltD at e
  split at e
  · rename_i i j
    cases hx; cases hy
    have e' : decide (i < j) = !b := Option.some.inj e
    exact op_ge pins s sg H _ _ v u Q I rx ry ⟨_, _, rfl, rfl, by show Q (.bl (decide (j ≤ i))) H; rw [int_le_not, e', Bool.not_not]; exact h⟩
  · split at e
    · rename_i z
      rw [Bool.and_eq_true] at z
      have e' := Option.some.inj e
      obtain ⟨as, r1⟩ := Dp.reads I _ _ _ hx rx
      obtain ⟨bs, r2⟩ := Dp.reads I _ _ _ hy ry
      exact PySem.W.ge_data r1 r2 z.1 (fun c => nomatch c) (min_le64 hu (of_decide_eq_true z.2)) ⟨.bl _, H, I, rfl, by rw [e', Bool.not_not]; exact h⟩
    · cases e
  · cases e
theorem cmp_in (hu : X.A.units + 65 < cLine) (I : Inv X pins sg H s) (rx : RelV x v) (ry : RelV y u) (hx : Dp X.K H x p) (hy : Dp X.K H y q) (e : inD p q = some b) (h : Q (.bl b) H) :
    wpAny (model X.prog X.w) X.A (compareOp .In v u) (EP X pins sg Q) X.xe s := by
  unfold inD at e
  split at e
  · cases hx; cases hy
    split at e
    · rename_i z c ec
      cases e
      exact op_in_sign pins s sg H _ _ v u Q I rx ry ⟨_, _, by rw [one_sign ec], rfl, h⟩
    · cases e
  · split at e
    · rename_i z
      rw [Bool.and_eq_true] at z
      cases e
      cases hy with
      | tup hq hs => exact op_in_seq pins s sg H _ _ v u Q I rx ry ⟨_, _, rfl, .inr hq, flat_dp hx z.1, all_flat hs z.2, by rw [if_neg Bool.false_ne_true, inV_dp hx z.1 hs z.2]; exact h⟩
    · cases e
  · split at e
    · rename_i z
      rw [Bool.and_eq_true] at z
      cases e
      cases hy with
      | lst hq hs => exact op_in_seq pins s sg H _ _ v u Q I rx ry ⟨_, _, rfl, .inl hq, flat_dp hx z.1, all_flat hs z.2, by rw [if_neg Bool.false_ne_true, inV_dp hx z.1 hs z.2]; exact h⟩
    · split at e
      · rename_i z
        rw [Bool.and_eq_true] at z
        cases e
        exact op_inD hu pins s sg H _ _ v u Q I rx ry ⟨_, _, hx, hy, z.1, z.2, h⟩
      · cases e
  · cases e
theorem cmp_notIn (hu : X.A.units + 65 < cLine) (I : Inv X pins sg H s) (rx : RelV x v) (ry : RelV y u) (hx : Dp X.K H x p) (hy : Dp X.K H y q) (e : inD p q = some (!b)) (h : Q (.bl b) H) :
    wpAny (model X.prog X.w) X.A (compareOp .NotIn v u) (EP X pins sg Q) X.xe s := by
  unfold inD at e
  split at e
  · cases hx; cases hy
    split at e
    · rename_i z c ec
      have e' := Option.some.inj e
      exact op_notIn_sign pins s sg H _ _ v u Q I rx ry ⟨_, _, by rw [one_sign ec], rfl, by rw [e', Bool.not_not]; exact h⟩
    · cases e
  · split at e
    · rename_i z
      rw [Bool.and_eq_true] at z
      have e' := Option.some.inj e
      cases hy with
      | tup hq hs => exact op_notIn_seq pins s sg H _ _ v u Q I rx ry ⟨_, _, rfl, .inr hq, flat_dp hx z.1, all_flat hs z.2, by rw [if_pos rfl, inV_dp hx z.1 hs z.2, e', Bool.not_not]; exact h⟩
    · cases e
  · split at e
    · rename_i z
      rw [Bool.and_eq_true] at z
      have e' := Option.some.inj e
      cases hy with
      | lst hq hs => exact op_notIn_seq pins s sg H _ _ v u Q I rx ry ⟨_, _, rfl, .inl hq, flat_dp hx z.1, all_flat hs z.2, by rw [if_pos rfl, inV_dp hx z.1 hs z.2, e', Bool.not_not]; exact h⟩
    · split at e
      · rename_i z
        rw [Bool.and_eq_true] at z
        have e' := Option.some.inj e
        exact op_notInD hu pins s sg H _ _ v u Q I rx ry ⟨_, _, hx, hy, z.1, z.2, by rw [e', Bool.not_not]; exact h⟩
      · cases e
  · cases e
theorem non_dp {K : PySem.W.Frag} (hx : Dp K H x p) : decide (x = .non) = noneD p := by
  cases hx <;> rfl
theorem cmp_is (I : Inv X pins sg H s) (rx : RelV x v) (ry : RelV y u) (hx : Dp X.K H x p) (hy : Dp X.K H y q) (e : isD p q = some b) (h : Q (.bl b) H) :
    wpAny (model X.prog X.w) X.A (compareOp .Is v u) (EP X pins sg Q) X.xe s := by
  unfold isD at e
  split at e
  · cases hy
    have e' := Option.some.inj e
    exact op_isN pins s sg H _ _ v u Q I rx ry ⟨rfl, by rw [non_dp hx]; rw [e']; exact h⟩
  · cases hx; cases hy; cases e
    exact op_isBl pins s sg H _ _ v u Q I rx ry ⟨_, _, rfl, rfl, h⟩
  · cases e
theorem cmp_isNot (I : Inv X pins sg H s) (rx : RelV x v) (ry : RelV y u) (hx : Dp X.K H x p) (hy : Dp X.K H y q) (e : isD p q = some (!b)) (h : Q (.bl b) H) :
    wpAny (model X.prog X.w) X.A (compareOp .IsNot v u) (EP X pins sg Q) X.xe s := by
  unfold isD at e
  split at e
  · cases hy
    have e' := Option.some.inj e
    exact op_notN pins s sg H _ _ v u Q I rx ry ⟨rfl, by rw [non_dp hx, e', Bool.not_not]; exact h⟩
  · cases hx; cases hy
    have e' := Option.some.inj e
    exact op_notBl pins s sg H _ _ v u Q I rx ry ⟨_, _, rfl, rfl, by rw [e', Bool.not_not]; exact h⟩
  · cases e
theorem cmp_dp (hu : X.A.units + 65 < cLine) (o : CmpO) (I : Inv X pins sg H s) (rx : RelV x v) (ry : RelV y u) (hx : Dp X.K H x p) (hy : Dp X.K H y q) (e : cmpD o p q = some b) (h : Q (.bl b) H) :
    wpAny (model X.prog X.w) X.A (compareOp o.op v u) (EP X pins sg Q) X.xe s := by
  cases o with
  | eq => exact cmp_eq hu I rx ry hx hy e h
  | ne => exact cmp_ne hu I rx ry hx hy (map_not e) h
  | lt => exact cmp_lt hu I rx ry hx hy e h
  | gt => exact cmp_gt hu I rx ry hx hy e h
  | le => exact cmp_le hu I rx ry hx hy (map_not e) h
  | ge => exact cmp_ge hu I rx ry hx hy (map_not e) h
  | isIn => exact cmp_in hu I rx ry hx hy e h
  | notIn => exact cmp_notIn hu I rx ry hx hy (map_not e) h
  | is_ => exact cmp_is I rx ry hx hy e h
  | isNot => exact cmp_isNot I rx ry hx hy (map_not e) h
end
section
variable {X : Cx} {W : WX} {sg : L2.St}
theorem opCmp (hu : X.A.units + 65 < cLine) (o : CmpO) : OpR X (compareOp o.op) (r2V X.K W sg (cmpV o)) := by
  intro pins s σ H x y v u Q I rx ry h
  obtain ⟨rho, g, a, b, w, ra, rb, h⟩ := h
  have key : ∀ {p q : PyData} {oo : Option Bool}, Dp X.K H x p → Dp X.K H y q → Pst X.K W sg (RelD X.K) rho H (.ofB (cmpD o p q) g) Q → wpAny (model X.prog X.w) X.A (compareOp o.op v u) (EP X pins σ Q) X.xe s := by
    intro p q _ hx hy h
    obtain ⟨r, e, h⟩ := Pst.ofB h
    exact cmp_dp hu o I rx ry hx hy e (h.here w (.dat (.bl r)))
  cases ra with
  | fn _ => cases rb <;> exact (show False from h).elim
  | @dat p _ ha =>
    cases rb with
    | fn _ => exact (show False from h).elim
    | @dat q _ hb => exact key (oo := none) ha.dp hb.dp h
    | @ref n a hr =>
      have h' : Pst X.K W sg (RelD X.K) rho H (if o.look then .ofB ((viaR g n).bind fun q => cmpD o p q) g else .bad) Q := h
      split at h'
      · cases e : viaR g n with
        | none => rw [e] at h'; exact (show False from h').elim
        | some q =>
          rw [e] at h'
          exact key (oo := none) ha.dp (viaL_dp w (.ref hr) (show viaL g (.ref n) = some q from e)) h'
      · exact (show False from h').elim
  | @ref n a hr =>
    cases rb with
    | fn _ => exact (show False from h).elim
    | ref _ => exact (show False from h).elim
    | @dat q _ hb =>
      unfold cmpV at h
      dsimp only at h
      split at h
      · cases hb
        exact op_isN pins s σ H _ _ v u Q I rx ry ⟨rfl, h.here w (.dat (.bl _))⟩
      · cases hb
        exact op_notN pins s σ H _ _ v u Q I rx ry ⟨rfl, h.here w (.dat (.bl _))⟩
      · split at h
        · cases e : viaR g n with
          | none => rw [e] at h; exact (show False from h).elim
          | some p =>
            rw [e] at h
            exact key (oo := none) (viaL_dp w (.ref hr) (show viaL g (.ref n) = some p from e)) hb.dp h
        · exact (show False from h).elim
end
end Fw
set_option Elab.async false
set_option linter.all false
set_option maxRecDepth 100000
set_option maxHeartbeats 2000000
namespace Fw
open PySem PySem.Spec PyProof.Rows L2
section
variable {K : PySem.W.Frag} {W : WX} {rho : List Addr} {H : Hp} {g : Gh} {Q : VK} {sg : L2.St}
theorem viaL_lst (w : Wf K rho H g) {d : D} {v : V} {ps : List PyData} (r : RelD K rho H d v) (e : viaL g d = some (.list ps)) : ∃ a vs, v = .ref a ∧ SqL K H a vs ∧ RelPs K rho H ps vs := by
  cases r with
  | dat h =>
    cases e
    cases h with
    | lst hq hs => exact ⟨_, _, rfl, sqL_of hq, hs⟩
  | fn _ => cases e
  | @ref n a ha =>
    have e' : viaR g n = some (.list ps) := e
    unfold viaR at e'
    cases q : getL g n with
    | none => rw [q] at e'; cases e'
    | some xs =>
      rw [q] at e'
      have e2 : (datsOf xs).map PyData.list = some (.list ps) := e'
      cases q2 : datsOf xs with
      | none => rw [q2] at e2; cases e2
      | some qs =>
        rw [q2] at e2
        cases e2
        obtain ⟨vs, h1, h2⟩ := w.getL q ha
        exact ⟨_, vs, rfl, .inl (.inl h1), h2.dats q2⟩
theorem viaL_dat (w : Wf K rho H g) {d : D} {v : V} {p : PyData} (r : RelD K rho H d v) (e : viaL g d = some p) (n : ∀ ps, p ≠ .list ps) : RelP K rho H p v := by
  cases r with
  | dat h => cases e; exact h
  | fn _ => cases e
  | @ref m a ha =>
    have e' : viaR g m = some p := e
    unfold viaR at e'
    cases q : getL g m with
    | none => rw [q] at e'; cases e'
    | some xs =>
      rw [q] at e'
      have e2 : (datsOf xs).map PyData.list = some p := e'
      cases q2 : datsOf xs with
      | none => rw [q2] at e2; cases e2
      | some qs =>
        rw [q2] at e2
        cases e2
        exact absurd rfl (n qs)
theorem viaL_tup (w : Wf K rho H g) {d : D} {v : V} {ps : List PyData} (r : RelD K rho H d v) (e : viaL g d = some (.tuple ps)) : ∃ a vs, v = .ref a ∧ SqT K H a vs ∧ RelPs K rho H ps vs := by
  cases viaL_dat w r e (fun _ z => nomatch z) with
  | tup hq hs => exact ⟨_, _, rfl, hq, hs⟩
end

section
variable {X : Cx} {W : WX} {sg : L2.St}
theorem ixAll : IxR X (r2V X.K W sg ixV) := by
  intro value slice pins s σ H x y v u Q I rx ry h hs
  obtain ⟨rho, g, a, b, w, ra, rb, h⟩ := h
  cases ra with
  | fn _ => cases rb <;> exact (show False from h).elim
  | @dat p _ ha =>
    cases rb with
    | fn _ => exact (show False from h).elim
    | ref _ => exact (show False from h).elim
    | @dat q _ hb =>
      obtain ⟨r, e, h'⟩ := Pst.ofP (show Pst X.K W sg (RelD X.K) rho H (.ofP (ixD p q) g) Q from h)
      cases hb with
      | @int i =>
        cases ha with
        | @tup a vs ps hq hl =>
          obtain ⟨z, hz, hr⟩ := atI_rel (F := RelP X.K rho H) hl.length (fun j c hj => hl.get hj) (show atI ps i = some r from e)
          exact ix_tup value slice pins s σ H _ _ v u Q I rx ry ⟨a, vs, i, z, rfl, rfl, hq, hz, h'.here w (.dat hr)⟩ hs
        | @lst a vs ps hq hl =>
          obtain ⟨z, hz, hr⟩ := atI_rel (F := RelP X.K rho H) hl.length (fun j c hj => hl.get hj) (show atI ps i = some r from e)
          exact ix_list value slice pins s σ H _ _ v u Q I rx ry ⟨a, vs, i, z, rfl, rfl, sqL_of hq, hz, h'.here w (.dat hr)⟩ hs
        | @str z =>
          have e' : (if z.length ≤ line then (atI z.cps.toList i).map fun c => PyData.str ⟨#[c]⟩ else none) = some r := e
          split at e'
          · rename_i hz
            cases q : atI z.cps.toList i with
            | none => rw [q] at e'; cases e'
            | some c =>
              rw [q] at e'
              cases e'
              exact ix_str value slice pins s σ H _ _ v u Q I rx ry ⟨z, i, c, rfl, rfl, by rw [← line_eq]; exact hz, q, h'.here w (.dat (.str _))⟩ hs
          · cases e'
        | _ => cases e
      | _ => cases ha <;> cases e
  | @ref n a hr =>
    cases rb with
    | fn _ => exact (show False from h).elim
    | ref _ => exact (show False from h).elim
    | @dat q _ hb =>
      cases hb with
      | @int i =>
        obtain ⟨d, e, h⟩ := Pst.of (show Pst X.K W sg (RelD X.K) rho H (.of ((getL g n).bind fun xs => atI xs i) g) Q from h)
        cases q : getL g n with
        | none => rw [q] at e; cases e
        | some xs =>
          rw [q] at e
          obtain ⟨vs, h1, h2⟩ := w.getL q hr
          obtain ⟨z, hz, hrel⟩ := atI_rel (F := RelD X.K rho H) (Paired.length h2) (fun j c hj => RelDs.get h2 hj) (show atI xs i = some d from e)
          exact ix_list value slice pins s σ H _ _ v u Q I rx ry ⟨a, vs, i, z, rfl, rfl, .inl (.inl h1), hz, h.here w hrel⟩ hs
      | _ => exact (show False from h).elim

theorem cut_rel {K : PySem.W.Frag} {rho : List Addr} {H : Hp} {ps : List PyData} {vs : List V} (h : RelPs K rho H ps vs) (lo hi : Option Int) : RelPs K rho H (cutD ps lo hi) (cutV vs lo hi) := by
  unfold cutD cutV
  rw [h.length]
  exact (h.drop _).take _
theorem cut_all {α : Type} (xs : List α) {lo hi : Option Int} (h : HT.sIx xs.length 0 lo = 0 ∧ HT.sIx xs.length xs.length hi = xs.length) : cutD xs lo hi = xs := by
  unfold cutD
  rw [h.1, h.2]
  simp
def rSlV (K : PySem.W.Frag) (W : WX) (sg : L2.St) : V → Option Int → Option Int → Hp → VK → Prop := fun x lo hi H Q =>
  ∃ rho g a, Wf K rho H g ∧ RelD K rho H a x ∧ Pst K W sg (RelD K) rho H (slV a lo hi g) Q
theorem slAll : SlR X (rSlV X.K W sg) := by
  intro pins s σ H x v vl vu lo hi sl Q I rx hs pl pu h
  obtain ⟨rho, g, a, w, ra, h⟩ := h
  obtain ⟨r, e, h⟩ := Pst.ofP (show Pst X.K W sg (RelD X.K) rho H (.ofP ((viaL g a).bind fun p => slD p lo hi) g) Q from h)
  cases q : viaL g a with
  | none => rw [q] at e; cases e
  | some p =>
    rw [q] at e
    have e' : slD p lo hi = some r := e
    cases p with
    | tuple ps =>
      cases e'
      obtain ⟨b, vs, rfl, hq, hl⟩ := viaL_tup w ra q
      refine sl_tupA pins s σ H _ v vl vu lo hi sl Q I rx hs pl pu ⟨b, vs, rfl, hq, fun hw => ?_, fun _ => h.newTup w (cut_rel hl lo hi)⟩
      rw [← hl.length] at hw
      rw [cut_all ps hw] at h
      exact h.here w (.dat (.tup hq hl))
    | list ps =>
      cases e'
      obtain ⟨b, vs, rfl, hq, hl⟩ := viaL_lst w ra q
      exact sl_list pins s σ H _ v vl vu lo hi sl Q I rx hs pl pu ⟨b, vs, rfl, hq, h.newLst w (cut_rel hl lo hi)⟩
    | _ => cases e'
end

theorem isEmpty_rel {K : PySem.W.Frag} {rho : List Addr} {H : Hp} {ps : List PyData} {vs : List V} (h : RelPs K rho H ps vs) : ps.isEmpty = vs.isEmpty := by
  cases h <;> rfl
theorem isEmpty_relD {K : PySem.W.Frag} {rho : List Addr} {H : Hp} {ps : List D} {vs : List V} (h : RelDs K rho H ps vs) : ps.isEmpty = vs.isEmpty := by
  cases h <;> rfl
theorem truth_of {K : PySem.W.Frag} {rho : List Addr} {H : Hp} {g : Gh} (w : Wf K rho H g) {d : D} {v : V} {b : Bool} (r : RelD K rho H d v) (e : truV d g = some b) : TruV K v H b := by
  cases r with
  | fn _ => cases e
  | @dat p _ h =>
    have e' : truD p = some b := e
    cases h with
    | non => cases e'; rfl
    | bl _ => cases e'; rfl
    | int _ => cases e'; rfl
    | str x =>
      have e2 : (if x.length ≤ line then some ((x.length : Int) != 0) else none) = some b := e'
      split at e2
      · rename_i hz
        cases e2
        exact ⟨by rw [← line_eq]; exact hz, rfl⟩
      · cases e2
    | tup hq hs => cases e'; exact .inr (.inl ⟨_, hq, by rw [isEmpty_rel hs]⟩)
    | lst hq hs => cases e'; exact .inl ⟨_, sqL_of hq, by rw [isEmpty_rel hs]⟩
  | @ref n a ha =>
    have e' : ((getL g n).map fun xs => !xs.isEmpty) = some b := e
    cases q : getL g n with
    | none => rw [q] at e'; cases e'
    | some xs =>
      rw [q] at e'
      cases e'
      obtain ⟨vs, h1, h2⟩ := w.getL q ha
      exact .inl ⟨vs, .inl (.inl h1), by show (!xs.isEmpty) = _; rw [isEmpty_relD h2]⟩

theorem join_le : ∀ ts : List Str, (Str.join ", " ts).length ≤ piled ts
  | [] => by decide
  | t :: ts => by
    have := join_length_add (t :: ts) (by simp)
    omega
theorem len_lit (s : String) : (Str.ofString s).length = (Str.ofString s).length := rfl
mutual
theorem shown_le : ∀ d : PyData, d.canLay0 = true → d.showable = true → d.shown.length ≤ wgt d
  | .none, _, _ => by rw [PyData.shown_none]; decide
  | .bool b, _, _ => by rw [PyData.shown_bool]; cases b <;> decide
  | .int i, _, h => by
    rw [PyData.shown_int]
    have := int_text_len_1921 (i := i) (by simpa [PyData.showable] using h)
    show _ ≤ 2000
    exact Nat.le_trans this (by decide)
  | .str x, h, _ => by
    rw [PyData.shown_str]
    have h' : PyData.strOk x = true := h
    refine Nat.le_trans (StrLaws.reprText_len x fun c hc => ?_) (Nat.le_refl _)
    have h2 : x.cps.all (· < 0x110000) = true := h'
    rw [← Array.all_toList] at h2
    have h3 := List.all_eq_true.mp h2 c hc
    have h4 : c < 0x110000 := by simpa using h3
    exact Nat.lt_trans h4 (by decide)
  | .list xs, h, h2 => by
    rw [PyData.shown_list, PySem.Str.length_append, PySem.Str.length_append]
    have a := join_le (PyData.shownAll xs)
    have b := shown_les xs h h2
    have c : (("[" : String) : Str).length = 1 := by decide
    have c2 : (("]" : String) : Str).length = 1 := by decide
    show _ ≤ wgts xs + 4
    omega
  | .tuple xs, h, h2 => by
    rw [PyData.shown_tuple, PySem.Str.length_append, PySem.Str.length_append]
    have a := join_le (PyData.shownAll xs)
    have b := shown_les xs h h2
    have c : (("(" : String) : Str).length = 1 := by decide
    have c2 : (((if xs.length == 1 then ",)" else ")" : String)) : Str).length ≤ 2 := by split <;> decide
    show _ ≤ wgts xs + 4
    omega
  | .dict _, h, _ => by cases h
theorem shown_les : ∀ ds : List PyData, PyData.canLayAll0 ds = true → PyData.showableAll ds = true → piled (PyData.shownAll ds) ≤ wgts ds
  | [], _, _ => by simp [PyData.shownAll, piled, wgts]
  | d :: ds, h, h2 => by
    simp only [PyData.canLayAll0, Bool.and_eq_true] at h
    simp only [PyData.showableAll, Bool.and_eq_true] at h2
    rw [PyData.shownAll_cons, piled_cons]
    have a := shown_le d h.1 h2.1
    have b := shown_les ds h.2 h2.2
    show _ ≤ wgt d + 2 + wgts ds
    omega
end
mutual
theorem noDict : ∀ d : PyData, d.canLay0 = true → d.hasDict = false
  | .none, _ => rfl
  | .bool _, _ => rfl
  | .int _, _ => rfl
  | .str _, _ => rfl
  | .list xs, h => noDicts xs h
  | .tuple xs, h => noDicts xs h
  | .dict _, h => by cases h
theorem noDicts : ∀ ds : List PyData, PyData.canLayAll0 ds = true → PyData.hasDictAll ds = false
  | [], _ => rfl
  | d :: ds, h => by
    simp only [PyData.canLayAll0, Bool.and_eq_true] at h
    show (d.hasDict || PyData.hasDictAll ds) = false
    rw [noDict d h.1, noDicts ds h.2]
    rfl
end
section
variable {X : Cx} {pins : List (Addr × Obj)} {s : Shared} {sg : L2.St} {H : Hp} {x : V} {v : Value} {Q : VK} {p : PyData}
theorem call_repr (hg : X.A.guards = some []) (hu : X.A.units + 66 < cLine) (I : Inv X pins sg H s) (r : RelV x v) (h : Dp X.K H x p) (ok : reprOk p = true) (q : Q (.str p.shown) H) :
    wpAny (model X.prog X.w) X.A (call (.builtin "repr") [v]) (EP X pins sg Q) X.xe s := by
  unfold reprOk at ok
  rw [Bool.and_eq_true, Bool.and_eq_true] at ok
  obtain ⟨⟨hs, hw⟩, hz⟩ := ok
  have hlay := SeqAt.canLay_of_shaped hs
  have hdep := SeqAt.depth_of_shaped hs
  have hlen : p.shown.length ≤ sizeLine := by
    rw [← line_eq]
    exact Nat.le_trans (shown_le p hlay hw) (of_decide_eq_true hz)
  have ref : ∀ a, v = .ref a → wpAny (model X.prog X.w) X.A (call (.builtin "repr") [v]) (EP X pins sg Q) X.xe s := by
    rintro a rfl
    obtain ⟨as, hr⟩ := Dp.reads I p x _ h r
    exact repr_of_reads' hr hw (PyData.noDict_hsm (noDict p hlay)) hg (by omega) (fun _ _ e => e) (fun h' u tk k => ⟨.str p.shown, H, I.kept (t' := tk) k, ⟨_, rfl⟩, q⟩) hlen
  cases h with
  | non =>
    cases r
    rw [PyData.shown_none] at q
    exact P.repr_of_none ⟨.str _, H, I.tok _, ⟨_, rfl⟩, q⟩
  | bl b =>
    cases r
    rw [PyData.shown_bool] at q
    refine P.repr_of_bool ⟨.str _, H, I.tok _, ⟨_, rfl⟩, ?_⟩
    cases b <;> exact q
  | int i =>
    obtain ⟨t, rfl⟩ := r
    rw [PyData.shown_int] at q
    exact P.repr_of_int (by simpa [PyData.showable] using hw) ⟨.str _, H, I.tok _, ⟨_, rfl⟩, q⟩
  | str z =>
    obtain ⟨t, rfl⟩ := r
    rw [PyData.shown_str] at q hlen
    exact P.repr_of_str ⟨.str _, H, I.tok _, ⟨_, rfl⟩, q⟩ hlen
  | lst _ _ => exact ref _ r
  | tup _ _ => exact ref _ r
end
end Fw
set_option Elab.async false
set_option linter.all false
set_option maxRecDepth 100000
set_option maxHeartbeats 4000000
namespace Fw
open PySem PySem.Spec PyProof.Rows L2

theorem enumNew {v : Value} {o : Obj} {Hq : Heap → Prop} (B : Begins v o Hq) :
    Meets (Builtin.«enumerate.__new__» ⟨[.type "enumerate", v], []⟩) (fun _ R s => Hq s.heap ∧
      R (.ok (.ret (.ref (s.heap.push o).objs.size))) { s with heap := (s.heap.push o).push { cls := .type "enumerate", data := .fields #[.none, .bool false, .ref s.heap.objs.size, rawInt 0, .none, .none] } }) := by
  refine .of_wp fun prog w A R s given => ?_
  obtain ⟨hp, gs, dr, tk, os⟩ := s
  obtain ⟨start, fin⟩ := given
  have isEnum := sub_enumerate
  have iter : ∀ {A' : Around} {E : Value → Shared → Prop} {Q : Value → Shared → Prop}, Q (.ref hp.objs.size) ⟨hp.push o, gs, dr, tk, os⟩ → wpAny (model prog w) A' (pyIter v) Q E ⟨hp, gs, dr, tk, os⟩ := by
    intro A' E Q q
    exact B.iter prog w _ _ _ _ start q
  wp_walk using iter
  apply wpAny_stack_any
  intro st
  apply wpAny_pure
  split
  case h_1 c _ _ _ _ _ =>
    cases (c == Value.type "enumerate") <;> (wp_walk using iter; exact ⟨_, rfl, fin⟩)
  case h_2 => wp_walk using iter; exact ⟨_, rfl, fin⟩
theorem enumCall {prog : Program} {w : World} {A : Around} {E : Value → Shared → Prop} {s : Shared} {t : Addr} {items : Array Value} {Q : Value → Shared → Prop} (hT : s.heap.IsTuple t items)
    (h : ∀ h', IsEnum h' (s.heap.objs.size + 1) s.heap.objs.size 0 .none → h'.IsTupleIter s.heap.objs.size t 0 → (∀ b u, s.heap.get? b = some u → h'.get? b = some u) → Q (.ref (s.heap.objs.size + 1)) { s with heap := h' }) :
    wpAny (model prog w) A (call (.type "enumerate") [.ref t]) Q E s := by
  have sz : (s.heap.push { cls := .type "tuple_iterator", data := .fields #[.ref t, .int 0 0] }).objs.size = s.heap.objs.size + 1 := Heap.size_push ..
  have at_ := Heap.get?_push_size (s.heap.push { cls := .type "tuple_iterator", data := .fields #[.ref t, .int 0 0] }) (o := { cls := .type "enumerate", data := .fields #[.none, .bool false, .ref s.heap.objs.size, rawInt 0, .none, .none] }) rfl
  rw [sz] at at_
  apply callType_new F.called_enumerate (by decide) (F.typeCall_enumerate_1 _) (F.newCall_enumerate_1 _) (fun obj => F.args_object_init_2 obj _) F.entry_enumerate_new (enumNew (begins_tuple t items))
  refine ⟨hT, ?_⟩
  show _ ∧ _
  rw [sz]
  exact ⟨⟨_, at_, rfl⟩, h _ at_ ⟨_, Heap.get?_push_of_some _ (Heap.get?_push_size _ rfl), rfl, rfl⟩ fun b u z => Heap.get?_push_of_some _ (Heap.get?_push_of_some _ z)⟩

def IteT (K : PySem.W.Frag) (a : Addr) : It :=
  ⟨fun i H => ∃ (xs : List V) (x : V), SqT K H a xs ∧ xs[i]? = some x, fun i H v H' => ∃ T x, v = .ref T ∧ H T = none ∧ H' = upd H T (.tup [.int (i : Nat), x]) ∧ ∀ xs, SqT K H a xs → xs[i]? = some x,
    fun i H => ∃ xs : List V, SqT K H a xs ∧ xs.length = i⟩
theorem turn_enumT {P : Program} {w : World} {K : PySem.W.Frag} {elts : List Expr} {kk : Nat} {tpos : Pos} (a e it : Addr) (its : Array Value) :
    Turn P w K (.Tuple elts kk tpos) (IteT K a) [e, it] e (fun i h => (∃ old, IsEnum h e it ((i : Nat) : Int) old) ∧ h.IsTupleIter it a i ∧ e ≠ it) where
  mem := List.mem_cons_self
  obj := by
    rintro i h ⟨⟨old, he⟩, ⟨o, ho, _, hd⟩, _⟩ b hb
    rcases List.mem_cons.mp hb with rfl | hb
    · exact ⟨_, he, fun v q => nomatch q⟩
    · obtain rfl := List.mem_singleton.mp hb
      exact ⟨o, ho, fun v q => by rw [hd] at q; cases q⟩
  keep := by
    rintro i h h' ⟨⟨old, he⟩, hi, hne⟩ k
    exact ⟨⟨old, k e (by simp) _ he⟩, hi.at fun o q => k it (by simp) o q, hne⟩
  item := by
    rintro X rfl rfl rfl hc i pins s sg H E I hf ⟨⟨old, he⟩, hit, hne⟩ ⟨xs, x, hq, hx⟩
    obtain ⟨us, rv, p, hz⟩ := I.tuple hq
    obtain ⟨u, hu, ru⟩ := rv.get hx
    have hel : e < s.heap.objs.size := Heap.lt_size he
    have hil : it < s.heap.objs.size := by obtain ⟨_, q, _⟩ := hit; exact Heap.lt_size q
    have isT : s.heap.IsTuple a us.toArray := p
    have hai : a ≠ it := by
      rintro rfl
      obtain ⟨o1, q1, c1, d1⟩ := hit
      obtain ⟨o2, q2, c2, n, d2⟩ := isT
      rw [q1] at q2
      cases q2
      rw [d1] at d2
      cases d2
    have hea : e ≠ a := by
      rintro rfl
      obtain ⟨o2, q2, c2, n, d2⟩ := isT
      rw [show s.heap.get? e = _ from he] at q2
      cases q2
      cases d2
    have D : Draws X.prog X.w X.A.in1 it [it, a] us.toArray.size (fun i v => us.toArray[i]? = some v) (fun i h => h.IsTupleIter it a i ∧ h.IsTuple a us.toArray) := Draws.tuple (A := X.A.in1) (I.ok.hd hc) it a hai us.toArray
    have hlt : i < us.toArray.size := by
      have := (List.getElem?_eq_some_iff.mp hu).1
      simpa using this
    refine wpAny_pyNext_enum_itemC D he ⟨hit, isT⟩ hlt hne (by simp [hne, hea]) ?_
    rintro y h' tk hy ho ⟨hit', _⟩ hT _ hk
    have hy' : y = u := by
      have h1 : us[i]? = some y := by simpa using hy
      rw [hu] at h1
      exact (Option.some.inj h1).symm
    subst hy'
    refine ⟨_, rfl, wpAny_letOwnedTupleGo_enum (s := { s with heap := h', toks := tk + 1 }) ho fun h'' he' sb => ?_⟩
    have hT2 : h''.get? s.heap.objs.size = some { cls := .type "tuple", data := .seq #[.int i tk, y] } := (sb.2 _ (Nat.ne_of_gt hel)).trans hT
    have new : ObjOk X.prog X.w (upd H s.heap.objs.size (.tup [.int (i : Nat), x])) h'' s.heap.objs.size (.tup [.int (i : Nat), x]) :=
      ⟨by show 2 ≤ sizeLine; decide, [.int i tk, y], .cons ⟨_, rfl⟩ (.cons ru .nil), ⟨_, hT2, rfl, _, rfl⟩⟩
    have I1 : Inv X pins sg (upd H s.heap.objs.size (.tup [.int (i : Nat), x])) { s with heap := h'', toks := tk + 1 } := by
      refine I.turnedNew (ch := [e, it]) (fun b ob hb q => ?_) hf (Nat.le_refl _) new
      have n1 : b ≠ e := fun z => hb (by simp [z])
      have n2 : b ≠ it := fun z => hb (by simp [z])
      exact (sb.2 b n1).trans (hk b ob n1 n2 q)
    refine ⟨.ref s.heap.objs.size, _, I1, rfl, ⟨_, x, rfl, I.hok.fresh (Nat.le_refl _), rfl, fun ys hy => by rw [I.tuple_inj hy hq]; exact hx⟩, ⟨⟨y, ?_⟩, hit'.at fun o q => (sb.2 it (Ne.symm hne)).trans q, hne⟩, fun b hb => ?_⟩
    · rw [show ((i + 1 : Nat) : Int) = (i : Int) + 1 by omega]
      exact he'
    · have hb' : b < s.heap.objs.size := by
        rcases List.mem_cons.mp hb with rfl | hb
        · exact hel
        · rw [List.mem_singleton.mp hb]; exact hil
      rw [upd_ne (Nat.ne_of_lt hb')]
      exact (hf b hb).1
  done := by
    rintro X rfl rfl rfl hc i pins s sg H E I hf ⟨⟨old, he⟩, hit, hne⟩ ⟨xs, hq, hx⟩
    obtain ⟨us, rv, p, hz⟩ := I.tuple hq
    obtain ⟨f0, f1, f2, f3, f4, f5⟩ := hf it (by simp)
    have isT : s.heap.IsTuple a us.toArray := p
    have hai : a ≠ it := by
      rintro rfl
      obtain ⟨o1, q1, c1, d1⟩ := hit
      obtain ⟨o2, q2, c2, n, d2⟩ := isT
      rw [q1] at q2
      cases q2
      rw [d1] at d2
      cases d2
    have hl : us.toArray.size = i := by simpa using rv.length.symm.trans hx
    have D : Draws X.prog X.w X.A.in1 it [it, a] us.toArray.size (fun i v => us.toArray[i]? = some v) (fun i h => h.IsTupleIter it a i ∧ h.IsTuple a us.toArray) := Draws.tuple (A := X.A.in1) (I.ok.hd hc) it a hai us.toArray
    exact wpAny_pyNext_enum_endD D he ⟨by rw [hl]; exact hit, isT⟩ fun h' eb => ⟨rfl, I.turned (t' := s.toks) (fun b o hb q => eb b o hb q) f0 f1 f3 f4 f5⟩
  self := fun A i s Q E st h => by
    obtain ⟨⟨_, he⟩, _⟩ := st
    exact wpAny_pyIter_enum he h
end Fw
set_option Elab.async false
set_option linter.all false
set_option maxRecDepth 100000
set_option maxHeartbeats 4000000
namespace Fw
open PySem PySem.Spec PyProof.Rows L2

inductive RelI (K : PySem.W.Frag) (rho : List Addr) (H : Hp) : Itm → V → Prop
  | one {d : D} {v : V} : RelD K rho H d v → RelI K rho H (.one d) v
  | two {t : Addr} {a b : D} {u v : V} : SqT K H t [u, v] → RelD K rho H a u → RelD K rho H b v → RelI K rho H (.two a b) (.ref t)

def Yields (K : PySem.W.Frag) (rho : List Addr) (H : Hp) (its : List Itm × Wt) (J : It) : Prop :=
  ∀ (rho' : List Addr) (H' : Hp) (g : Gh), Ext rho H rho' H' → Wf K rho' H' g → stillL its.2 g → ∀ i : Nat,
    (∀ it, its.1[i]? = some it → J.go i H' ∧ ∀ x H'', J.yld i H' x H'' → Ext rho' H' rho' H'' ∧ Wf K rho' H'' g ∧ RelI K rho' H'' it x) ∧ (i = its.1.length → J.stop i H')
def tI (K : PySem.W.Frag) (W : WX) (f : Fr → Gh → Rs (List Itm × Wt)) : TI := fun sg H R =>
  ∃ rho fr g, fr.length = sg.length ∧ RelF K rho H fr sg ∧ Wf K rho H g ∧ Pst K W sg (Yields K) rho H (f fr g) R


section
variable {X : Cx} {tg : Expr}
def iAny (K : PySem.W.Frag) (tl : TE) : TI := fun sg H R => tl sg H fun x H1 =>
  (∃ a xs, x = .ref a ∧ SqL K H1 a xs ∧ R (Itl K a) H1) ∨ (∃ a xs, x = .ref a ∧ SqT K H1 a xs ∧ R (Itt K a) H1) ∨ ∃ z, x = .str z ∧ R (Its z) H1
theorem pi_any {l : Expr} {tl : TE} (hl : PE X l tl) : PI X tg l (iAny X.K tl) where
  run := by
    intro pins s sg H R I h
    apply thn (hl.run pins s sg H _ I h)
    rintro v s1 ⟨x, H1, I1, r1, q⟩
    rcases q with ⟨a, xs, rfl, hq, q⟩ | ⟨a, xs, rfl, hq, q⟩ | ⟨z, rfl, q⟩
    · cases r1
      obtain ⟨its, rv, p, hz⟩ := I1.list hq
      exact wpAny_pyIter_list p.isList (pi_one (tk := s1.toks) I1 _ (turn_list a _) ⟨_, Heap.get?_push_size _ rfl, rfl, rfl⟩ q)
    · cases r1
      obtain ⟨its, rv, p, hz⟩ := I1.tuple hq
      exact wpAny_pyIter_tuple (show s1.heap.IsTuple a its.toArray from p) (pi_one (tk := s1.toks) I1 _ (turn_tuple a _) ⟨_, Heap.get?_push_size _ rfl, rfl, rfl⟩ q)
    · obtain ⟨t, rfl⟩ := r1
      cases wide : z.cps.all (· < 128) with
      | false => exact wpAny_pyIter_wide wide (pi_one (tk := s1.toks) I1 _ (turn_str _ z t "str_iterator" (.inr rfl)) ⟨_, Heap.get?_push_size _ rfl, rfl, rfl⟩ q)
      | true => exact wpAny_pyIter_ascii wide (pi_one (tk := s1.toks) I1 _ (turn_str _ z t "str_ascii_iterator" (.inl rfl)) ⟨_, Heap.get?_push_size _ rfl, rfl, rfl⟩ q)
def iEnumA (K : PySem.W.Frag) (ta : TA) : TI := fun sg H R => ta sg H fun vs H1 => ∃ x, vs = [x] ∧
  ((∃ a xs, x = .ref a ∧ SqL K H1 a xs ∧ R (Ite K a) H1) ∨ (∃ a xs, x = .ref a ∧ SqT K H1 a xs ∧ R (IteT K a) H1))
theorem pi_enumA {e : Expr} {ta : TA} {p pos tpos : Pos} {elts : List Expr} {kk : Nat} (hg : Gl X "enumerate") (hm : X.mg "enumerate" = none) (ha : PA X [e] ta) (hs : starEach [e] X.env = [(false, eval e X.env)]) :
    PI X (.Tuple elts kk tpos) (.Call (.Name "enumerate" p) [e] [] pos) (iEnumA X.K ta) where
  run := by
    intro pins s sg H R I h
    apply Call_ (ld_blt I hg hm boot_enumerate (PyProof.Rows.callWith_type1 (thn (ha.run pos pins s sg H _ I h) _) hs rfl))
    rintro us s1 ⟨vs, H1, I1, r1, x, rfl, q⟩
    cases r1 with
    | cons r rr =>
      cases rr
      rcases q with ⟨a, xs, rfl, hq, q⟩ | ⟨a, xs, rfl, hq, q⟩
      · cases r
        obtain ⟨its, rv, p', hz⟩ := I1.list hq
        apply call_enumerate_list p'.isList
        intro h' at_ iter _ keep
        apply wpAny_pyIter_enum at_
        refine ⟨s1.heap.objs.size + 1, [s1.heap.objs.size + 1, s1.heap.objs.size], _, _, H1, rfl, I1.kept (t' := s1.toks) keep, turn_enum a _ _, ⟨⟨.none, at_⟩, iter, Nat.succ_ne_self _⟩, fun b hb => ?_, q⟩
        have young : s1.heap.objs.size ≤ b := by
          rcases List.mem_cons.mp hb with rfl | hb
          · exact Nat.le_succ _
          · rw [List.mem_singleton.mp hb]; exact Nat.le_refl _
        exact I1.fpOk young (I1.hok.fresh young)
      · cases r
        obtain ⟨its, rv, p', hz⟩ := I1.tuple hq
        apply enumCall (show s1.heap.IsTuple a its.toArray from p')
        intro h' at_ iter keep
        apply wpAny_pyIter_enum at_
        refine ⟨s1.heap.objs.size + 1, [s1.heap.objs.size + 1, s1.heap.objs.size], _, _, H1, rfl, I1.kept (t' := s1.toks) keep, turn_enumT a _ _ #[], ⟨⟨.none, at_⟩, iter, Nat.succ_ne_self _⟩, fun b hb => ?_, q⟩
        have young : s1.heap.objs.size ≤ b := by
          rcases List.mem_cons.mp hb with rfl | hb
          · exact Nat.le_succ _
          · rw [List.mem_singleton.mp hb]; exact Nat.le_refl _
        exact I1.fpOk young (I1.hok.fresh young)
end

section
variable {K : PySem.W.Frag} {rho : List Addr} {H : Hp}
theorem map_get {α β : Type} {f : α → β} {xs : List α} {i : Nat} {y : β} (h : (xs.map f)[i]? = some y) : ∃ x, xs[i]? = some x ∧ y = f x := by
  rw [List.getElem?_map] at h
  cases e : xs[i]? with
  | none => rw [e] at h; cases h
  | some x => rw [e] at h; exact ⟨x, rfl, (Option.some.inj h).symm⟩
theorem yields_lst (m : Mut1 K rho H) {a : Addr} {vs : List V} {ps : List PyData} (hq : Rd H a (.lst vs) ∧ a ∉ rho ∨ KL K a vs) (hs : RelPs K rho H ps vs) : Yields K rho H (((ps.map .dat).map .one), (none : Wt)) (Itl K a) := by
  intro rho' H' g e w _ i
  have hq' := lst_ext e hq
  have hs' := hs.ext m e
  refine ⟨fun it hi => ?_, fun hi => ⟨vs, sqL_of hq', ?_⟩⟩
  · obtain ⟨d, hd, rfl⟩ := map_get hi
    obtain ⟨p, hp, rfl⟩ := map_get hd
    obtain ⟨v, hv, hr⟩ := hs'.get hp
    refine ⟨⟨vs, v, sqL_of hq', hv⟩, ?_⟩
    rintro x H'' ⟨rfl, hx⟩
    have hx' := hx vs (sqL_of hq')
    rw [hv] at hx'
    cases hx'
    exact ⟨Ext.refl _ _, w, .one (.dat hr)⟩
  · rw [hi]; simp [hs.length]
theorem yields_tup (m : Mut1 K rho H) {a : Addr} {vs : List V} {ps : List PyData} (hq : SqT K H a vs) (hs : RelPs K rho H ps vs) : Yields K rho H (((ps.map .dat).map .one), (none : Wt)) (Itt K a) := by
  intro rho' H' g e w _ i
  have hq' := SqT.ext m e hq
  have hs' := hs.ext m e
  refine ⟨fun it hi => ?_, fun hi => ⟨vs, hq', ?_⟩⟩
  · obtain ⟨d, hd, rfl⟩ := map_get hi
    obtain ⟨p, hp, rfl⟩ := map_get hd
    obtain ⟨v, hv, hr⟩ := hs'.get hp
    refine ⟨⟨vs, v, hq', hv⟩, ?_⟩
    rintro x H'' ⟨rfl, hx⟩
    have hx' := hx vs hq'
    rw [hv] at hx'
    cases hx'
    exact ⟨Ext.refl _ _, w, .one (.dat hr)⟩
  · rw [hi]; simp [hs.length]
theorem yields_str {z : Str} : Yields K rho H (((z.cps.toList.map fun c => D.dat (.str ⟨#[c]⟩)).map .one), (none : Wt)) (Its z) := by
  intro rho' H' g e w _ i
  refine ⟨fun it hi => ?_, fun hi => ?_⟩
  · obtain ⟨d, hd, rfl⟩ := map_get hi
    obtain ⟨c, hc, rfl⟩ := map_get hd
    have hlt : i < z.cps.toList.length := (List.getElem?_eq_some_iff.mp hc).1
    refine ⟨by show i < z.cps.size; simpa using hlt, ?_⟩
    rintro x H'' ⟨rfl, c', hc', rfl⟩
    have h2 : z.cps[i]? = some c := by simpa using hc
    rw [h2] at hc'
    cases hc'
    exact ⟨Ext.refl _ _, w, .one (.dat (.str _))⟩
  · show z.cps.size ≤ i
    rw [hi]; simp
theorem yields_rng {lo : Int} {n : Nat} : Yields K rho H (((rngI lo n).map .one), (none : Wt)) (Itr lo n) := by
  intro rho' H' g e w _ i
  refine ⟨fun it hi => ?_, fun hi => ?_⟩
  · obtain ⟨d, hd, rfl⟩ := map_get hi
    obtain ⟨k, hk, rfl⟩ := map_get (show ((List.range n).map fun k => D.dat (.int (lo + (k : Nat))))[i]? = some d from hd)
    have hlt : i < (List.range n).length := (List.getElem?_eq_some_iff.mp hk).1
    have hki : k = i := by
      have := (List.getElem?_eq_some_iff.mp hk).2
      simpa using this.symm
    subst hki
    refine ⟨by show k < n; simpa using hlt, ?_⟩
    rintro x H'' ⟨rfl, rfl⟩
    exact ⟨Ext.refl _ _, w, .one (.dat (.int _))⟩
  · show n ≤ i
    rw [hi]; simp [rngI]
theorem enum_get {ps : List D} {i : Nat} {it : Itm} (h : (ps.zipIdx.map fun p => Itm.two (.dat (.int (p.2 : Nat))) p.1)[i]? = some it) : ∃ d, ps[i]? = some d ∧ it = .two (.dat (.int (i : Nat))) d := by
  obtain ⟨⟨d, k⟩, hk, rfl⟩ := map_get h
  rw [List.getElem?_zipIdx] at hk
  cases e : ps[i]? with
  | none => rw [e] at hk; cases hk
  | some d' =>
    rw [e] at hk
    have h2 : (d', 0 + i) = (d, k) := Option.some.inj hk
    cases h2
    exact ⟨d, rfl, by simp⟩
theorem yields_enumT (m : Mut1 K rho H) {a : Addr} {vs : List V} {ps : List PyData} (hq : SqT K H a vs) (hs : RelPs K rho H ps vs) : Yields K rho H (((ps.map .dat).zipIdx.map fun p => Itm.two (.dat (.int (p.2 : Nat))) p.1), (none : Wt)) (IteT K a) := by
  intro rho' H' g e w _ i
  have hq' := SqT.ext m e hq
  have hs' := hs.ext m e
  refine ⟨fun it hi => ?_, fun hi => ⟨vs, hq', ?_⟩⟩
  · obtain ⟨d, hd, rfl⟩ := enum_get hi
    obtain ⟨p, hp, rfl⟩ := map_get hd
    obtain ⟨v, hv, hr⟩ := hs'.get hp
    refine ⟨⟨vs, v, hq', hv⟩, ?_⟩
    rintro x H'' ⟨T, y, rfl, new, rfl, hx⟩
    have hx' := hx vs hq'
    rw [hv] at hx'
    cases hx'
    obtain ⟨e2, w2⟩ := w.alloc new (.tup [.int (i : Nat), v])
    exact ⟨e2, w2, .two (.inl (.inl upd_same)) (.dat (.int _)) (.dat (hr.ext w.mut e2))⟩
  · rw [hi]; simp [hs.length]
theorem yields_enumL (m : Mut1 K rho H) {a : Addr} {vs : List V} {ps : List PyData} (hq : Rd H a (.lst vs) ∧ a ∉ rho ∨ KL K a vs) (hs : RelPs K rho H ps vs) : Yields K rho H (((ps.map .dat).zipIdx.map fun p => Itm.two (.dat (.int (p.2 : Nat))) p.1), (none : Wt)) (Ite K a) := by
  intro rho' H' g e w _ i
  have hq' := lst_ext e hq
  have hs' := hs.ext m e
  refine ⟨fun it hi => ?_, fun hi => ⟨vs, sqL_of hq', ?_⟩⟩
  · obtain ⟨d, hd, rfl⟩ := enum_get hi
    obtain ⟨p, hp, rfl⟩ := map_get hd
    obtain ⟨v, hv, hr⟩ := hs'.get hp
    refine ⟨⟨vs, v, sqL_of hq', hv⟩, ?_⟩
    rintro x H'' ⟨T, y, rfl, new, rfl, hx⟩
    have hx' := hx vs (sqL_of hq')
    rw [hv] at hx'
    cases hx'
    obtain ⟨e2, w2⟩ := w.alloc new (.tup [.int (i : Nat), v])
    exact ⟨e2, w2, .two (.inl (.inl upd_same)) (.dat (.int _)) (.dat (hr.ext w.mut e2))⟩
  · rw [hi]; simp [hs.length]
theorem zip_get {ps qs : List D} {i : Nat} {it : Itm} (h : ((ps.zip qs).map fun p => Itm.two p.1 p.2)[i]? = some it) : ∃ a b, ps[i]? = some a ∧ qs[i]? = some b ∧ it = .two a b := by
  obtain ⟨⟨a, b⟩, hk, rfl⟩ := map_get h
  obtain ⟨h1, h2⟩ := List.getElem?_zip_eq_some.mp hk
  exact ⟨a, b, h1, h2, rfl⟩
theorem yields_zipT (m : Mut1 K rho H) {a b : Addr} {vs us : List V} {ps qs : List PyData} (hq : SqT K H a vs) (hs : RelPs K rho H ps vs) (hq2 : SqT K H b us) (hs2 : RelPs K rho H qs us) :
    Yields K rho H ((((ps.map D.dat).zip (qs.map D.dat)).map fun p => Itm.two p.1 p.2), (none : Wt)) (RZ.ItzT K a b) := by
  intro rho' H' g e w _ i
  have hq' := SqT.ext m e hq
  have hs' := hs.ext m e
  have hq2' := SqT.ext m e hq2
  have hs2' := hs2.ext m e
  refine ⟨fun it hi => ?_, fun hi => ⟨vs, us, hq', hq2', ?_⟩⟩
  · obtain ⟨d1, d2, hd1, hd2, rfl⟩ := zip_get hi
    obtain ⟨p, hp, rfl⟩ := map_get hd1
    obtain ⟨q, hqq, rfl⟩ := map_get hd2
    obtain ⟨v, hv, hr⟩ := hs'.get hp
    obtain ⟨u, hu, hr2⟩ := hs2'.get hqq
    refine ⟨⟨vs, us, v, u, hq', hq2', hv, hu⟩, ?_⟩
    rintro x H'' ⟨T, y1, y2, rfl, new, rfl, hx, hx2⟩
    have h1 := hx vs hq'
    have h2 := hx2 us hq2'
    rw [hv] at h1
    rw [hu] at h2
    cases h1
    cases h2
    obtain ⟨e2, w2⟩ := w.alloc new (.tup [v, u])
    exact ⟨e2, w2, .two (.inl (.inl upd_same)) (.dat (hr.ext w.mut e2)) (.dat (hr2.ext w.mut e2))⟩
  · rw [hi]
    have l1 := hs.length
    have l2 := hs2.length
    simp only [List.length_map, List.length_zip]
    omega
theorem yields_zipL (m : Mut1 K rho H) {a b : Addr} {vs us : List V} {ps qs : List PyData} (hq : Rd H a (.lst vs) ∧ a ∉ rho ∨ KL K a vs) (hs : RelPs K rho H ps vs) (hq2 : Rd H b (.lst us) ∧ b ∉ rho ∨ KL K b us) (hs2 : RelPs K rho H qs us) :
    Yields K rho H ((((ps.map D.dat).zip (qs.map D.dat)).map fun p => Itm.two p.1 p.2), (none : Wt)) (Itz K a b) := by
  intro rho' H' g e w _ i
  have hq' := sqL_of (lst_ext e hq)
  have hs' := hs.ext m e
  have hq2' := sqL_of (lst_ext e hq2)
  have hs2' := hs2.ext m e
  refine ⟨fun it hi => ?_, fun hi => ⟨vs, us, hq', hq2', ?_⟩⟩
  · obtain ⟨d1, d2, hd1, hd2, rfl⟩ := zip_get hi
    obtain ⟨p, hp, rfl⟩ := map_get hd1
    obtain ⟨q, hqq, rfl⟩ := map_get hd2
    obtain ⟨v, hv, hr⟩ := hs'.get hp
    obtain ⟨u, hu, hr2⟩ := hs2'.get hqq
    refine ⟨⟨vs, us, v, u, hq', hq2', hv, hu⟩, ?_⟩
    rintro x H'' ⟨T, y1, y2, rfl, new, rfl, hx, hx2⟩
    have h1 := hx vs hq'
    have h2 := hx2 us hq2'
    rw [hv] at h1
    rw [hu] at h2
    cases h1
    cases h2
    obtain ⟨e2, w2⟩ := w.alloc new (.tup [v, u])
    exact ⟨e2, w2, .two (.inl (.inl upd_same)) (.dat (hr.ext w.mut e2)) (.dat (hr2.ext w.mut e2))⟩
  · rw [hi]
    have l1 := hs.length
    have l2 := hs2.length
    simp only [List.length_map, List.length_zip]
    omega
end

def Bi.val : Bi → Value
  | .len => .builtin "len" | .int => .type "int" | .max2 => .builtin "max" | .min2 => .builtin "min" | .tuple => .type "tuple" | .list => .type "list"
  | .all => .builtin "all" | .any => .builtin "any" | .sum => .builtin "sum" | .repr => .builtin "repr" | .abs => .builtin "abs" | .bool => .type "bool" | .isi _ => .builtin "isinstance"
def rBi (K : PySem.W.Frag) (W : WX) (sg : L2.St) (b : Bi) : List V → Hp → VK → Prop := fun xs H Q =>
  ∃ rho g ds, Wf K rho H g ∧ RelDs K rho H ds xs ∧ Pst K W sg (RelD K) rho H (biV b ds g) Q
theorem viaLs1 {g : Gh} {ds : List D} {p : PyData} (h : viaLs g ds = some [p]) : ∃ d, ds = [d] ∧ viaL g d = some p := by
  cases ds with
  | nil => cases h
  | cons d ds =>
    have h' : ((viaL g d).bind fun p => (viaLs g ds).map (p :: ·)) = some [p] := h
    cases e : viaL g d with
    | none => rw [e] at h'; cases h'
    | some q =>
      rw [e] at h'
      have h2 : (viaLs g ds).map (q :: ·) = some [p] := h'
      cases ds with
      | nil => cases h2; exact ⟨d, rfl, e⟩
      | cons d2 ds =>
        cases e2 : viaLs g (d2 :: ds) with
        | none => rw [e2] at h2; cases h2
        | some qs =>
          rw [e2] at h2
          cases h2
          have h3 : ((viaL g d2).bind fun p => (viaLs g ds).map (p :: ·)) = some [] := e2
          cases e3 : viaL g d2 with
          | none => rw [e3] at h3; cases h3
          | some q3 =>
            rw [e3] at h3
            have h4 : (viaLs g ds).map (q3 :: ·) = some [] := h3
            cases e4 : viaLs g ds <;> rw [e4] at h4 <;> cases h4
theorem viaLs2 {g : Gh} {ds : List D} {p q : PyData} (h : viaLs g ds = some [p, q]) : ∃ d e, ds = [d, e] ∧ viaL g d = some p ∧ viaL g e = some q := by
  cases ds with
  | nil => cases h
  | cons d ds =>
    have h' : ((viaL g d).bind fun p => (viaLs g ds).map (p :: ·)) = some [p, q] := h
    cases e : viaL g d with
    | none => rw [e] at h'; cases h'
    | some q' =>
      rw [e] at h'
      have h2 : (viaLs g ds).map (q' :: ·) = some [p, q] := h'
      cases e2 : viaLs g ds with
      | none => rw [e2] at h2; cases h2
      | some qs =>
        rw [e2] at h2
        cases h2
        obtain ⟨d2, rfl, h3⟩ := viaLs1 e2
        exact ⟨d, d2, rfl, e, h3⟩
theorem bools_of {K : PySem.W.Frag} {rho : List Addr} {H : Hp} : ∀ {ps : List PyData} {vs : List V} {bs : List Bool}, RelPs K rho H ps vs → allB ps = some bs → vs = bs.map V.bl
  | _, _, _, .nil, e => by cases e; rfl
  | _, _, _, .cons (ps := ps) h hs, e => by
    cases h with
    | bl b =>
      have e' : (allB ps).map (b :: ·) = some _ := e
      cases q : allB ps with
      | none => rw [q] at e'; cases e'
      | some cs => rw [q] at e'; cases e'; rw [bools_of hs q]; rfl
    | _ => cases e
theorem ints_of {K : PySem.W.Frag} {rho : List Addr} {H : Hp} : ∀ {ps : List PyData} {vs : List V} {bs : List Int}, RelPs K rho H ps vs → allI ps = some bs → vs = bs.map V.int
  | _, _, _, .nil, e => by cases e; rfl
  | _, _, _, .cons (ps := ps) h hs, e => by
    cases h with
    | int b =>
      have e' : (allI ps).map (b :: ·) = some _ := e
      cases q : allI ps with
      | none => rw [q] at e'; cases e'
      | some cs => rw [q] at e'; cases e'; rw [ints_of hs q]; rfl
    | _ => cases e
section
variable {X : Cx} {W : WX} {sg : L2.St}
theorem biCall (hc : X.calm = true) (hg : X.A.guards = some []) (hu : X.A.units + 66 < cLine) (b : Bi) (nb : ∀ t, b ≠ .isi t) : CallR X b.val (rBi X.K W sg b) := by
  intro pins s σ H xs us Q I r h
  obtain ⟨rho, g, ds, w, rs, h⟩ := h
  obtain ⟨res, e, h⟩ := Pst.ofP (show Pst X.K W sg (RelD X.K) rho H (.ofP ((viaLs g ds).bind fun ps => biD b ps) g) Q from h)
  cases q : viaLs g ds with
  | none => rw [q] at e; cases e
  | some ps =>
    rw [q] at e
    replace e : biD b ps = some res := e
    have one : ∀ p, ps = [p] → ∃ x, xs = [x] ∧ Dp X.K H x p ∧ (∀ qs, p = .list qs → ∃ a vs, x = .ref a ∧ SqL X.K H a vs ∧ RelPs X.K rho H qs vs) ∧ (∀ qs, p = .tuple qs → ∃ a vs, x = .ref a ∧ SqT X.K H a vs ∧ RelPs X.K rho H qs vs) := by
      rintro p rfl
      obtain ⟨d, rfl, hd⟩ := viaLs1 q
      cases rs with
      | cons r1 rr =>
        cases rr
        exact ⟨_, rfl, viaL_dp w r1 hd, fun qs z => viaL_lst w r1 (z ▸ hd), fun qs z => viaL_tup w r1 (z ▸ hd)⟩
    have two : ∀ p p2, ps = [p, p2] → ∃ x y, xs = [x, y] ∧ Dp X.K H x p ∧ Dp X.K H y p2 := by
      rintro p p2 rfl
      obtain ⟨d, d2, rfl, hd, hd2⟩ := viaLs2 q
      cases rs with
      | cons r1 rr => cases rr with
        | cons r2 rr =>
          cases rr
          exact ⟨_, _, rfl, viaL_dp w r1 hd, viaL_dp w r2 hd2⟩
    have fin : ∀ {p : PyData} {v : V}, res = p → RelP X.K rho H p v → Q v H := fun er hr => by subst er; exact h.here w (.dat hr)
    unfold biD at e
    split at e
    · -- len of a tuple
      obtain ⟨x, rfl, _, _, ht⟩ := one _ rfl
      obtain ⟨a, vs, rfl, hq, hl⟩ := ht _ rfl
      cases e
      exact call_len pins s σ H _ us Q I r ⟨_, vs.length, rfl, .inr ⟨vs, hq, rfl⟩, fin rfl (by rw [hl.length]; exact .int _)⟩
    · obtain ⟨x, rfl, _, hl, _⟩ := one _ rfl
      obtain ⟨a, vs, rfl, hq, hl⟩ := hl _ rfl
      cases e
      exact call_len pins s σ H _ us Q I r ⟨_, vs.length, rfl, .inl ⟨vs, hq, rfl⟩, fin rfl (by rw [hl.length]; exact .int _)⟩
    · obtain ⟨x, rfl, hd, _, _⟩ := one _ rfl
      cases hd
      split at e
      · rename_i hz
        cases e
        exact call_len pins s σ H _ us Q I r ⟨_, _, rfl, ⟨by rw [← line_eq]; exact hz, rfl⟩, fin rfl (.int _)⟩
      · cases e
    · obtain ⟨x, rfl, hd, _, _⟩ := one _ rfl
      cases hd; cases e
      exact call_int1 pins s σ H _ us Q I r (.inl ⟨_, rfl, fin rfl (.int _)⟩)
    · obtain ⟨x, rfl, hd, _, _⟩ := one _ rfl
      cases hd; cases e
      exact call_int1 pins s σ H _ us Q I r (.inr ⟨_, rfl, fin rfl (.int _)⟩)
    · obtain ⟨x, rfl, hd, _, _⟩ := one _ rfl
      cases hd; cases e
      exact call_bool1 pins s σ H _ us Q I r (.inl ⟨_, rfl, fin rfl (.bl _)⟩)
    · obtain ⟨x, rfl, hd, _, _⟩ := one _ rfl
      cases hd; cases e
      exact call_bool1 pins s σ H _ us Q I r (.inr ⟨_, rfl, fin rfl (.bl _)⟩)
    · obtain ⟨x, y, rfl, hd, hd2⟩ := two _ _ rfl
      cases hd; cases hd2; cases e
      exact call_max2 hc pins s σ H _ us Q I r ⟨_, _, rfl, fin rfl (.int _)⟩
    · obtain ⟨x, y, rfl, hd, hd2⟩ := two _ _ rfl
      cases hd; cases hd2; cases e
      exact call_min2 hc pins s σ H _ us Q I r ⟨_, _, rfl, fin rfl (.int _)⟩
    · obtain ⟨x, rfl, hd, _, _⟩ := one _ rfl
      cases hd; cases e
      exact call_abs pins s σ H _ us Q I r ⟨_, rfl, fin rfl (.int _)⟩
    · obtain ⟨x, rfl, _, hl, _⟩ := one _ rfl
      obtain ⟨a, vs, rfl, hq, hl⟩ := hl _ rfl
      cases e
      exact call_tuple_of pins s σ H _ us Q I r ⟨a, vs, rfl, .inl ⟨hq, h.newTup w hl⟩⟩
    · obtain ⟨x, rfl, _, _, ht⟩ := one _ rfl
      obtain ⟨a, vs, rfl, hq, hl⟩ := ht _ rfl
      cases e
      exact call_tuple_of pins s σ H _ us Q I r ⟨a, vs, rfl, .inr ⟨hq, fin rfl (.tup hq hl)⟩⟩
    · obtain ⟨x, rfl, _, hl, _⟩ := one _ rfl
      obtain ⟨a, vs, rfl, hq, hl⟩ := hl _ rfl
      cases e
      exact call_list_of pins s σ H _ us Q I r ⟨a, vs, rfl, .inl hq, h.newLst w hl⟩
    · obtain ⟨x, rfl, _, _, ht⟩ := one _ rfl
      obtain ⟨a, vs, rfl, hq, hl⟩ := ht _ rfl
      cases e
      exact call_list_of pins s σ H _ us Q I r ⟨a, vs, rfl, .inr hq, h.newLst w hl⟩
    · rename_i qs
      obtain ⟨x, rfl, _, hl, _⟩ := one _ rfl
      obtain ⟨a, vs, rfl, hq, hl⟩ := hl _ rfl
      cases q2 : allB qs with
      | none => rw [q2] at e; cases e
      | some bs =>
        rw [q2] at e; cases e
        have e2 := bools_of hl q2
        subst e2
        exact cr_all hc pins s σ H _ us Q I r ⟨a, bs, rfl, hq, fin rfl (.bl _)⟩
    · rename_i qs
      obtain ⟨x, rfl, _, hl, _⟩ := one _ rfl
      obtain ⟨a, vs, rfl, hq, hl⟩ := hl _ rfl
      cases q2 : allB qs with
      | none => rw [q2] at e; cases e
      | some bs =>
        rw [q2] at e; cases e
        have e2 := bools_of hl q2
        subst e2
        exact cr_any hc pins s σ H _ us Q I r ⟨a, bs, rfl, hq, fin rfl (.bl _)⟩
    · rename_i qs
      obtain ⟨x, rfl, _, hl, _⟩ := one _ rfl
      obtain ⟨a, vs, rfl, hq, hl⟩ := hl _ rfl
      cases q2 : allI qs with
      | none => rw [q2] at e; cases e
      | some bs =>
        rw [q2] at e; cases e
        have e2 := ints_of hl q2
        subst e2
        exact cr_sum hc pins s σ H _ us Q I r ⟨a, bs, rfl, hq, fin rfl (.int _)⟩
    · obtain ⟨x, rfl, hd, _, _⟩ := one _ rfl
      split at e
      · rename_i ok
        cases e
        cases r with
        | cons rx rr =>
          cases rr
          exact call_repr hg hu I rx hd ok (fin rfl (.str _))
      · cases e
    · exact absurd rfl (nb _)
    · cases e
end
end Fw
set_option Elab.async false
set_option linter.all false
set_option maxRecDepth 100000
set_option maxHeartbeats 4000000
namespace Fw
open PySem PySem.Spec PyProof.Rows L2
section
variable {X : Cx} {W : WX} {sg : L2.St}
theorem extendA {pins : List (Addr × Obj)} {s : Shared} {tau : L2.St} {H : Hp} {Q : VK} {l b : Addr} {xs zs : List V} {u : Value} (I : Inv X pins tau H s) (hl : H l = some (.lst xs)) (hb : Rd H b (.lst zs) ∨ KL X.K b zs) (hu : u = .ref b)
    (hz : xs.length + zs.length ≤ sizeLine) (q : Q .non (upd H l (.lst (xs ++ zs)))) : wpAny (model X.prog X.w) X.A (call (.builtin "list.extend") [.ref l, u]) (EP X pins tau Q) X.xe s := by
  subst hu
  obtain ⟨_, its, n, r, len1, e1⟩ := I.lstM hl
  have other : ∃ (its2 : List Value) (n2 : Nat), Vals zs its2 ∧ s.heap.get? b = some { cls := .type "list", data := .seq its2.toArray n2 } := by
    rcases hb with (hb | ⟨o, hb⟩) | ⟨arr, n2, hk, _, r2⟩
    · obtain ⟨_, its2, n2, r2, _, e2⟩ := I.lstM hb
      exact ⟨its2, n2, r2, e2⟩
    · obtain ⟨_, _, its2, n2, r2, e2⟩ := (show ObjOk X.prog X.w H s.heap b (.frz o (.lst zs)) from I.hok b _ hb)
      exact ⟨its2, n2, r2, e2⟩
    · exact ⟨arr.toList, n2, r2, by simpa using I.kIn b _ hk⟩
  obtain ⟨its2, n2, r2, e2⟩ := other
  have len2 := r2.length
  have fits : its.toArray.size + its2.toArray.size ≤ sizeLine := by
    simp only [List.size_toArray]
    omega
  have short : ¬ (!its.toArray.isEmpty && Builtin.List.listTooLong (its.toArray.size + its2.toArray.size)) = true := by
    rw [notLongL fits]
    simp
  have s1 : its.toArray.size ≤ sizeLine := by omega
  refine call_meets (self := .ref l) F.slot_list_extend ⟨_, e1, rfl⟩ F.entry_list_extend (F.args_list_extend_2 _ _) (AutoSeq1.list_extend_list_list_0 l its.toArray n b its2.toArray n2 short s1 (by omega)) ?_
  refine ⟨e1, e2, .non, _, I.lset (its' := its ++ its2) hl e1 (by simp) (r.append r2) ?_, rfl, q⟩
  simpa using hz
def Mt.id : Mt → String
  | .append => "list.append" | .pop => "list.pop" | .popAt => "list.pop" | .extend => "list.extend" | .index => "list.index"
def rMt (K : PySem.W.Frag) (W : WX) (sg : L2.St) (m : Mt) : V → List V → Hp → VK → Prop := fun x xs H Q =>
  ∃ rho g o ds, Wf K rho H g ∧ RelD K rho H o x ∧ RelDs K rho H ds xs ∧ Pst K W sg (RelD K) rho H (mtd m o ds g) Q
theorem RelDs.append {K : PySem.W.Frag} {rho : List Addr} {H : Hp} {ps qs : List D} {vs us : List V} : RelDs K rho H ps vs → RelDs K rho H qs us → RelDs K rho H (ps ++ qs) (vs ++ us)
  | .nil, h => h
  | .cons a b, h => .cons a (RelDs.append b h)
theorem RelDs.take {K : PySem.W.Frag} {rho : List Addr} {H : Hp} {ps : List D} {vs : List V} : RelDs K rho H ps vs → ∀ n : Nat, RelDs K rho H (ps.take n) (vs.take n)
  | _, 0 => .nil
  | .nil, _ + 1 => .nil
  | .cons a b, n + 1 => .cons a (RelDs.take b n)
theorem RelDs.erase {K : PySem.W.Frag} {rho : List Addr} {H : Hp} {ps : List D} {vs : List V} : RelDs K rho H ps vs → ∀ n : Nat, RelDs K rho H (ps.eraseIdx n) (vs.eraseIdx n)
  | .nil, _ => .nil
  | .cons a b, 0 => b
  | .cons a b, n + 1 => .cons a (RelDs.erase b n)
theorem RelDs.dropLast {K : PySem.W.Frag} {rho : List Addr} {H : Hp} {ps : List D} {vs : List V} (h : RelDs K rho H ps vs) : RelDs K rho H ps.dropLast vs.dropLast := by
  rw [List.dropLast_eq_take, List.dropLast_eq_take, Paired.length h]
  exact RelDs.take h _
theorem RelDs.setAt {K : PySem.W.Frag} {rho : List Addr} {H : Hp} {ps : List D} {vs : List V} {d : D} {v : V} (r : RelD K rho H d v) : RelDs K rho H ps vs → ∀ n : Nat, RelDs K rho H (ps.set n d) (vs.set n v)
  | .nil, _ => .nil
  | .cons a b, 0 => .cons r b
  | .cons a b, n + 1 => .cons a (RelDs.setAt r b n)
theorem mtAll (m : Mt) : MtR X m.id (rMt X.K W sg m) := by
  intro pins s σ H x xs v us Q I rx rs h
  obtain ⟨rho, g, o, ds, w, ro, rd, h⟩ := h
  cases ro with
  | dat _ => cases m <;> exact (show False from h).elim
  | fn _ => cases m <;> exact (show False from h).elim
  | @ref r a ha =>
    have len : xs.length = ds.length := (Paired.length rd).symm
    unfold mtd at h
    split at h
    · -- append
      rename_i r' d hr
      cases hr
      cases rd with
      | cons r1 rr =>
        cases rr
        cases q : getL g r with
        | none => rw [q] at h; exact (show False from h).elim
        | some ys =>
          rw [q] at h
          obtain ⟨vs, h1, h2⟩ := w.getL q ha
          have h' : Pst X.K W sg (RelD X.K) rho H (if ys.length < line then .ok (.dat .none) (putO g r (.lst (ys ++ [d]))) else .bad) Q := h
          split at h'
          · rename_i hz
            have r2 := RelDs.append h2 (.cons r1 .nil)
            obtain ⟨e1, w1⟩ := w.change ha r2
            refine mt_append pins s σ H _ _ v us Q I rx rs ⟨a, vs, _, rfl, rfl, h1, ?_, h' _ _ _ e1 w1 (.dat .non)⟩
            rw [← Paired.length h2, ← line_eq]; exact hz
          · exact h'.elim
    · rename_i r' hr
      cases hr
      cases rd
      cases q : getL g r with
      | none => rw [q] at h; exact (show False from h).elim
      | some ys =>
        rw [q] at h
        obtain ⟨vs, h1, h2⟩ := w.getL q ha
        have l2 := Paired.length h2
        cases q2 : ys[ys.length - 1]? with
        | none =>
          have h' : Pst X.K W sg (RelD X.K) rho H (match ys[ys.length - 1]? with | some d => .ok d (putO g r (.lst ys.dropLast)) | none => .bad) Q := h
          rw [q2] at h'; exact (show False from h').elim
        | some d =>
          have h' : Pst X.K W sg (RelD X.K) rho H (match ys[ys.length - 1]? with | some d => .ok d (putO g r (.lst ys.dropLast)) | none => .bad) Q := h
          rw [q2] at h'
          have h' : Pst X.K W sg (RelD X.K) rho H (.ok d (putO g r (.lst ys.dropLast))) Q := h'
          obtain ⟨z, hz, hr⟩ := RelDs.get h2 q2
          obtain ⟨e1, w1⟩ := w.change ha (RelDs.dropLast h2)
          exact mt_pop pins s σ H _ _ v us Q I rx rs ⟨a, vs, z, rfl, rfl, h1, by rw [← l2]; exact hz, h' _ _ _ e1 w1 (hr.ext w.mut e1)⟩
    · rename_i r' i hr
      cases hr
      cases rd with
      | cons r1 rr =>
        cases rr
        cases r1 with
        | dat r1 =>
        cases r1
        cases q : getL g r with
        | none => rw [q] at h; exact (show False from h).elim
        | some ys =>
          rw [q] at h
          obtain ⟨vs, h1, h2⟩ := w.getL q ha
          have l2 := Paired.length h2
          dsimp only at h
          split at h
          · rename_i hb
            cases q2 : seqIndex? i ys.length with
            | none => rw [q2] at h; exact (show False from h).elim
            | some k =>
              rw [q2] at h
              dsimp only at h
              cases q3 : ys[k]? with
              | none => rw [q3] at h; exact (show False from h).elim
              | some d =>
                rw [q3] at h
                have h' : Pst X.K W sg (RelD X.K) rho H (.ok d (putO g r (.lst (ys.eraseIdx k)))) Q := h
                obtain ⟨z, hz, hr⟩ := RelDs.get h2 q3
                obtain ⟨e1, w1⟩ := w.change ha (RelDs.erase h2 k)
                exact mt_popAt pins s σ H _ _ v us Q I rx rs ⟨a, vs, i, k, z, rfl, rfl, h1, hb.1, hb.2, by rw [← l2]; exact q2, hz, h' _ _ _ e1 w1 (hr.ext w.mut e1)⟩
          · exact (show False from h).elim
    · -- extend
      rename_i r' ps hr
      cases hr
      cases rd with
      | cons r1 rr =>
        cases rr
        cases r1 with
        | dat r1 =>
        cases r1 with
        | @lst b zs _ hq hs =>
        cases q : getL g r with
        | none => rw [q] at h; exact (show False from h).elim
        | some ys =>
          rw [q] at h
          obtain ⟨vs, h1, h2⟩ := w.getL q ha
          have l2 := Paired.length h2
          dsimp only at h
          split at h
          · rename_i hz
            obtain ⟨e1, w1⟩ := w.change ha (RelDs.append h2 hs.toDs)
            obtain ⟨u, rfl, ru⟩ := rs.one
            cases rx
            refine extendA I h1 (hq.elim (fun z => .inl z.1) .inr) ru ?_ (h _ _ _ e1 w1 (.dat .non))
            rw [← l2, ← hs.length, ← line_eq]; exact hz
          · exact (show False from h).elim
    · exact (show False from h).elim
end

mutual
def slots : Tg → List Nat
  | .nm i => [i]
  | .tp ts => slotss ts
def slotss : List Tg → List Nat
  | [] => []
  | t :: ts => slots t ++ slotss ts
end
def SameOut (l : List Nat) (sg tau : L2.St) : Prop := tau.length = sg.length ∧ ∀ i, i ∉ l → tau[i]? = sg[i]?
def gT (K : PySem.W.Frag) (t : Tg) : L2.TG := fun v sg H Q => ∃ rho fr d fr1, fr.length = sg.length ∧ RelF K rho H fr sg ∧ RelD K rho H d v ∧ setT t d fr = some fr1 ∧
  ∀ tau, fr1.length = tau.length → RelF K rho H fr1 tau → SameOut (slots t) sg tau → Q tau H
def gTs (K : PySem.W.Frag) (ts : List Tg) : L2.TGs := fun vs sg H Q => ∃ rho fr ds fr1, fr.length = sg.length ∧ RelF K rho H fr sg ∧ RelDs K rho H ds vs ∧ setTs ts ds fr = some fr1 ∧
  ∀ tau, fr1.length = tau.length → RelF K rho H fr1 tau → SameOut (slotss ts) sg tau → Q tau H
theorem SameOut.set {sg : L2.St} {i : Nat} {o : Option V} : SameOut [i] sg (sg.set i o) := ⟨by simp, fun j hj => List.getElem?_set_ne (by intro z; exact hj (by simp [z]))⟩
theorem SameOut.trans {l m : List Nat} {a b c : L2.St} (h : SameOut l a b) (k : SameOut m b c) : SameOut (l ++ m) a c := ⟨k.1.trans h.1, fun i hi => by
  simp only [List.mem_append, not_or] at hi
  exact (k.2 i hi.2).trans (h.2 i hi.1)⟩
theorem wipe_same {l vs : List Nat} {sg tau : L2.St} (h : SameOut l sg tau) (hs : ∀ i ∈ l, i ∈ vs) : L2.wipe tau vs = L2.wipe sg vs := by
  have key : ∀ (ws : List Nat) (i : Nat), (L2.wipe tau ws)[i]? = if i ∈ ws then (L2.wipe sg ws)[i]? else tau[i]? := by
    intro ws
    induction ws with
    | nil => intro i; simp [L2.wipe]
    | cons v ws ih =>
      intro i
      unfold L2.wipe
      by_cases hv : v = i
      · subst hv
        rw [if_pos (by simp)]
        by_cases hlt : v < tau.length
        · rw [List.getElem?_set_self (by rw [L2.wipe_length]; exact hlt), List.getElem?_set_self (by rw [L2.wipe_length, ← h.1]; exact hlt)]
        · rw [List.getElem?_eq_none (by rw [List.length_set, L2.wipe_length]; omega), List.getElem?_eq_none (by rw [List.length_set, L2.wipe_length, ← h.1]; omega)]
      · rw [List.getElem?_set_ne hv, List.getElem?_set_ne hv, ih i]
        have : (i ∈ v :: ws) ↔ i ∈ ws := by simp [Ne.symm hv]
        simp only [this]
  have key2 : ∀ (ws : List Nat) (i : Nat), i ∉ ws → (L2.wipe sg ws)[i]? = sg[i]? := by
    intro ws
    induction ws with
    | nil => intro i _; rfl
    | cons v ws ih =>
      intro i hi
      simp only [List.mem_cons, not_or] at hi
      unfold L2.wipe
      rw [List.getElem?_set_ne (Ne.symm hi.1), ih i hi.2]
  apply List.ext_getElem?
  intro i
  rw [key vs i]
  split
  · rfl
  · rename_i hi
    rw [key2 vs i hi]
    exact h.2 i fun z => hi (hs i z)
end Fw
set_option Elab.async false
set_option linter.all false
set_option maxRecDepth 100000
set_option maxHeartbeats 4000000
noncomputable section
namespace Fw
open PySem PySem.Spec PyProof.Rows L2

def WF : WX := fun _ _ _ _ => False
theorem takesF {X : Cx} : Takes X WF := fun _ _ ⟨_, _, _, _, _, _, _, _, _, _, _, _, _, _, _, _, w⟩ => w.elim

structure Gd (X : Cx) (W : WX) (n : Nat) : Prop where
  hN : X.N.Nodup
  calm : X.calm = true
  room : Room n X.A
  guards : X.A.guards = some []
  tk : Takes X W
theorem Gd.units {X : Cx} {W : WX} {n : Nat} (G : Gd X W n) : X.A.units + 66 < cLine := by have := G.room.un; omega
theorem Gd.units5 {X : Cx} {W : WX} {n : Nat} (G : Gd X W n) : X.A.units + 65 < cLine := by have := G.room.un; omega
theorem Gd.blk {X : Cx} {W : WX} {n : Nat} (G : Gd X W n) (s : Shared) (H : Hp) (sc : Scope) (ce : Env) (fp : List Addr) : Gd (X.blk s H sc ce fp) WF n := ⟨G.hN, G.calm, G.room, G.guards, takesF⟩

theorem RelF.set_len {fr : Fr} {i : Nat} {o : Option D} : (fr.set i o).length = fr.length := List.length_set
section
variable {X : Cx} {pos : Pos}
theorem sg_nm {i : Nat} {x : Str} (hN : X.N.Nodup) (hi : X.N[i]? = some x) (hx : Loc X.env.scope x) (hf : X.fn x = true ∨ X.env.scope.names.lookup x = some .local) : PG X (.Name x pos) (gT X.K (.nm i)) where
  run := by
    intro pins s sg H v u Q I r h
    obtain ⟨rho, fr, d, fr1, hl, hf1, rd, he, h⟩ := h
    cases (show some (fr.set i (some d)) = some fr1 from he)
    exact (pg_name hN hi hx hf).run pins s sg H v u Q I r (h _ (by simp [hl]) (hf1.set rd hl) SameOut.set)
theorem sgs_nil : PGs X [] (gTs X.K []) where
  run := by
    intro pins s sg H vs us Q I r h
    obtain ⟨rho, fr, ds, fr1, hl, hf, rd, he, h⟩ := h
    cases ds with
    | cons _ _ => cases he
    | nil =>
      cases rd
      cases he
      exact pgs_nil.run pins s sg H _ us Q I r ⟨rfl, h sg hl hf ⟨rfl, fun _ _ => rfl⟩⟩
theorem sgs_cons {e : Expr} {es : List Expr} {t : Tg} {ts : List Tg} (h1 : PG X e (gT X.K t)) (h2 : PGs X es (gTs X.K ts))
    (hs : (assignEach (e :: es) X.env).map (·.2) = assign e X.env :: (assignEach es X.env).map (·.2)) : PGs X (e :: es) (gTs X.K (t :: ts)) where
  run := by
    intro pins s sg H vs us Q I r h
    obtain ⟨rho, fr, ds, fr1, hl, hf, rd, he, h⟩ := h
    cases ds with
    | nil => cases he
    | cons d ds =>
      cases rd with
      | cons r1 rr =>
        have he' : (setT t d fr).bind (setTs ts ds) = some fr1 := he
        cases q : setT t d fr with
        | none => rw [q] at he'; cases he'
        | some fr2 =>
          rw [q] at he'
          refine (pgs_cons h1 h2 hs).run pins s sg H _ us Q I r ⟨_, _, rfl, rho, fr, d, fr2, hl, hf, r1, q, fun tau l2 hf2 so => ?_⟩
          refine ⟨rho, fr2, ds, fr1, l2, hf2, rr, he', fun tau2 l3 hf3 so2 => h tau2 l3 hf3 (so.trans so2)⟩
theorem sg_tp {es : List Expr} {k : Nat} {ts : List Tg} {n : Nat} (hc : X.calm = true) (h : PGs X es (gTs X.K ts)) (hm : ts.length = n)
    (hn : (assignEach es X.env).length = n) (hst : (assignEach es X.env).findIdx? (·.1) = none) : PG X (.Tuple es k pos) (gT X.K (.tp ts)) where
  run := by
    intro pins s sg H v u Q I r hw
    obtain ⟨rho, fr, d, fr1, hl, hf, rd, he, hw⟩ := hw
    cases d with
    | ref _ => cases he
    | fn _ => cases he
    | dat p =>
      cases rd with
      | dat rp =>
      cases p with
      | tuple ps =>
        cases rp with
        | @tup a vs _ hq hs =>
          have he' : setTs ts (ps.map .dat) fr = some fr1 := he
          refine (pg_tup hc h hn hst).run pins s sg H _ u Q I r ⟨a, vs, rfl, hq, ?_, rho, fr, _, fr1, hl, hf, hs.toDs, he', hw⟩
          rw [← hs.length, ← hm]
          have key : ∀ (ts : List Tg) (ds : List D) (fr : Fr) (fr1 : Fr), setTs ts ds fr = some fr1 → ds.length = ts.length := by
            intro ts
            induction ts with
            | nil => intro ds fr fr1 h; cases ds with
              | nil => rfl
              | cons _ _ => cases h
            | cons t ts ih => intro ds fr fr1 h; cases ds with
              | nil => cases h
              | cons d ds =>
                have h' : (setT t d fr).bind (setTs ts ds) = some fr1 := h
                cases q : setT t d fr with
                | none => rw [q] at h'; cases h'
                | some f2 => rw [q] at h'; simp [ih ds f2 fr1 h']
          simpa using key ts _ fr fr1 he'
      | _ => cases he
def gI (K : PySem.W.Frag) (t : Tg) : L2.TG := fun v sg H Q => ∃ rho fr it fr1, fr.length = sg.length ∧ RelF K rho H fr sg ∧ RelI K rho H it v ∧ setI t it fr = some fr1 ∧
  ∀ tau, fr1.length = tau.length → RelF K rho H fr1 tau → SameOut (slots t) sg tau → Q tau H
theorem si_nm {e : Expr} {i : Nat} (h : PG X e (gT X.K (.nm i))) : PG X e (gI X.K (.nm i)) where
  run := by
    intro pins s sg H v u Q I r hw
    obtain ⟨rho, fr, it, fr1, hl, hf, ri, he, hw⟩ := hw
    cases ri with
    | one rd => exact h.run pins s sg H v u Q I r ⟨rho, fr, _, fr1, hl, hf, rd, he, hw⟩
    | two _ _ _ => cases he
theorem si_tp {es : List Expr} {k : Nat} {ts : List Tg} {n : Nat} (hc : X.calm = true) (h : PGs X es (gTs X.K ts)) (hm : ts.length = n)
    (hn : (assignEach es X.env).length = n) (hst : (assignEach es X.env).findIdx? (·.1) = none) : PG X (.Tuple es k pos) (gI X.K (.tp ts)) where
  run := by
    intro pins s sg H v u Q I r hw
    obtain ⟨rho, fr, it, fr1, hl, hf, ri, he, hw⟩ := hw
    cases ri with
    | one rd => exact (sg_tp hc h hm hn hst).run pins s sg H v u Q I r ⟨rho, fr, _, fr1, hl, hf, rd, he, hw⟩
    | @two t a b x y hq r1 r2 =>
      match ts, hm, h, he, hw with
      | [], _, _, he, _ => cases he
      | [_], _, _, he, _ => cases he
      | _ :: _ :: _ :: _, _, _, he, _ => cases he
      | [t1, t2], hm, h, he, hw =>
        have he' : (setT t1 a fr).bind (setT t2 b) = some fr1 := he
        refine (pg_tup hc h hn hst).run pins s sg H _ u Q I r ⟨t, [x, y], rfl, hq, by rw [← hm]; rfl, rho, fr, [a, b], fr1, hl, hf, .cons r1 (.cons r2 .nil), ?_, hw⟩
        show (setT t1 a fr).bind (setTs [t2] [b]) = some fr1
        rw [← he']
        congr 1
        funext f
        show (setT t2 b f).bind (setTs [] []) = setT t2 b f
        cases setT t2 b f <;> rfl
end

def tO (K : PySem.W.Frag) (W : WX) (f : Fr → Gh → Rs (Option Int)) : TO := fun sg H Q =>
  ∃ rho fr g, fr.length = sg.length ∧ RelF K rho H fr sg ∧ Wf K rho H g ∧ Pst K W sg (fun _ _ a b => a = b) rho H (f fr g) Q
section
variable {K : PySem.W.Frag} {W : WX} {sg : L2.St} {rho : List Addr} {H : Hp} {fr : Fr} {g : Gh}
theorem stepO {γ δ : Type} {R : List Addr → Hp → γ → δ → Prop} {Q : δ → Hp → Prop} {f : Fr → Gh → Rs (Option Int)} {k : Option Int → Gh → Rs γ} (hl : fr.length = sg.length) (hf : RelF K rho H fr sg) (hw : Wf K rho H g) (h : Pst K W sg R rho H ((f fr g).bind k) Q) :
    tO K W f sg H (After K W sg (fun _ _ a b => a = b) R rho H fr k Q) := ⟨rho, fr, g, hl, hf, hw, Pst.bind hf hw h⟩
theorem tO.mono {f : Fr → Gh → Rs (Option Int)} {Q Q' : Option Int → Hp → Prop} (h : tO K W f sg H Q) (m : ∀ v H, Q v H → Q' v H) : tO K W f sg H Q' := by
  obtain ⟨rho, fr, g, hl, hf, hw, h⟩ := h
  exact ⟨rho, fr, g, hl, hf, hw, h.mono m⟩
theorem tOp_of {fa fb : Fr → Gh → Rs D} {f : D → D → Gh → Rs D} {Q : VK} (h : tE K W (fun fr g => (fa fr g).bind fun x g1 => (fb fr g1).bind fun y g2 => f x y g2) sg H Q) : tOp (r2V K W sg f) (tE K W fa) (tE K W fb) sg H Q := by
  obtain ⟨rho, fr, g, hl, hf, hw, h⟩ := h
  refine (stepE hl hf hw h).mono ?_
  rintro v H1 ⟨rho1, g1, a, e1, hf1, hw1, ra, h1⟩
  refine (stepE hl hf1 hw1 h1).mono ?_
  rintro u H2 ⟨rho2, g2, b, e2, hf2, hw2, rb, h2⟩
  exact ⟨rho2, g2, a, b, hw2, ra.ext hw1.mut e2, rb, h2⟩
end
def evT (gl : Str → Option PyData) (cl : Nat → List D → Gh → Rs D) (c : CE) : Fr → Gh → Rs Bool := fun fr g => (ev gl cl c fr g).bind fun x g1 => Rs.of (truV x g1) g1
section
variable {X : Cx} {W : WX} {gl : Str → Option PyData} {cl : Nat → List D → Gh → Rs D} {pos : Pos}
abbrev SE (X : Cx) (W : WX) (gl : Str → Option PyData) (cl : Nat → List D → Gh → Rs D) (e : Expr) (c : CE) : Prop := PE X e (tE X.K W (ev gl cl c))
abbrev SA (X : Cx) (W : WX) (gl : Str → Option PyData) (cl : Nat → List D → Gh → Rs D) (e : List Expr) (c : CEs) : Prop := PA X e (tAs X.K W (evs gl cl c))
abbrev SO (X : Cx) (W : WX) (gl : Str → Option PyData) (cl : Nat → List D → Gh → Rs D) (e : Option Expr) (c : CO) : Prop := PO X e (tO X.K W (evo gl cl c))
abbrev ST (X : Cx) (W : WX) (gl : Str → Option PyData) (cl : Nat → List D → Gh → Rs D) (e : Expr) (c : CE) : Prop := PT X e (tT X.K W (evT gl cl c))
abbrev SW (X : Cx) (W : WX) (gl : Str → Option PyData) (cl : Nat → List D → Gh → Rs D) (e : Expr) (c : CE) : Prop := PW X e (tT X.K W (evT gl cl c))
abbrev SI (X : Cx) (W : WX) (gl : Str → Option PyData) (cl : Nat → List D → Gh → Rs D) (tg e : Expr) (c : CI) : Prop := PI X tg e (tI X.K W (evi gl cl c))
theorem se_const {e : Expr} {p : PyData} {v : V} {c : CE} (h : PE X e (tC v)) (r : ∀ rho H, RelP X.K rho H p v) (hc : ∀ fr g, ev gl cl c fr g = .ok (.dat p) g) : SE X W gl cl e c :=
  pe_imp h fun sg H Q ⟨rho, fr, g, hl, hf, hw, h⟩ => by
    rw [hc] at h
    exact h.here hw (.dat (r rho H))
theorem se_non {j} : SE X W gl cl (.Constant .none j pos) .non := se_const pe_non (fun _ _ => .non) fun _ _ => by unfold ev; rfl
theorem se_bl {b j} : SE X W gl cl (.Constant (.bool b) j pos) (.bl b) := se_const pe_bl (fun _ _ => .bl b) fun _ _ => by unfold ev; rfl
theorem se_int {i j} : SE X W gl cl (.Constant (.int i) j pos) (.int i) := se_const pe_int (fun _ _ => .int i) fun _ _ => by unfold ev; rfl
theorem se_str {x j} : SE X W gl cl (.Constant (.str x) j pos) (.str x) := se_const pe_str (fun _ _ => .str x) fun _ _ => by unfold ev; rfl
theorem se_var {i : Nat} {x : Str} (hN : X.N[i]? = some x) (hv : Vis X.env.scope x) (hd : (x == ("__debug__" : Str)) = false) (hcd : (x == ("__classdict__" : Str)) = false) : SE X W gl cl (.Name x pos) (.var i) :=
  pe_imp (pe_var hN hv hd hcd) fun sg H Q ⟨rho, fr, g, hl, hf, hw, h⟩ => by
    unfold ev at h
    split at h
    · rename_i d hd
      obtain ⟨v, h1, h2⟩ := hf _ _ hd
      exact ⟨v, h1, h.here hw h2⟩
    · exact (show False from h).elim
def GlK (K : PySem.W.Frag) (mg : Str → Option Value) (x : Str) (p : PyData) : Prop := ∃ u v, mg x = some u ∧ RelV v u ∧ ∀ rho H, RelP K rho H p v
theorem se_gl {x : Str} {p : PyData} (hg : Gl X x) (hk : GlK X.K X.mg x p) (hp : gl x = some p) (hd : (x == ("__debug__" : Str)) = false) : SE X W gl cl (.Name x pos) (.gl x) := by
  obtain ⟨u, v, hm, r, rp⟩ := hk
  refine se_const (pe_glob hg hm r hd) rp fun fr g => ?_
  unfold ev
  rw [hp]
theorem se_bin {o : BinO} {a b : Expr} {ca cb : CE} (ha : SE X W gl cl a ca) (hb : SE X W gl cl b cb) : SE X W gl cl (.BinOp a o.op b pos) (.bin o ca cb) where
  run := by
    intro pins s sg H Q I h
    refine (pe_op (opBin (sg := sg) o) ha hb).run pins s sg H Q I (tOp_of ?_)
    obtain ⟨rho, fr, g, hl, hf, hw, h⟩ := h
    unfold ev at h
    exact ⟨rho, fr, g, hl, hf, hw, h⟩
theorem se_neg {a : Expr} {ca : CE} (ha : SE X W gl cl a ca) : SE X W gl cl (.UnaryOp .USub a pos) (.neg ca) where
  run := by
    intro pins s sg H Q I h
    refine (pe_un un_neg ha).run pins s sg H Q I ?_
    obtain ⟨rho, fr, g, hl, hf, hw, h⟩ := h
    unfold ev at h
    refine (stepE hl hf hw h).mono ?_
    rintro v H1 ⟨rho1, g1, d, e1, hf1, hw1, rd, h1⟩
    cases rd with
    | ref _ => exact (show False from h1).elim
    | fn _ => exact (show False from h1).elim
    | dat rp => cases rp with
      | int i => exact ⟨i, rfl, (show Pst X.K W sg (RelD X.K) rho1 H1 (.ok (.dat (.int (-i))) g1) Q from h1).here hw1 (.dat (.int _))⟩
      | _ => exact (show False from h1).elim
theorem se_not {a : Expr} {ca : CE} (ha : SE X W gl cl a ca) : SE X W gl cl (.UnaryOp .Not a pos) (.not ca) where
  run := by
    intro pins s sg H Q I h
    refine (pe_notT ha).run pins s sg H Q I ?_
    obtain ⟨rho, fr, g, hl, hf, hw, h⟩ := h
    unfold ev at h
    refine (stepE hl hf hw h).mono ?_
    rintro v H1 ⟨rho1, g1, d, e1, hf1, hw1, rd, h1⟩
    dsimp only at h1
    cases q : truV d g1 with
    | none => rw [q] at h1; exact (show False from h1).elim
    | some b =>
      rw [q] at h1
      exact ⟨b, truth_of hw1 rd q, (show Pst X.K W sg (RelD X.K) rho1 H1 (.ok (.dat (.bool (!b))) g1) Q from h1).here hw1 (.dat (.bl _))⟩
theorem se_cmp {o : CmpO} {a b : Expr} {ca cb : CE} (hu : X.A.units + 65 < cLine) (ha : SE X W gl cl a ca) (hb : SE X W gl cl b cb) (hm : behindInMarks o.op b = false) : SE X W gl cl (.Compare a [o.op] [b] pos) (.cmp o ca cb) where
  run := by
    intro pins s sg H Q I h
    refine (pe_cmpR (opCmp (sg := sg) hu o) ha hb hm).run pins s sg H Q I (tOp_of ?_)
    obtain ⟨rho, fr, g, hl, hf, hw, h⟩ := h
    unfold ev at h
    exact ⟨rho, fr, g, hl, hf, hw, h⟩
theorem cmpV_bool (o : CmpO) (x y : D) (g : Gh) : cmpV o x y g = .bad ∨ ∃ b, cmpV o x y g = .ok (.dat (.bool b)) g := by
  have key : ∀ oo : Option Bool, Rs.ofB oo g = .bad ∨ ∃ b, Rs.ofB oo g = .ok (.dat (.bool b)) g := fun oo => by
    cases oo with
    | none => exact .inl rfl
    | some b => exact .inr ⟨b, rfl⟩
  unfold cmpV
  split
  · exact key _
  · split
    · exact .inr ⟨_, rfl⟩
    · exact .inr ⟨_, rfl⟩
    · split
      · exact key _
      · exact .inl rfl
  · split
    · exact key _
    · exact .inl rfl
  · exact .inl rfl
theorem bl_of {K : PySem.W.Frag} {rho : List Addr} {H : Hp} {b : Bool} {v : V} (r : RelD K rho H (.dat (.bool b)) v) : v = .bl b := by
  cases r with
  | dat h => cases h; rfl
theorem Pst.test {sg : L2.St} {K : PySem.W.Frag} {rho : List Addr} {H : Hp} {r : Rs D} {Q : Bool → Hp → Prop} (hb : ∀ d g, r = .ok d g → ∃ b, d = .dat (.bool b)) (h : Pst K W sg (fun _ _ a b => a = b) rho H (r.bind fun x g1 => Rs.of (truV x g1) g1) Q) :
    Pst K W sg (RelD K) rho H r fun v H1 => ∃ k, v = .bl k ∧ Q k H1 := by
  cases r with
  | bad => exact h
  | exc x g => exact h
  | ok d g =>
    obtain ⟨b, rfl⟩ := hb d g rfl
    intro rho' H' v e w rd
    refine ⟨b, bl_of rd, ?_⟩
    exact (show Pst K W sg (fun _ _ a b => a = b) rho H (.ok b g) Q from h) rho' H' b e w rfl
end
end Fw
end
set_option Elab.async false
set_option linter.all false
set_option maxRecDepth 100000
set_option maxHeartbeats 4000000
noncomputable section
namespace Fw
open PySem PySem.Spec PyProof.Rows L2
section
variable {X : Cx} {W : WX} {gl : Str → Option PyData} {cl : Nat → List D → Gh → Rs D} {pos : Pos}
theorem ok_bool {α : Type} {K : PySem.W.Frag} {W : WX} {sg : L2.St} {rho : List Addr} {H : Hp} {d : D} {g : Gh} {Q : Bool → Hp → Prop} {v : V} (w : Wf K rho H g) (rd : RelD K rho H d v) (h : Pst K W sg (fun _ _ a b => a = b) rho H (Rs.of (truV d g) g) Q) : ∃ b, TruV K v H b ∧ truV d g = some b ∧ Q b H := by
  cases q : truV d g with
  | none => rw [q] at h; exact (show False from h).elim
  | some b =>
    rw [q] at h
    exact ⟨b, truth_of w rd q, rfl, (show Pst K W sg (fun _ _ a b => a = b) rho H (.ok b g) Q from h).here w rfl⟩
theorem st_val {e : Expr} {c : CE} (h : SE X W gl cl e c) (he : ∀ whole, isTrue e X.env whole = (do let v ← whole; standAt e.pos; holding [v] (truthy v))) : ST X W gl cl e c := by
  refine pt_imp (pt_truth h he) fun sg H Q ⟨rho, fr, g, hl, hf, hw, h⟩ => ?_
  refine (stepE hl hf hw h).mono ?_
  rintro v H1 ⟨rho1, g1, d, e1, hf1, hw1, rd, h1⟩
  obtain ⟨b, q1, _, q2⟩ := ok_bool (α := Unit) hw1 rd h1
  exact ⟨b, q1, q2⟩
theorem two_bool {o : CmpO} {ca cb : CE} {fr : Fr} {g : Gh} : ∀ d g2, ((ev gl cl ca fr g).bind fun x g1 => (ev gl cl cb fr g1).bind fun y g2 => cmpV o x y g2) = .ok d g2 → ∃ b, d = .dat (.bool b) := by
  intro d g2
  cases ev gl cl ca fr g with
  | bad => exact fun e => nomatch e
  | exc _ _ => exact fun e => nomatch e
  | ok x g1 =>
    show ((ev gl cl cb fr g1).bind fun y g2 => cmpV o x y g2) = .ok d g2 → _
    cases ev gl cl cb fr g1 with
    | bad => exact fun e => nomatch e
    | exc _ _ => exact fun e => nomatch e
    | ok y g3 =>
      show cmpV o x y g3 = .ok d g2 → _
      rcases cmpV_bool o x y g3 with q | ⟨b, q⟩
      · rw [q]; exact fun e => nomatch e
      · rw [q]; exact fun e => by cases e; exact ⟨b, rfl⟩
theorem st_cmp {o : CmpO} {a b : Expr} {ca cb : CE} (hu : X.A.units + 65 < cLine) (ha : SE X W gl cl a ca) (hb : SE X W gl cl b cb) (hm : behindInMarks o.op b = false) : ST X W gl cl (.Compare a [o.op] [b] pos) (.cmp o ca cb) where
  run := by
    intro pins s sg H Q I h
    refine (pt_cmpR (opCmp (W := W) (sg := sg) hu o) ha hb hm).run pins s sg H Q I ?_
    obtain ⟨rho, fr, g, hl, hf, hw, h⟩ := h
    refine tOp_of (fa := ev gl cl ca) (fb := ev gl cl cb) (f := cmpV o) ⟨rho, fr, g, hl, hf, hw, ?_⟩
    unfold evT ev at h
    exact Pst.test two_bool h
def chK (gl : Str → Option PyData) (cl : Nat → List D → Gh → Rs D) (p : CmpO) (cc : CE) (fr : Fr) (y : D) : D → Gh → Rs D := fun z g3 => match blOf z with
  | some true => (ev gl cl cc fr g3).bind fun u g4 => cmpV p y u g4
  | some false => .ok (.dat (.bool false)) g3
  | none => .bad
theorem tChain_of {o p : CmpO} {ca cb cc : CE} {sg : L2.St} {H : Hp} {Q : VK} (h : tE X.K W (ev gl cl (.chn o p ca cb cc)) sg H Q) :
    tChain (r2V X.K W sg (cmpV o)) (r2V X.K W sg (cmpV p)) (tE X.K W (ev gl cl ca)) (tE X.K W (ev gl cl cb)) (tE X.K W (ev gl cl cc)) sg H Q := by
  obtain ⟨rho, fr, g, hl, hf, hw, h⟩ := h
  unfold ev at h
  refine (stepE hl hf hw h).mono ?_
  rintro v H1 ⟨rho1, g1, a, e1, hf1, hw1, ra, h1⟩
  refine (stepE hl hf1 hw1 h1).mono ?_
  rintro u H2 ⟨rho2, g2, b, e2, hf2, hw2, rb, h2⟩
  refine ⟨rho2, g2, a, b, hw2, ra.ext hw1.mut e2, rb, ?_⟩
  dsimp only at h2
  rcases cmpV_bool o a b g2 with q | ⟨k, q⟩
  · rw [q] at h2; exact (show False from h2).elim
  · rw [q] at h2 ⊢
    have h3 : Pst X.K W sg (RelD X.K) rho2 H2 (match some k with | some true => (ev gl cl cc fr g2).bind fun u g4 => cmpV p b u g4 | some false => .ok (.dat (.bool false)) g2 | none => .bad) Q := h2
    intro rho3 H3 z e3 hw3 rz
    refine ⟨k, bl_of rz, ?_⟩
    cases k with
    | false => exact (show Pst X.K W sg (RelD X.K) rho2 H2 (.ok (.dat (.bool false)) g2) Q from h3) rho3 H3 _ e3 hw3 (.dat (.bl _))
    | true =>
      refine (stepE hl (hf2.ext hw2.mut e3) hw3 (Pst.ext (show Pst X.K W sg (RelD X.K) rho2 H2 ((ev gl cl cc fr g2).bind fun u g4 => cmpV p b u g4) Q from h3) e3)).mono ?_
      rintro w' H4 ⟨rho4, g4, c, e4, hf4, hw4, rc, h4⟩
      exact ⟨rho4, g4, b, c, hw4, (rb.ext hw2.mut e3).ext hw3.mut e4, rc, h4⟩
theorem se_chn {o p : CmpO} {a b c : Expr} {ca cb cc : CE} (hu : X.A.units + 65 < cLine) (ha : SE X W gl cl a ca) (hb : SE X W gl cl b cb) (hc : SE X W gl cl c cc) (hm : lastMarks [o.op, p.op] [b, c] = false) : SE X W gl cl (.Compare a [o.op, p.op] [b, c] pos) (.chn o p ca cb cc) where
  run := by
    intro pins s sg H Q I h
    exact (pe_chain (opCmp (W := W) (sg := sg) hu o) (opCmp hu p) ha hb hc hm).run pins s sg H Q I (tChain_of h)
theorem chn_bool {o p : CmpO} {ca cb cc : CE} {fr : Fr} {g : Gh} : ∀ d g2, ev gl cl (.chn o p ca cb cc) fr g = .ok d g2 → ∃ b, d = .dat (.bool b) := by
  intro d g2
  unfold ev
  cases ev gl cl ca fr g with
  | bad => exact fun e => nomatch e
  | exc _ _ => exact fun e => nomatch e
  | ok x g1 =>
    show ((ev gl cl cb fr g1).bind _) = .ok d g2 → _
    cases ev gl cl cb fr g1 with
    | bad => exact fun e => nomatch e
    | exc _ _ => exact fun e => nomatch e
    | ok y g3 =>
      show ((cmpV o x y g3).bind _) = .ok d g2 → _
      rcases cmpV_bool o x y g3 with q | ⟨k, q⟩
      · rw [q]; exact fun e => nomatch e
      · rw [q]
        cases k with
        | false => exact fun e => by cases e; exact ⟨false, rfl⟩
        | true =>
          show ((ev gl cl cc fr g3).bind fun u g4 => cmpV p y u g4) = .ok d g2 → _
          cases ev gl cl cc fr g3 with
          | bad => exact fun e => nomatch e
          | exc _ _ => exact fun e => nomatch e
          | ok u g4 =>
            show cmpV p y u g4 = .ok d g2 → _
            rcases cmpV_bool p y u g4 with q | ⟨k, q⟩
            · rw [q]; exact fun e => nomatch e
            · rw [q]; exact fun e => by cases e; exact ⟨k, rfl⟩
theorem st_chn {o p : CmpO} {a b c : Expr} {ca cb cc : CE} (hu : X.A.units + 65 < cLine) (ha : SE X W gl cl a ca) (hb : SE X W gl cl b cb) (hc : SE X W gl cl c cc) (hm : lastMarks [o.op, p.op] [b, c] = false) : ST X W gl cl (.Compare a [o.op, p.op] [b, c] pos) (.chn o p ca cb cc) where
  run := by
    intro pins s sg H Q I h
    refine (pt_chain (opCmp (W := W) (sg := sg) hu o) (opCmp hu p) ha hb hc hm).run pins s sg H Q I (tChain_of ?_)
    obtain ⟨rho, fr, g, hl, hf, hw, h⟩ := h
    exact ⟨rho, fr, g, hl, hf, hw, Pst.test chn_bool h⟩

theorem se_one {op} {a : Expr} {c : CE} (h : SE X W gl cl a c) : SE X W gl cl (.BoolOp op [a] pos) c := pe_one h
theorem se_and {a b : Expr} {rest : List Expr} {ca cb : CE} (ha : SE X W gl cl a ca) (hb : SE X W gl cl (.BoolOp .And (b :: rest) pos) cb) : SE X W gl cl (.BoolOp .And (a :: b :: rest) pos) (.and ca cb) :=
  pe_imp (pe_and ha hb) fun sg H Q ⟨rho, fr, g, hl, hf, hw, h⟩ => by
    unfold ev at h
    refine (stepE hl hf hw h).mono ?_
    rintro v H1 ⟨rho1, g1, d, e1, hf1, hw1, rd, h1⟩
    cases rd with
    | ref _ => exact (show False from h1).elim
    | fn _ => exact (show False from h1).elim
    | dat rp => cases rp with
      | bl k =>
        refine ⟨k, rfl, ?_⟩
        cases k with
        | true => exact ⟨rho1, fr, g1, hl, hf1, hw1, h1⟩
        | false => exact (show Pst X.K W sg (RelD X.K) rho1 H1 (.ok (.dat (.bool false)) g1) Q from h1).here hw1 (.dat (.bl _))
      | _ => exact (show False from h1).elim
theorem se_or {a b : Expr} {rest : List Expr} {ca cb : CE} (ha : SE X W gl cl a ca) (hb : SE X W gl cl (.BoolOp .Or (b :: rest) pos) cb) : SE X W gl cl (.BoolOp .Or (a :: b :: rest) pos) (.or ca cb) :=
  pe_imp (pe_or ha hb) fun sg H Q ⟨rho, fr, g, hl, hf, hw, h⟩ => by
    unfold ev at h
    refine (stepE hl hf hw h).mono ?_
    rintro v H1 ⟨rho1, g1, d, e1, hf1, hw1, rd, h1⟩
    cases rd with
    | ref _ => exact (show False from h1).elim
    | fn _ => exact (show False from h1).elim
    | dat rp => cases rp with
      | bl k =>
        refine ⟨k, rfl, ?_⟩
        cases k with
        | false => exact ⟨rho1, fr, g1, hl, hf1, hw1, h1⟩
        | true => exact (show Pst X.K W sg (RelD X.K) rho1 H1 (.ok (.dat (.bool true)) g1) Q from h1).here hw1 (.dat (.bl _))
      | _ => exact (show False from h1).elim
theorem evT_and {K : PySem.W.Frag} {sg : L2.St} {rho : List Addr} {H : Hp} {ca cb : CE} {fr : Fr} {g : Gh} {Q : Bool → Hp → Prop} (h : Pst K W sg (fun _ _ a b => a = b) rho H (evT gl cl (.and ca cb) fr g) Q) :
    Pst K W sg (fun _ _ a b => a = b) rho H ((evT gl cl ca fr g).bind fun t g1 => if t = true then evT gl cl cb fr g1 else .ok false g1) Q := by
  unfold evT at h ⊢
  unfold ev at h
  rw [Rs.bind_assoc] at h ⊢
  cases q : ev gl cl ca fr g with
  | bad => rw [q] at h; exact h
  | exc _ _ => rw [q] at h; exact h
  | ok x g1 =>
    rw [q, Rs.ok_bind] at h
    rw [Rs.ok_bind]
    cases x with
    | ref _ => exact (show False from h).elim
    | fn _ => exact (show False from h).elim
    | dat p => cases p with
      | bool k => cases k <;> exact h
      | _ => exact (show False from h).elim
theorem evT_or {K : PySem.W.Frag} {sg : L2.St} {rho : List Addr} {H : Hp} {ca cb : CE} {fr : Fr} {g : Gh} {Q : Bool → Hp → Prop} (h : Pst K W sg (fun _ _ a b => a = b) rho H (evT gl cl (.or ca cb) fr g) Q) :
    Pst K W sg (fun _ _ a b => a = b) rho H ((evT gl cl ca fr g).bind fun t g1 => if t = true then .ok true g1 else evT gl cl cb fr g1) Q := by
  unfold evT at h ⊢
  unfold ev at h
  rw [Rs.bind_assoc] at h ⊢
  cases q : ev gl cl ca fr g with
  | bad => rw [q] at h; exact h
  | exc _ _ => rw [q] at h; exact h
  | ok x g1 =>
    rw [q, Rs.ok_bind] at h
    rw [Rs.ok_bind]
    cases x with
    | ref _ => exact (show False from h).elim
    | fn _ => exact (show False from h).elim
    | dat p => cases p with
      | bool k => cases k <;> exact h
      | _ => exact (show False from h).elim
theorem sw_and1 {a : Expr} {c : CE} (h : ST X W gl cl a c) : SW X W gl cl (.BoolOp .And [a] pos) c := pw_and1 h
theorem sw_or1 {a : Expr} {c : CE} (h : ST X W gl cl a c) : SW X W gl cl (.BoolOp .Or [a] pos) c := pw_or1 h
theorem pw_imp {e : Expr} {t t' : TT} (h : PW X e t) (i : ∀ sg H Q, t' sg H Q → t sg H Q) : PW X e t' := ⟨fun wh pins s sg H Q I q => h.run wh pins s sg H Q I (i sg H Q q)⟩
theorem sw_and {a b : Expr} {rest : List Expr} {ca cb : CE} (ha : ST X W gl cl a ca) (hb : SW X W gl cl (.BoolOp .And (b :: rest) pos) cb) : SW X W gl cl (.BoolOp .And (a :: b :: rest) pos) (.and ca cb) :=
  pw_imp (pw_and ha hb) fun sg H Q ⟨rho, fr, g, hl, hf, hw, h⟩ => by
    refine (stepT hl hf hw (evT_and h)).mono ?_
    rintro v H1 ⟨rho1, g1, d, e1, hf1, hw1, rd, h1⟩
    subst rd
    cases d with
    | true => exact ⟨rho1, fr, g1, hl, hf1, hw1, h1⟩
    | false => exact (show Pst X.K W sg (fun _ _ a b => a = b) rho1 H1 (.ok false g1) Q from h1).here hw1 rfl
theorem sw_or {a b : Expr} {rest : List Expr} {ca cb : CE} (ha : ST X W gl cl a ca) (hb : SW X W gl cl (.BoolOp .Or (b :: rest) pos) cb) : SW X W gl cl (.BoolOp .Or (a :: b :: rest) pos) (.or ca cb) :=
  pw_imp (pw_or ha hb) fun sg H Q ⟨rho, fr, g, hl, hf, hw, h⟩ => by
    refine (stepT hl hf hw (evT_or h)).mono ?_
    rintro v H1 ⟨rho1, g1, d, e1, hf1, hw1, rd, h1⟩
    subst rd
    cases d with
    | false => exact ⟨rho1, fr, g1, hl, hf1, hw1, h1⟩
    | true => exact (show Pst X.K W sg (fun _ _ a b => a = b) rho1 H1 (.ok true g1) Q from h1).here hw1 rfl
theorem st_sw {e : Expr} {c : CE} (h : SW X W gl cl e c) : ST X W gl cl e c := h.pt
theorem st_not {a : Expr} {c : CE} (h : ST X W gl cl a c) : ST X W gl cl (.UnaryOp .Not a pos) (.not c) :=
  pt_imp (pt_not h) fun sg H Q ⟨rho, fr, g, hl, hf, hw, h⟩ => by
    have h2 : Pst X.K W sg (fun _ _ a b => a = b) rho H ((evT gl cl c fr g).bind fun t g1 => .ok (!t) g1) Q := by
      unfold evT at h ⊢
      unfold ev at h
      rw [Rs.bind_assoc] at h ⊢
      cases q : ev gl cl c fr g with
      | bad => rw [q] at h; exact h
      | exc _ _ => rw [q] at h; exact h
      | ok x g1 =>
        rw [q, Rs.ok_bind] at h
        rw [Rs.ok_bind]
        cases q2 : truV x g1 with
        | none => rw [q2] at h; exact (show False from h).elim
        | some b => rw [q2] at h; exact h
    refine (stepT hl hf hw h2).mono ?_
    rintro v H1 ⟨rho1, g1, d, e1, hf1, hw1, rd, h1⟩
    subst rd
    exact (show Pst X.K W sg (fun _ _ a b => a = b) rho1 H1 (.ok (!d) g1) Q from h1).here hw1 rfl
theorem se_ite {c a b : Expr} {cc ca cb : CE} (hc : ST X W gl cl c cc) (ha : SE X W gl cl a ca) (hb : SE X W gl cl b cb) : SE X W gl cl (.IfExp c a b pos) (.ite cc ca cb) :=
  pe_imp (pe_ifExp hc ha hb) fun sg H Q ⟨rho, fr, g, hl, hf, hw, h⟩ => by
    have h2 : Pst X.K W sg (RelD X.K) rho H ((evT gl cl cc fr g).bind fun t g1 => if t = true then ev gl cl ca fr g1 else ev gl cl cb fr g1) Q := by
      unfold evT
      unfold ev at h
      rw [Rs.bind_assoc]
      cases q : ev gl cl cc fr g with
      | bad => rw [q] at h; exact h
      | exc _ _ => rw [q] at h; exact h
      | ok x g1 =>
        rw [q, Rs.ok_bind] at h
        rw [Rs.ok_bind]
        cases q2 : truV x g1 with
        | none => rw [q2] at h; exact (show False from h).elim
        | some b => rw [q2] at h; cases b <;> exact h
    refine (stepT hl hf hw h2).mono ?_
    rintro v H1 ⟨rho1, g1, d, e1, hf1, hw1, rd, h1⟩
    subst rd
    cases d with
    | true => exact ⟨rho1, fr, g1, hl, hf1, hw1, h1⟩
    | false => exact ⟨rho1, fr, g1, hl, hf1, hw1, h1⟩

theorem se_ix {a b : Expr} {ca cb : CE} (ha : SE X W gl cl a ca) (hb : SE X W gl cl b cb) (hs : PlainIx b) : SE X W gl cl (.Subscript a b pos) (.ix ca cb) where
  run := by
    intro pins s sg H Q I h
    refine (pe_ix (ixAll (W := W) (sg := sg)) ha hb hs).run pins s sg H Q I (tOp_of ?_)
    obtain ⟨rho, fr, g, hl, hf, hw, h⟩ := h
    unfold ev at h
    exact ⟨rho, fr, g, hl, hf, hw, h⟩
theorem po_imp {e : Option Expr} {t t' : TO} (h : PO X e t) (i : ∀ sg H Q, t' sg H Q → t sg H Q) : PO X e t' := ⟨fun pins s sg H Q I q => h.run pins s sg H Q I (i sg H Q q)⟩
theorem so_no : SO X W gl cl none .no := po_imp po_none fun sg H Q ⟨rho, fr, g, hl, hf, hw, h⟩ => by
  unfold evo at h
  exact h.here hw rfl
theorem so_so {e : Expr} {c : CE} (h : SE X W gl cl e c) : SO X W gl cl (some e) (.so c) := po_imp (po_some h) fun sg H Q ⟨rho, fr, g, hl, hf, hw, h⟩ => by
  unfold evo at h
  refine (stepE hl hf hw h).mono ?_
  rintro v H1 ⟨rho1, g1, d, e1, hf1, hw1, rd, h1⟩
  cases rd with
  | ref _ => exact (show False from h1).elim
  | fn _ => exact (show False from h1).elim
  | dat rp => cases rp with
    | int i => exact ⟨i, rfl, (show Pst X.K W sg (fun _ _ a b => a = b) rho1 H1 (.ok (some i) g1) Q from h1).here hw1 rfl⟩
    | _ => exact (show False from h1).elim
theorem se_sl {a : Expr} {lo hi : Option Expr} {ca : CE} {cl' ch : CO} {p2 : Pos} (ha : SE X W gl cl a ca) (hl : SO X W gl cl lo cl') (hh : SO X W gl cl hi ch) : SE X W gl cl (.Subscript a (.Slice lo hi none p2) pos) (.sl ca cl' ch) where
  run := by
    intro pins s sg H Q I h
    refine (pe_slice (slAll (W := W) (sg := sg)) ha hl hh).run pins s sg H Q I ?_
    obtain ⟨rho, fr, g, hl, hf, hw, h⟩ := h
    unfold ev at h
    refine (stepE hl hf hw h).mono ?_
    rintro v H1 ⟨rho1, g1, d, e1, hf1, hw1, rd, h1⟩
    refine (stepO hl hf1 hw1 h1).mono ?_
    rintro l H2 ⟨rho2, g2, l', e2, hf2, hw2, rl, h2⟩
    subst rl
    refine (stepO hl hf2 hw2 h2).mono ?_
    rintro u H3 ⟨rho3, g3, u', e3, hf3, hw3, ru, h3⟩
    subst ru
    exact ⟨rho3, g3, d, hw3, (rd.ext hw1.mut e2).ext hw2.mut e3, h3⟩

theorem sa_nil : SA X W gl cl [] .nil := pa_imp pa_nil fun sg H Q ⟨rho, fr, g, hl, hf, hw, h⟩ => by
  unfold evs at h
  exact h.here hw .nil
theorem sa_cons {e : Expr} {es : List Expr} {c : CE} {cs : CEs} (h1 : SE X W gl cl e c) (h2 : SA X W gl cl es cs) (hs : starEach (e :: es) X.env = (false, eval e X.env) :: starEach es X.env) : SA X W gl cl (e :: es) (.cons c cs) :=
  pa_imp (pa_cons h1 h2 hs) fun sg H Q ⟨rho, fr, g, hl, hf, hw, h⟩ => by
    unfold evs at h
    refine (stepE hl hf hw h).mono ?_
    rintro v H1 ⟨rho1, g1, d, e1, hf1, hw1, rd, h1⟩
    refine (stepA hl hf1 hw1 h1).mono ?_
    rintro us H2 ⟨rho2, g2, ds, e2, hf2, hw2, rds, h2⟩
    exact (show Pst X.K W sg (RelDs X.K) rho2 H2 (.ok (d :: ds) g2) Q from h2).here hw2 (.cons (rd.ext hw1.mut e2) rds)
theorem se_tup {es : List Expr} {k : Nat} {cs : CEs} (h : SA X W gl cl es cs) : SE X W gl cl (.Tuple es k pos) (.tup cs) :=
  pe_imp (pe_tup h) fun sg H Q ⟨rho, fr, g, hl, hf, hw, h⟩ => by
    unfold ev at h
    refine (stepA hl hf hw h).mono ?_
    rintro us H2 ⟨rho2, g2, ds, e2, hf2, hw2, rds, h2⟩
    dsimp only at h2
    cases q : datsOf ds with
    | none => rw [q] at h2; exact (show False from h2).elim
    | some ps =>
      rw [q] at h2
      dsimp only at h2
      split at h2
      · rename_i hz
        have rp := RelDs.dats rds q
        refine ⟨by rw [← rp.length, ← line_eq]; exact hz, Pst.newTup hw2 h2 rp⟩
      · exact (show False from h2).elim
theorem se_lst {es : List Expr} {m : Bool} {cs : CEs} (h : SA X W gl cl es cs) : SE X W gl cl (.List es pos) (.lst m cs) :=
  pe_imp (pe_lst h) fun sg H Q ⟨rho, fr, g, hl, hf, hw, h⟩ => by
    unfold ev at h
    refine (stepA hl hf hw h).mono ?_
    rintro us H2 ⟨rho2, g2, ds, e2, hf2, hw2, rds, h2⟩
    dsimp only at h2
    split at h2
    · rename_i hz
      refine ⟨by rw [← Paired.length rds, ← line_eq]; exact hz, ?_⟩
      cases m with
      | true =>
        intro p hp
        obtain ⟨e3, w3⟩ := hw2.alloc_mut hp rds
        refine (show Pst X.K W sg (RelD X.K) rho2 H2 (.ok (.ref g2.length) (g2 ++ [.lst ds])) Q from h2) _ _ _ e3 w3 (.ref ?_)
        rw [← hw2.len]
        simp
      | false =>
        rw [if_neg (by decide)] at h2
        cases q : datsOf ds with
        | none => rw [q] at h2; exact (show False from h2).elim
        | some ps =>
          rw [q] at h2
          exact Pst.newLst hw2 h2 (RelDs.dats rds q)
    · exact (show False from h2).elim

theorem tCB_of {b : Bi} {cs : CEs} {sg : L2.St} {H : Hp} {Q : VK} (h : tE X.K W (ev gl cl (.bi b cs)) sg H Q) : tCB (rBi X.K W sg b) (tAs X.K W (evs gl cl cs)) sg H Q := by
  obtain ⟨rho, fr, g, hl, hf, hw, h⟩ := h
  unfold ev at h
  refine (stepA hl hf hw h).mono ?_
  rintro us H2 ⟨rho2, g2, ds, e2, hf2, hw2, rds, h2⟩
  exact ⟨rho2, g2, ds, hw2, rds, h2⟩
theorem se_biB {n : Nat} (b : Bi) {id : String} {x : Str} {p : Pos} {e : Expr} {es : List Expr} {cs : CEs} (G : Gd X W n) (nb : ∀ t, b ≠ .isi t) (hv : b.val = .builtin id) (hg : Gl X x) (hm : X.mg x = none) (hb : bootBuiltins x = some (.builtin id)) (ha : SA X W gl cl (e :: es) cs)
    (hn : x ≠ "__name__") (hd : (x == ("__debug__" : Str)) = false) (he : starEach (e :: es) X.env = (false, eval e X.env) :: starEach es X.env) (hpl : (backTo pos (starEach es X.env)).any (·.1) = false) : SE X W gl cl (.Call (.Name x p) (e :: es) [] pos) (.bi b cs) where
  run := by
    intro pins s sg H Q I h
    have c := biCall (X := X) (W := W) (sg := sg) G.calm G.guards G.units b nb
    rw [hv] at c
    exact (pe_callB c hg hm hb ha hn hd he hpl).run pins s sg H Q I (tCB_of h)
theorem se_biT {n : Nat} (b : Bi) {T : String} {x : Str} {p : Pos} {e : Expr} {es : List Expr} {cs : CEs} (G : Gd X W n) (nb : ∀ t, b ≠ .isi t) (hv : b.val = .type T) (hg : Gl X x) (hm : X.mg x = none) (hb : bootBuiltins x = some (.type T)) (ha : SA X W gl cl (e :: es) cs)
    (hn : x ≠ "__name__") (hd : (x == ("__debug__" : Str)) = false) (he : starEach (e :: es) X.env = (false, eval e X.env) :: starEach es X.env) (hpl : (backTo pos (starEach es X.env)).any (·.1) = false) : SE X W gl cl (.Call (.Name x p) (e :: es) [] pos) (.bi b cs) where
  run := by
    intro pins s sg H Q I h
    have c := biCall (X := X) (W := W) (sg := sg) G.calm G.guards G.units b nb
    rw [hv] at c
    exact (pe_callTy c hg hm hb ha hn hd he hpl).run pins s sg H Q I (tCB_of h)
end
end Fw
end
set_option Elab.async false
set_option linter.all false
set_option maxRecDepth 100000
set_option maxHeartbeats 4000000
noncomputable section
namespace Fw
open PySem PySem.Spec PyProof.Rows L2

def tyN : PyData → String
  | .none => "NoneType" | .bool _ => "bool" | .int _ => "int" | .str _ => "str" | .list _ => "list" | .tuple _ => "tuple" | .dict _ => "dict"
section
variable {K : PySem.W.Frag} {rho : List Addr} {H : Hp} {g : Gh}
theorem tyx_sqL {a : Addr} {vs : List V} : SqL K H a vs → TyX K H (.ref a) (.type "list")
  | .inl (.inl h) => .base (.lst h)
  | .inl (.inr ⟨_, h⟩) => .base (.frz h)
  | .inr ⟨_, _, _, h, c, _⟩ => .kList h c
theorem tyx_sqT {a : Addr} {vs : List V} : SqT K H a vs → TyX K H (.ref a) (.type "tuple")
  | .inl (.inl h) => .base (.tup h)
  | .inl (.inr ⟨_, h⟩) => .fTuple h
  | .inr ⟨_, _, _, h, c, _⟩ => .kTuple h c
theorem tyx_dp {p : PyData} {v : V} (h : RelP K rho H p v) : TyX K H v (.type (tyN p)) := by
  cases h with
  | non => exact .base .non
  | bl b => exact .base (.bl b)
  | int i => exact .base (.int i)
  | str x => exact .base (.str x)
  | tup hq _ => exact tyx_sqT hq
  | lst hq _ => exact tyx_sqL (sqL_of hq)
theorem tyx_via (w : Wf K rho H g) {d : D} {v : V} {p : PyData} (r : RelD K rho H d v) (e : viaL g d = some p) : TyX K H v (.type (tyN p)) := by
  cases p with
  | list ps =>
    obtain ⟨a, vs, rfl, hq, _⟩ := viaL_lst w r e
    exact tyx_sqL hq
  | _ => exact tyx_dp (viaL_dat w r e (fun _ z => nomatch z))
end
theorem isiD_int (p : PyData) : isiD (Str.ofString "int") p = some (match p with | .int _ => true | .bool _ => true | _ => false) := by unfold isiD; rw [if_pos (by decide)]; all_goals (cases p <;> rfl)
theorem isiD_bool (p : PyData) : isiD (Str.ofString "bool") p = some (match p with | .bool _ => true | _ => false) := by unfold isiD; rw [if_neg (by decide), if_pos (by decide)]; all_goals (cases p <;> rfl)
theorem isiD_str (p : PyData) : isiD (Str.ofString "str") p = some (match p with | .str _ => true | _ => false) := by unfold isiD; rw [if_neg (by decide), if_neg (by decide), if_pos (by decide)]; all_goals (cases p <;> rfl)
theorem isiD_tuple (p : PyData) : isiD (Str.ofString "tuple") p = some (match p with | .tuple _ => true | _ => false) := by unfold isiD; rw [if_neg (by decide), if_neg (by decide), if_neg (by decide), if_pos (by decide)]; all_goals (cases p <;> rfl)
theorem isiD_list (p : PyData) : isiD (Str.ofString "list") p = some (match p with | .list _ => true | _ => false) := by unfold isiD; rw [if_neg (by decide), if_neg (by decide), if_neg (by decide), if_neg (by decide), if_pos (by decide)]; all_goals (cases p <;> rfl)
theorem kit_isi {K : PySem.W.Frag} {t : String} {p : PyData} {b : Bool} (h : isiD (Str.ofString t) p = some b) (ht : t = "int" ∨ t = "bool" ∨ t = "str" ∨ t = "tuple" ∨ t = "list") : PySem.W.kitOne K (.type (tyN p)) (.type t) = some b := by
  apply kit_ty
  rcases ht with rfl | rfl | rfl | rfl | rfl
  · rw [isiD_int] at h
    cases p <;> (cases h; dsimp only [tyN]; decide +kernel)
  · rw [isiD_bool] at h
    cases p <;> (cases h; dsimp only [tyN]; decide +kernel)
  · rw [isiD_str] at h
    cases p <;> (cases h; dsimp only [tyN]; decide +kernel)
  · rw [isiD_tuple] at h
    cases p <;> (cases h; dsimp only [tyN]; decide +kernel)
  · rw [isiD_list] at h
    cases p <;> (cases h; dsimp only [tyN]; decide +kernel)
section
variable {X : Cx} {W : WX} {gl : Str → Option PyData} {cl : Nat → List D → Gh → Rs D} {pos : Pos}
theorem se_isi {e : Expr} {c : CE} {t : String} {p p2 : Pos} (ht : t = "int" ∨ t = "bool" ∨ t = "str" ∨ t = "tuple" ∨ t = "list") (h : SE X W gl cl e c) (hg : Gl X "isinstance") (hm : X.mg "isinstance" = none) (hg2 : Gl X (Str.ofString t)) (hm2 : X.mg (Str.ofString t) = none)
    (hv2 : bootBuiltins (Str.ofString t) = some (.type t)) (hn2 : Str.ofString t ≠ "__name__") (hd2 : (Str.ofString t == ("__debug__" : Str)) = false)
    (he : starEach [e, .Name (Str.ofString t) p2] X.env = (false, eval e X.env) :: starEach [.Name (Str.ofString t) p2] X.env) (he2 : starEach [.Name (Str.ofString t) p2] X.env = (false, eval (.Name (Str.ofString t) p2) X.env) :: starEach [] X.env)
    (hpl : (backTo pos (starEach [.Name (Str.ofString t) p2] X.env)).any (·.1) = false) :
    SE X W gl cl (.Call (.Name "isinstance" p) [e, .Name (Str.ofString t) p2] [] pos) (.bi (.isi (Str.ofString t)) (.cons c .nil)) :=
  pe_imp (pe_callB call_isi hg hm PyProof.Rows.boot_isinstance (pa_cons h (pa_cons (pe_bltn hg2 hm2 hv2 (v := .ty t) rfl hn2 hd2) pa_nil he2) he) (by decide) (by decide) he hpl) fun sg H Q ⟨rho, fr, g, hl, hf, hw, h⟩ => by
    unfold ev evs at h
    rw [Rs.bind_assoc] at h
    refine (stepE hl hf hw h).mono ?_
    rintro v H1 ⟨rho1, g1, d, e1, hf1, hw1, rd, h1⟩
    unfold evs at h1
    have h1 : Pst X.K W sg (RelD X.K) rho1 H1 (Rs.ofP ((viaLs g1 [d]).bind fun ps => biD (.isi (Str.ofString t)) ps) g1) Q := h1
    obtain ⟨r, q, h2⟩ := Pst.ofP h1
    cases q2 : viaL g1 d with
    | none =>
      have z : viaLs g1 [d] = (viaL g1 d).bind fun p => (viaLs g1 []).map (p :: ·) := rfl
      rw [z, q2] at q; cases q
    | some p =>
      have z : viaLs g1 [d] = (viaL g1 d).bind fun p => (viaLs g1 []).map (p :: ·) := rfl
      rw [z, q2] at q
      have q' : (isiD (Str.ofString t) p).map .bool = some r := q
      cases q3 : isiD (Str.ofString t) p with
      | none => rw [q3] at q'; cases q'
      | some b =>
        rw [q3] at q'
        cases q'
        exact ⟨v, .ty t, _, _, b, rfl, .ty t, tyx_via hw1 rd q2, kit_isi q3 ht, h2.here hw1 (.dat (.bl b))⟩

theorem ty_lst {rho : List Addr} {H : Hp} {g : Gh} {d : D} {v : V} (w : Wf X.K rho H g) (rd : RelD X.K rho H d v) (h : isL d g = true) : tyV X.K "list" v H := by
  cases rd with
  | dat _ => cases h
  | fn _ => cases h
  | @ref r a ha =>
    have h' : (getL g r).isSome = true := h
    cases q : getL g r with
    | none => rw [q] at h'; cases h'
    | some xs =>
      obtain ⟨vs, h1, _⟩ := w.getL q ha
      exact .inl ⟨rfl, vs, SqL.of h1⟩
theorem se_mth {m : Mt} {o e : Expr} {es : List Expr} {co : CE} {cs : CEs} {name : Str} {apos cpos : Pos} (pa : PlainAttrs "list") (slot : Slot "list" name m.id) (hty : typeOf (.builtin m.id) = pure (.type "method_descriptor")) (ho : SE X W gl cl o co) (ha : SA X W gl cl (e :: es) cs)
    (hbase : attributeBase o name X.env (eval o X.env) = eval o X.env)
    (hfew : ((backTo cpos (starEach (e :: es) X.env)).all (fun x => !x.1) && (backToKw cpos (keywordEach [] X.env)).all (fun x => x.1.isSome)
      && decide ((e :: es).length + ([] : List Keyword).length + (if ([] : List Keyword).isEmpty then 0 else 1) < 30)) = true)
    (hline : (apos.endLine == cpos.line) = true) (hs : starEach (e :: es) X.env = (false, eval e X.env) :: starEach es X.env) (hplain : (backTo cpos (starEach es X.env)).any (·.1) = false) :
    SE X W gl cl (.Call (.Attribute o name apos) (e :: es) [] cpos) (.mth m co cs) where
  run := by
    intro pins s sg H Q I h
    refine (pe_bm pa slot hty (mtAll (W := W) (sg := sg) m) ho ha hbase hfew hline hs hplain).run pins s sg H Q I ?_
    obtain ⟨rho, fr, g, hl, hf, hw, h⟩ := h
    unfold ev at h
    refine (stepE hl hf hw h).mono ?_
    rintro v H1 ⟨rho1, g1, d, e1, hf1, hw1, rd, h1⟩
    dsimp only at h1
    split at h1
    · rename_i hi
      refine ⟨ty_lst hw1 rd hi, (stepA hl hf1 hw1 h1).mono ?_⟩
      rintro us H2 ⟨rho2, g2, ds, e2, hf2, hw2, rds, h2⟩
      exact ⟨rho2, g2, d, ds, hw2, rd.ext hw1.mut e2, rds, h2⟩
    · exact (show False from h1).elim
theorem se_mth0 {m : Mt} {o : Expr} {co : CE} {name : Str} {apos cpos : Pos} (pa : PlainAttrs "list") (slot : Slot "list" name m.id) (hty : typeOf (.builtin m.id) = pure (.type "method_descriptor")) (ho : SE X W gl cl o co)
    (hbase : attributeBase o name X.env (eval o X.env) = eval o X.env) (hline : (apos.endLine == cpos.line) = true) :
    SE X W gl cl (.Call (.Attribute o name apos) [] [] cpos) (.mth m co .nil) where
  run := by
    intro pins s sg H Q I h
    refine (pe_bm0 pa slot hty (mtAll (W := W) (sg := sg) m) ho hbase hline).run pins s sg H Q I ?_
    obtain ⟨rho, fr, g, hl, hf, hw, h⟩ := h
    unfold ev at h
    refine (stepE hl hf hw h).mono ?_
    rintro v H1 ⟨rho1, g1, d, e1, hf1, hw1, rd, h1⟩
    dsimp only at h1
    split at h1
    · rename_i hi
      unfold evs at h1
      exact ⟨ty_lst hw1 rd hi, rho1, g1, d, [], hw1, rd, .nil, h1⟩
    · exact (show False from h1).elim

def spD (K : PySem.W.Frag) (np : Nat) (f : List D → Gh → Rs D) : Sp := fun vs H Q E =>
  ∃ rho g ds, Wf K rho H g ∧ RelDs K rho H ds vs ∧ ds.length = np ∧ Pst K (fun c d _ H' => E c d H') [] (RelD K) rho H (f ds g) Q
structure CallOk (P : Program) (w : World) (K : PySem.W.Frag) (mg : Str → Option Value) (base : Heap) (n : Nat) (x : Str) (np : Nat) (f : List D → Gh → Rs D) : Prop where
  ok : ∃ fa fd ps, FnG P w K mg base n fa fd ps (spD K np f) ∧ mg x = some (.ref fa) ∧ PySem.W.keepIn K (.ref fa) = true ∧ Binds K fd ps []
  bad : ∀ ds g, ds.length ≠ np → f ds g = .bad
theorem spD_of {sg : L2.St} {rho : List Addr} {H : Hp} {g : Gh} {ds : List D} {vs : List V} {np : Nat} {f : List D → Gh → Rs D} {Q : VK} (hb : ∀ ds g, ds.length ≠ np → f ds g = .bad) (w : Wf X.K rho H g) (r : RelDs X.K rho H ds vs) (h : Pst X.K W sg (RelD X.K) rho H (f ds g) Q) :
    spD X.K np f vs H Q fun c d H' => W c d sg H' := by
  refine ⟨rho, g, ds, w, r, ?_, ?_⟩
  · refine Classical.byContradiction fun z => ?_
    rw [hb ds g z] at h
    exact h
  · cases q : f ds g with
    | ok a g1 => rw [q] at h; exact h
    | exc x g1 => rw [q] at h; exact h
    | bad => rw [q] at h; exact h
theorem se_call {n np f : Nat} {x : Str} {p : Pos} {e : Expr} {es : List Expr} {cs : CEs} (G : Gd X W n) (C : CallOk X.prog X.w X.K X.mg X.base n x np (cl f)) (hg : Gl X x) (ha : SA X W gl cl (e :: es) cs)
    (hd : (x == ("__debug__" : Str)) = false) (he : starEach (e :: es) X.env = (false, eval e X.env) :: starEach es X.env) (hpl : (backTo pos (starEach es X.env)).any (·.1) = false) : SE X W gl cl (.Call (.Name x p) (e :: es) [] pos) (.call f cs) := by
  obtain ⟨⟨fa, fd, ps, F, hm, hk, hb⟩, bad⟩ := C
  refine pe_imp (pe_callG F G.room G.guards hg hm hk hb G.tk ha hd he hpl) fun sg H Q ⟨rho, fr, g, hl, hf, hw, h⟩ => ?_
  unfold ev at h
  refine (stepA hl hf hw h).mono ?_
  rintro us H2 ⟨rho2, g2, ds, e2, hf2, hw2, rds, h2⟩
  exact spD_of bad hw2 rds h2
theorem se_call0 {n np f : Nat} {x : Str} {p : Pos} (G : Gd X W n) (C : CallOk X.prog X.w X.K X.mg X.base n x np (cl f)) (hg : Gl X x)
    (hd : (x == ("__debug__" : Str)) = false) : SE X W gl cl (.Call (.Name x p) [] [] pos) (.call f .nil) := by
  obtain ⟨⟨fa, fd, ps, F, hm, hk, hb⟩, bad⟩ := C
  refine pe_imp (pe_callG0 F G.room G.guards hg hm hk hb G.tk hd) fun sg H Q ⟨rho, fr, g, hl, hf, hw, h⟩ => ?_
  unfold ev evs at h
  exact spD_of bad hw .nil h

variable {tg : Expr}
theorem yields_mut {K : PySem.W.Frag} {rho : List Addr} {H : Hp} {r : Nat} {a : Addr} {xs : List D} (ha : rho[r]? = some a) : Yields K rho H (xs.map .one, some (r, xs)) (Itl K a) := by
  intro rho' H' g e w st i
  obtain ⟨vs, h1, h2⟩ := w.getL (show getL g r = some xs from st) (pre_get e.pre ha)
  refine ⟨fun it hi => ?_, fun hi => ⟨vs, SqL.of h1, ?_⟩⟩
  · obtain ⟨d, hd, rfl⟩ := map_get hi
    obtain ⟨v, hv, rv⟩ := RelDs.get h2 hd
    refine ⟨⟨vs, v, SqL.of h1, hv⟩, ?_⟩
    rintro x H'' ⟨rfl, hx⟩
    refine ⟨Ext.refl _ _, w, .one ?_⟩
    have z := hx vs (SqL.of h1)
    rw [hv] at z
    cases z
    exact rv
  · have l := Paired.length h2
    have hi' : i = (xs.map Itm.one).length := hi
    rw [List.length_map] at hi'
    omega
theorem si_seq {e : Expr} {c : CE} (h : SE X W gl cl e c) : SI X W gl cl tg e (.seq c) where
  run := by
    intro pins s sg H R I hh
    refine (pi_any h).run pins s sg H R I ?_
    obtain ⟨rho, fr, g, hl, hf, hw, hh⟩ := hh
    unfold evi at hh
    refine (stepE hl hf hw hh).mono ?_
    rintro v H1 ⟨rho1, g1, d, e1, hf1, hw1, rd, h1⟩
    cases rd with
    | @ref r a ha =>
      have z : itemsV (.ref r) g1 = (getL g1 r).map fun ds => (ds, some (r, ds)) := rfl
      dsimp only at h1
      rw [z] at h1
      cases q : getL g1 r with
      | none => rw [q] at h1; exact (show False from h1).elim
      | some xs =>
        rw [q] at h1
        obtain ⟨vs, h3, _⟩ := hw1.getL q ha
        exact .inl ⟨a, vs, rfl, SqL.of h3, (show Pst X.K W sg (Yields X.K) rho1 H1 (.ok (xs.map .one, some (r, xs)) g1) R from h1).here hw1 (yields_mut ha)⟩
    | fn _ => exact (show False from h1).elim
    | dat rp => cases rp with
      | tup hq hs => exact .inr (.inl ⟨_, _, rfl, hq, (show Pst X.K W sg (Yields X.K) rho1 H1 (.ok _ g1) R from h1).here hw1 (yields_tup hw1.mut hq hs)⟩)
      | lst hq hs => exact .inl ⟨_, _, rfl, sqL_of hq, (show Pst X.K W sg (Yields X.K) rho1 H1 (.ok _ g1) R from h1).here hw1 (yields_lst hw1.mut hq hs)⟩
      | str z => exact .inr (.inr ⟨_, rfl, (show Pst X.K W sg (Yields X.K) rho1 H1 (.ok _ g1) R from h1).here hw1 yields_str⟩)
      | _ => exact (show False from h1).elim
theorem inB_of {j : Int} (h : inB j = true) : -(2 ^ 62) ≤ j ∧ j < 2 ^ 62 := of_decide_eq_true h
theorem pi_imp {e : Expr} {t t' : TI} (h : PI X tg e t) (i : ∀ sg H Q, t' sg H Q → t sg H Q) : PI X tg e t' := ⟨fun pins s sg H Q I q => h.run pins s sg H Q I (i sg H Q q)⟩
theorem int_of {K : PySem.W.Frag} {rho : List Addr} {H : Hp} {d : D} {v : V} {i : Int} (r : RelD K rho H d v) (h : intOf d = some i) : v = .int i := by
  cases r with
  | ref _ => cases h
  | fn _ => cases h
  | dat rp => cases rp with
    | int j => cases h; rfl
    | _ => cases h
theorem si_rng1 {a : Expr} {ca : CE} {p : Pos} (hg : Gl X "range") (hm : X.mg "range" = none) (ha : SE X W gl cl a ca) (hs : starEach [a] X.env = [(false, eval a X.env)]) : SI X W gl cl tg (.Call (.Name "range" p) [a] [] pos) (.rng1 ca) :=
  pi_imp (pi_range1 hg hm (pa_cons ha pa_nil (by rw [hs]; rfl)) hs) fun sg H R ⟨rho, fr, g, hl, hf, hw, hh⟩ => by
    unfold evi at hh
    refine (stepE hl hf hw hh).mono ?_
    rintro v H1 ⟨rho1, g1, d, e1, hf1, hw1, rd, h1⟩
    dsimp only at h1
    cases q : intOf d with
    | none => rw [q] at h1; exact (show False from h1).elim
    | some j =>
      rw [q] at h1
      dsimp only at h1
      split at h1
      · rename_i hj
        obtain ⟨z1, z2⟩ := inB_of hj
        exact ⟨j, by rw [int_of rd q], z1, z2, h1.here hw1 yields_rng⟩
      · exact (show False from h1).elim
theorem si_rng2 {a b : Expr} {ca cb : CE} {p : Pos} (hg : Gl X "range") (hm : X.mg "range" = none) (ha : SE X W gl cl a ca) (hb : SE X W gl cl b cb) (hs : starEach [a, b] X.env = [(false, eval a X.env), (false, eval b X.env)]) (hs2 : starEach [b] X.env = [(false, eval b X.env)]) :
    SI X W gl cl tg (.Call (.Name "range" p) [a, b] [] pos) (.rng2 ca cb) :=
  pi_imp (pi_range2 hg hm (pa_cons ha (pa_cons hb pa_nil (by rw [hs2]; rfl)) (by rw [hs, hs2])) hs hs2) fun sg H R ⟨rho, fr, g, hl, hf, hw, hh⟩ => by
    unfold evi at hh
    refine (stepE hl hf hw hh).mono ?_
    rintro v H1 ⟨rho1, g1, d, e1, hf1, hw1, rd, h1⟩
    refine (stepE hl hf1 hw1 h1).mono ?_
    rintro u H2 ⟨rho2, g2, e, e2, hf2, hw2, rd2, h2⟩
    dsimp only at h2
    cases q : intOf d with
    | none => rw [q] at h2; exact (show False from h2).elim
    | some i =>
      cases q2 : intOf e with
      | none => rw [q, q2] at h2; exact (show False from h2).elim
      | some j =>
        rw [q, q2] at h2
        dsimp only at h2
        split at h2
        · rename_i hj
          rw [Bool.and_eq_true] at hj
          obtain ⟨z1, z2⟩ := inB_of hj.1
          obtain ⟨z3, z4⟩ := inB_of hj.2
          exact ⟨i, j, by rw [int_of rd q, int_of rd2 q2], ⟨z1, z2, z3, z4⟩, h2.here hw2 yields_rng⟩
        · exact (show False from h2).elim
theorem si_enum {e : Expr} {c : CE} {p tpos : Pos} {elts : List Expr} {kk : Nat} (hg : Gl X "enumerate") (hm : X.mg "enumerate" = none) (h : SE X W gl cl e c) (hs : starEach [e] X.env = [(false, eval e X.env)]) : SI X W gl cl (.Tuple elts kk tpos) (.Call (.Name "enumerate" p) [e] [] pos) (.enum c) :=
  pi_imp (pi_enumA hg hm (pa_cons h pa_nil (by rw [hs]; rfl)) hs) fun sg H R ⟨rho, fr, g, hl, hf, hw, hh⟩ => by
    unfold evi at hh
    refine (stepE hl hf hw hh).mono ?_
    rintro v H1 ⟨rho1, g1, d, e1, hf1, hw1, rd, h1⟩
    refine ⟨v, rfl, ?_⟩
    cases rd with
    | ref _ => exact (show False from h1).elim
    | fn _ => exact (show False from h1).elim
    | dat rp => cases rp with
      | tup hq hs => exact .inr ⟨_, _, rfl, hq, (show Pst X.K W sg (Yields X.K) rho1 H1 (.ok _ g1) R from h1).here hw1 (yields_enumT hw1.mut hq hs)⟩
      | lst hq hs => exact .inl ⟨_, _, rfl, sqL_of hq, (show Pst X.K W sg (Yields X.K) rho1 H1 (.ok _ g1) R from h1).here hw1 (yields_enumL hw1.mut hq hs)⟩
      | _ => exact (show False from h1).elim
theorem si_zip {e e2 : Expr} {c c2 : CE} {p tpos : Pos} {elts : List Expr} {kk : Nat} (hg : Gl X "zip") (hm : X.mg "zip" = none) (h : SE X W gl cl e c) (h2 : SE X W gl cl e2 c2) (hs : starEach [e, e2] X.env = (false, eval e X.env) :: starEach [e2] X.env)
    (hs2 : starEach [e2] X.env = (false, eval e2 X.env) :: starEach [] X.env) (hpl : (backTo pos (starEach [e2] X.env)).any (·.1) = false) : SI X W gl cl (.Tuple elts kk tpos) (.Call (.Name "zip" p) [e, e2] [] pos) (.zip c c2) :=
  pi_imp (RZ.pi_zipA hg hm (pa_cons h (pa_cons h2 pa_nil hs2) hs) hs hpl) fun sg H R ⟨rho, fr, g, hl, hf, hw, hh⟩ => by
    unfold evi at hh
    refine (stepE hl hf hw hh).mono ?_
    rintro v H1 ⟨rho1, g1, d, e1, hf1, hw1, rd, h1⟩
    refine (stepE hl hf1 hw1 h1).mono ?_
    rintro u H2 ⟨rho2, g2, e, e2, hf2, hw2, rd2, h2⟩
    have rd := rd.ext hw1.mut e2
    dsimp only at h2
    cases q : zipI d e with
    | none => rw [q] at h2; exact (show False from h2).elim
    | some ps =>
      rw [q] at h2
      cases rd with
      | ref _ => cases q
      | fn _ => cases q
      | dat rp =>
      cases rd2 with
      | ref _ => cases rp <;> cases q
      | fn _ => cases rp <;> cases q
      | dat rq =>
      cases rp with
      | tup hq hs => cases rq with
        | tup hq2 hs2 =>
          cases q
          exact ⟨_, _, _, _, rfl, .inr ⟨hq, hq2, h2.here hw2 (yields_zipT hw2.mut hq hs hq2 hs2)⟩⟩
        | _ => cases q
      | lst hq hs => cases rq with
        | lst hq2 hs2 =>
          cases q
          exact ⟨_, _, _, _, rfl, .inl ⟨sqL_of hq, sqL_of hq2, h2.here hw2 (yields_zipL hw2.mut hq hs hq2 hs2)⟩⟩
        | _ => cases q
      | _ => cases rq <;> cases q
end
end Fw
end
set_option Elab.async false
set_option linter.all false
set_option maxRecDepth 100000
set_option maxHeartbeats 4000000
noncomputable section
namespace Fw
open PySem PySem.Spec PyProof.Rows L2

section
variable {K : PySem.W.Frag}
mutual
theorem RelP.less {r r2 : List Addr} {H : Hp} (s : ∀ a ∈ r, a ∈ r2) : ∀ {p : PyData} {v : V}, RelP K r2 H p v → RelP K r H p v
  | _, _, .non => .non
  | _, _, .bl b => .bl b
  | _, _, .int i => .int i
  | _, _, .str x => .str x
  | _, _, .tup h hs => .tup h (RelPs.less s hs)
  | _, _, .lst h hs => .lst (h.elim (fun z => .inl ⟨z.1, fun m => z.2 (s _ m)⟩) .inr) (RelPs.less s hs)
theorem RelPs.less {r r2 : List Addr} {H : Hp} (s : ∀ a ∈ r, a ∈ r2) : ∀ {p : List PyData} {v : List V}, RelPs K r2 H p v → RelPs K r H p v
  | _, _, .nil => .nil
  | _, _, .cons h hs => .cons (RelP.less s h) (RelPs.less s hs)
end
theorem RelD.less {r t : List Addr} {H : Hp} {d : D} {v : V} (h : RelD K (r ++ t) H d v) (b : belowD r.length d = true) : RelD K r H d v := by
  cases h with
  | dat h => exact .dat (RelP.less (fun a m => List.mem_append_left _ m) h)
  | fn h => exact .fn h
  | @ref n a ha =>
    have hn : n < r.length := of_decide_eq_true b
    rw [List.getElem?_append_left hn] at ha
    exact .ref ha
theorem RelDs.less {r t : List Addr} {H : Hp} : ∀ {d : List D} {v : List V}, RelDs K (r ++ t) H d v → d.all (belowD r.length) = true → RelDs K r H d v
  | _, _, .nil, _ => .nil
  | _, _, .cons h hs, b => by
    rw [List.all_cons, Bool.and_eq_true] at b
    exact .cons (h.less b.1) (RelDs.less hs b.2)
theorem RelO.less {r t : List Addr} {H : Hp} {a : Addr} {o : Ob} (h : RelO K (r ++ t) H a o) (b : belowO r.length o = true) : RelO K r H a o := by
  cases o with
  | lst xs =>
    obtain ⟨vs, h1, h2⟩ := h
    exact ⟨vs, h1, RelDs.less h2 b⟩
  | dct _ => exact h
  | ins _ _ => exact h
theorem Wf.less {r t : List Addr} {H : Hp} {g : Gh} (w : Wf K (r ++ t) H g) (b : (g.take r.length).all (belowO r.length) = true) : Wf K r H (g.take r.length) := by
  have hl := w.len
  rw [List.length_append] at hl
  refine ⟨by rw [List.length_take]; omega, (List.nodup_append.mp w.nd).1, fun n o a h1 h2 => ?_⟩
  have hn : n < r.length := (List.getElem?_eq_some_iff.mp h2).1
  have hm : o ∈ g.take r.length := List.mem_of_getElem? h1
  rw [List.getElem?_take_of_lt hn] at h1
  refine RelO.less (w.ob n o a h1 (by rw [List.getElem?_append_left hn]; exact h2)) ?_
  exact List.all_eq_true.mp b o hm
theorem Ext.less {r r1 t : List Addr} {H H1 : Hp} (e : Ext r H (r1 ++ t) H1) (p : r <+: r1) : Ext r H r1 H1 :=
  ⟨p, fun a o h i n => by
    obtain ⟨n1, h1⟩ := e.stay a o h i n
    exact ⟨fun z => n1 (List.mem_append_left _ z), h1⟩⟩
end

theorem Pst.still {α β : Type} {K : PySem.W.Frag} {W : WX} {sg sg2 : L2.St} {R : List Addr → Hp → α → β → Prop} {rho : List Addr} {H : Hp} {r : Rs α} {Q : β → Hp → Prop} (h : Pst K W sg R rho H r.still Q) : Pst K WF sg2 R rho H r Q := by
  cases r with
  | ok a g => exact h
  | exc x g => exact (show False from h).elim
  | bad => exact h

def LcQ (K : PySem.W.Frag) (rho1 : List Addr) (H1 : Hp) (D : Addr) (Q : VK) (r : Rs Unit) : Prop :=
  match r with
  | .ok _ g2 => ∀ rho2 H2, Ext rho1 H1 rho2 H2 → (rho1 ++ [D]) <+: rho2 → Wf K rho2 H2 g2 → Q (.ref D) H2
  | _ => False
theorem LcQ.bind {α β : Type} {K : PySem.W.Frag} {rho1 : List Addr} {H1 : Hp} {D : Addr} {Q : VK} {r : Rs α} {k : α → Gh → Rs Unit} {S : List Addr → Hp → α → β → Prop} {sg fr} {rho : List Addr} {H : Hp} {g : Gh} (hf : RelF K rho H fr sg) (hw : Wf K rho H g) (h : LcQ K rho1 H1 D Q (r.bind k)) :
    Pst K WF sg S rho H r fun v H2 => ∃ rho2 g2 a, Ext rho H rho2 H2 ∧ RelF K rho2 H2 fr sg ∧ Wf K rho2 H2 g2 ∧ S rho2 H2 a v ∧ LcQ K rho1 H1 D Q (k a g2) := by
  cases r with
  | ok a g2 => exact fun rho2 H2 v e w q => ⟨rho2, g2, a, e, hf.ext hw.mut e, w, q, h⟩
  | exc x g => exact (show False from h).elim
  | bad => exact (show False from h).elim
theorem lcQ_of {m : Bool} {K : PySem.W.Frag} {W : WX} {sg : L2.St} {rho1 : List Addr} {H1 : Hp} {g1 : Gh} {D : Addr} {Q : VK} {r : Rs Unit} (w1 : Wf K rho1 H1 g1) (h : Pst K W sg (RelD K) rho1 H1 (r.bind fun _ g2 => lcEnd m g1.length g2).still Q) : LcQ K rho1 H1 D Q r := by
  cases r with
  | exc x g => exact (show False from h).elim
  | bad => exact (show False from h).elim
  | ok _ g2 =>
    intro rho2 H2 e p w
    have h : Pst K W sg (RelD K) rho1 H1 (lcEnd m g1.length g2).still Q := h
    unfold lcEnd at h
    cases m with
    | true => exact (show Pst K W sg (RelD K) rho1 H1 (.ok (.ref g1.length) g2) Q from h) rho2 H2 (.ref D) e w (.ref (pre_get p (by rw [← w1.len]; simp)))
    | false =>
    rw [if_neg (by decide)] at h
    split at h
    · rename_i hc
      obtain ⟨hlen, hbel⟩ := hc
      have l1 := w1.len
      have l2 := w.len
      have hr : rho2 = rho1 ++ [D] := by
        obtain ⟨t, ht⟩ := p
        have : t.length = 0 := by
          have := congrArg List.length ht
          simp at this
          omega
        have ht0 : t = [] := List.length_eq_zero_iff.mp this
        subst ht0
        simpa using ht.symm
      subst hr
      cases q : getL g2 g1.length with
      | none => rw [q] at h; exact (show False from h).elim
      | some ds =>
        rw [q] at h
        dsimp only at h
        cases q2 : datsOf ds with
        | none => rw [q2] at h; exact (show False from h).elim
        | some ps =>
          rw [q2] at h
          obtain ⟨vs, h1, h2⟩ := w.getL q (a := D) (by rw [← l1]; simp)
          have rp := RelDs.dats h2 q2
          have nD : D ∉ rho1 := fun z => by
            have := (List.nodup_append.mp w.nd).2.2 D z D (by simp)
            exact this rfl
          rw [← l1] at hbel
          have hres : Pst K W sg (RelD K) rho1 H1 (.ok (.dat (.list ps)) (g2.take rho1.length)) Q := by rw [l1]; exact h
          exact hres rho1 H2 (.ref D) (e.less (List.prefix_refl _)) (w.less hbel) (.dat (.lst (.inl ⟨.inl h1, nD⟩) (RelPs.less (fun a m => List.mem_append_left _ m) rp)))
    · exact (show False from h).elim

section
variable {X : Cx} {W : WX} {gl : Str → Option PyData} {cl : Nat → List D → Gh → Rs D} {pos : Pos}
abbrev SC (X : Cx) (W : WX) (gl : Str → Option PyData) (cl : Nat → List D → Gh → Rs D) (ifs : List Expr) (c : CO) : Prop := PTs X ifs (tT X.K W (evc gl cl c))
theorem sc_no : SC X W gl cl [] .no := ⟨fun pins s sg H Q I ⟨rho, fr, g, hl, hf, hw, h⟩ => by
  unfold evc at h
  exact pts_nil.run pins s sg H Q I (h.here hw rfl)⟩
theorem sc_so {e : Expr} {c : CE} (h : ST X W gl cl e c) : SC X W gl cl [e] (.so c) := ⟨fun pins s sg H Q I ⟨rho, fr, g, hl, hf, hw, hh⟩ => by
  refine (pts_one h).run pins s sg H Q I ⟨rho, fr, g, hl, hf, hw, ?_⟩
  unfold evc at hh
  unfold evT
  cases q : ev gl cl c fr g with
  | bad => rw [q] at hh; exact hh
  | exc x g1 => rw [q] at hh; exact hh
  | ok x g1 =>
    rw [q, Rs.ok_bind] at hh
    rw [Rs.ok_bind]
    cases q2 : truV x g1 with
    | none => rw [q2] at hh; exact hh
    | some b => rw [q2] at hh; exact hh⟩
theorem put_ok {K : PySem.W.Frag} {rho1 rho : List Addr} {H1 H : Hp} {g1 g : Gh} {D : Addr} {Q : VK} {d : Fw.D} {y : V} {k : Unit → Gh → Rs Unit} (hw1 : Wf K rho1 H1 g1) (w : Wf K rho H g) (p : (rho1 ++ [D]) <+: rho) (rd : RelD K rho H d y)
    (h : LcQ K rho1 H1 D Q ((putL g1.length d g).bind k)) : ∃ vs g2, H D = some (.lst vs) ∧ vs.length < sizeLine ∧ Ext rho H rho (upd H D (.lst (vs ++ [y]))) ∧ Wf K rho (upd H D (.lst (vs ++ [y]))) g2 ∧ LcQ K rho1 H1 D Q (k () g2) := by
  unfold putL at h
  cases q : getL g g1.length with
  | none => rw [q] at h; exact (show False from h).elim
  | some ys =>
    rw [q] at h
    dsimp only at h
    have aD : rho[g1.length]? = some D := pre_get p (by rw [← hw1.len]; simp)
    obtain ⟨vs, hv1, hv2⟩ := w.getL q aD
    split at h
    · rename_i hz
      obtain ⟨e7, w7⟩ := w.change aD (RelDs.append hv2 (.cons rd .nil))
      exact ⟨vs, _, hv1, by rw [← Paired.length hv2, ← line_eq]; exact hz, e7, w7, h⟩
    · exact (show False from h).elim
theorem in_wp : ∀ (vs : List Nat) (s : L2.St), (∀ v ∈ vs, ∀ o, s[v]? = some o → o = none) → L2.wipe s vs = s := by
  intro vs
  induction vs with
  | nil => intro s _; rfl
  | cons v vs ih =>
    intro s hh
    unfold L2.wipe
    rw [ih s fun u hu => hh u (List.mem_cons_of_mem _ hu)]
    apply List.ext_getElem?
    intro j
    by_cases hj : v = j
    · subst hj
      by_cases hlt : v < s.length
      · rw [List.getElem?_set_self hlt]
        have := hh v (List.mem_cons_self) s[v] (List.getElem?_eq_getElem hlt)
        rw [List.getElem?_eq_getElem hlt, this]
      · rw [List.getElem?_eq_none (by rw [List.length_set]; omega), List.getElem?_eq_none (by omega)]
    · rw [List.getElem?_set_ne hj]
theorem wipe_again {t : Tg} {wp : List Nat} {sg tau : L2.St} (hs : ∀ i ∈ slots t, i ∈ wp) (so : SameOut (slots t) (L2.wipe sg wp) tau) : L2.wipe tau wp = L2.wipe sg wp := by
  rw [wipe_same so hs]
  refine in_wp wp _ fun v hv o ho => ?_
  cases o with
  | none => rfl
  | some x => exact absurd hv (L2.wipe_some ho).2
theorem lc_walk {K : PySem.W.Frag} {rho1 rho2 : List Addr} {H1 H2 : Hp} {g2 : Gh} {D : Addr} {Q : VK} {its : List Itm × Wt} {J : It} {step : Itm → Gh → Rs Unit} {k : Gh → Rs Unit} {fin : Hp → Prop}
    {turn : V → Hp → (Hp → Prop) → Prop} (ys : Yields K rho2 H2 its J) (e2 : Ext rho1 H1 rho2 H2) (p2 : (rho1 ++ [D]) <+: rho2) (rho3 : List Addr) (H3 : Hp) (e23 : Ext rho2 H2 rho3 H3) (w2 : Wf K rho3 H3 g2)
    (h : LcQ K rho1 H1 D Q ((lcGo step its.2 its.1 g2).bind fun _ g => k g))
    (stop : ∀ rho H g, Ext rho2 H2 rho H → Wf K rho H g → LcQ K rho1 H1 D Q (k g) → fin H)
    (tn : ∀ (it : Itm) (x : V) (rho : List Addr) (H : Hp) (g : Gh) (l : Gh → Rs Unit) (Nx : Hp → Prop), Ext rho2 H2 rho H → Wf K rho H g → RelI K rho H it x → LcQ K rho1 H1 D Q ((step it g).bind fun _ g1 => l g1) →
      (∀ rho' H' g', Ext rho H rho' H' → Wf K rho' H' g' → LcQ K rho1 H1 D Q (l g') → Nx H') → turn x H Nx) :
    ∃ W : Nat → Nat → Hp → Prop, (∃ m, W 0 m H3) ∧ ∀ i m H, W i m H → (J.stop i H ∧ fin H) ∨ (J.go i H ∧ ∃ Nx : Hp → Prop, (∀ H', Nx H' → ∃ m', m' < m ∧ W (i + 1) m' H') ∧ ∀ x H', J.yld i H x H' → turn x H' Nx) := by
  obtain ⟨its, wt⟩ := its
  dsimp only at h
  refine ⟨fun i m H => m = its.length - i ∧ i ≤ its.length ∧ ∃ rho g, Ext rho2 H2 rho H ∧ Wf K rho H g ∧ LcQ K rho1 H1 D Q ((lcGo step wt (its.drop i) g).bind fun _ g => k g), ⟨its.length, by simp, Nat.zero_le _, rho3, g2, e23, w2, by rw [List.drop_zero]; exact h⟩, ?_⟩
  rintro i m H ⟨rfl, hi, rho, g, e, w, hq⟩
  by_cases st : stillL wt g
  · have y := ys rho H g e w st i
    cases hit : its[i]? with
    | none =>
      have hge := List.getElem?_eq_none_iff.mp hit
      rw [List.drop_eq_nil_of_le hge] at hq
      unfold lcGo at hq
      rw [if_pos st] at hq
      exact .inl ⟨y.2 (show i = its.length by omega), stop rho H g e w hq⟩
    | some it =>
      have hlt : i < its.length := (List.getElem?_eq_some_iff.mp hit).1
      obtain ⟨go, yl⟩ := y.1 it hit
      refine .inr ⟨go, fun H' => i + 1 ≤ its.length ∧ ∃ rho g, Ext rho2 H2 rho H' ∧ Wf K rho H' g ∧ LcQ K rho1 H1 D Q ((lcGo step wt (its.drop (i + 1)) g).bind fun _ g => k g), fun H' z => ⟨its.length - (i + 1), by omega, rfl, z⟩, fun x H4 hy => ?_⟩
      obtain ⟨e4, w4, ri⟩ := yl x H4 hy
      rw [List.drop_eq_getElem_cons hlt, (List.getElem?_eq_some_iff.mp hit).2] at hq
      unfold lcGo at hq
      rw [if_pos st, Rs.bind_assoc] at hq
      exact tn it x rho H4 g (fun g1 => (lcGo step wt (its.drop (i + 1)) g1).bind fun _ g => k g) _ (e.trans e4) w4 ri hq fun rho' H' g' e' w' q' => ⟨hlt, rho', g', (e.trans e4).trans e', w', q'⟩
  · have bad : lcGo step wt (its.drop i) g = .bad := by
      cases its.drop i with
      | nil => unfold lcGo; rw [if_neg st]
      | cons x xs => unfold lcGo; rw [if_neg st]
    rw [bad] at hq
    exact hq.elim
theorem lcQ_unit {K : PySem.W.Frag} {rho1 : List Addr} {H1 : Hp} {D : Addr} {Q : VK} {r : Rs Unit} (h : LcQ K rho1 H1 D Q r) : LcQ K rho1 H1 D Q (r.bind fun _ g => Rs.ok () g) := by
  cases r <;> exact h
theorem lcQ_unit' {K : PySem.W.Frag} {rho1 : List Addr} {H1 : Hp} {D : Addr} {Q : VK} {r : Rs Unit} (h : LcQ K rho1 H1 D Q (r.bind fun _ g => Rs.ok () g)) : LcQ K rho1 H1 D Q r := by
  cases r <;> exact h
theorem tLc_of {m : Bool} {t : Tg} {s : CI} {wp : List Nat} {c : CO} {e : CE} {sg : L2.St} {H : Hp} {Q : VK} (hs : ∀ i ∈ slots t, i ∈ wp) (h : tE X.K W (ev gl cl (.lc m t s wp c e)) sg H Q) :
    tLc (tI X.K W (evi gl cl s)) (gI X.K t) (tT X.K WF (evc gl cl c)) (tE X.K WF (ev gl cl e)) wp sg H Q := by
  obtain ⟨rho, fr, g, hl, hf, hw, h⟩ := h
  unfold ev at h
  refine ⟨rho, fr, g, hl, hf, hw, ?_⟩
  refine Pst.mono (Pst.bind (S := Yields X.K) hf hw h) ?_
  rintro J H1 ⟨rho1, g1, its, e1, hf1, hw1, ys, h1⟩ D hD
  have h2 := lcQ_unit (lcQ_of (D := D) hw1 h1)
  obtain ⟨e2, w2⟩ := hw1.alloc_mut hD (xs := []) (vs := []) .nil
  have ys2 : Yields X.K (rho1 ++ [D]) (upd H1 D (.lst [])) its J := fun rho' H' g e w st i => ys rho' H' g (e2.trans e) w st i
  refine lc_walk (turn := fun x H' Nx => gI X.K t x (L2.wipe sg wp) H' fun σ2 H2 => L2.wipe σ2 wp = L2.wipe sg wp ∧ tT X.K WF (evc gl cl c) σ2 H2 fun b H3 =>
    if b = true then tE X.K WF (ev gl cl e) σ2 H3 fun y H4 => ∃ acc, H4 D = some (.lst acc) ∧ acc.length < sizeLine ∧ Nx (upd H4 D (.lst (acc ++ [y]))) else Nx H3)
    ys2 e2 (List.prefix_refl _) _ _ (Ext.refl _ _) w2 h2 (fun rho3 H3 g3 e3 w3 q3 => q3 rho3 H3 (e2.trans e3) e3.pre w3) ?_
  intro it x rho3 H3 g3 l Nx e3 w3 ri hq next
  cases q : setI t it (wipeF fr wp) with
  | none => rw [q] at hq; exact (show False from hq).elim
  | some fr2 =>
    rw [q] at hq
    dsimp only at hq
    rw [Rs.bind_assoc] at hq
    have e13 := e2.trans e3
    refine ⟨rho3, wipeF fr wp, it, fr2, by rw [wipeF_length, L2.wipe_length]; exact hl, (hf1.ext hw1.mut e13).wipe wp, ri, q, fun tau lt hft so => ⟨wipe_again hs so, rho3, fr2, g3, lt, hft, w3, ?_⟩⟩
    refine Pst.mono (LcQ.bind (S := fun _ _ a b => a = b) hft w3 hq) ?_
    rintro b H5 ⟨rho5, g5, b', e5, hf5, w5, rb, h5⟩
    subst rb
    cases b' with
    | false => exact next rho5 H5 g5 e5 w5 h5
    | true =>
      rw [if_pos rfl]
      dsimp only at h5
      rw [Rs.bind_assoc] at h5
      refine ⟨rho5, fr2, g5, lt, hf5, w5, ?_⟩
      refine Pst.mono (LcQ.bind (S := RelD X.K) hf5 w5 h5) ?_
      rintro yv H6 ⟨rho6, g6, d, e6, hf6, w6, rd, h6⟩
      obtain ⟨vs, g7, z1, z2, e7, w7, h7⟩ := put_ok hw1 w6 ((e3.trans e5).trans e6).pre rd h6
      exact ⟨vs, z1, z2, next rho6 _ g7 ((e5.trans e6).trans e7) w7 h7⟩
theorem tLc2_of {m : Bool} {t t2 : Tg} {s s2 : CI} {wp wp2 : List Nat} {c c2 : CO} {e : CE} {sg : L2.St} {H : Hp} {Q : VK} (hs : ∀ i ∈ slots t, i ∈ wp) (hs2 : ∀ i ∈ slots t2, i ∈ wp2) (h : tE X.K W (ev gl cl (.lc2 m t s c t2 s2 c2 wp wp2 e)) sg H Q) :
    tLc2 (tI X.K W (evi gl cl s)) (gI X.K t) (tT X.K WF (evc gl cl c)) (tI X.K WF (evi gl cl s2)) (gI X.K t2) (tT X.K WF (evc gl cl c2)) (tE X.K WF (ev gl cl e)) wp wp2 sg H Q := by
  obtain ⟨rho, fr, g, hl, hf, hw, h⟩ := h
  unfold ev at h
  refine ⟨rho, fr, g, hl, hf, hw, ?_⟩
  refine Pst.mono (Pst.bind (S := Yields X.K) hf hw h) ?_
  rintro J H1 ⟨rho1, g1, its, e1, hf1, hw1, ys, h1⟩ D hD
  have h2 := lcQ_unit (lcQ_of (D := D) hw1 h1)
  obtain ⟨e2, w2⟩ := hw1.alloc_mut hD (xs := []) (vs := []) .nil
  have ys2 : Yields X.K (rho1 ++ [D]) (upd H1 D (.lst [])) its J := fun rho' H' g e w st i => ys rho' H' g (e2.trans e) w st i
  refine lc_walk (turn := fun x H' Nx => gI X.K t x (L2.wipe sg wp) H' fun σ2 H2 => L2.wipe σ2 wp = L2.wipe sg wp ∧ tT X.K WF (evc gl cl c) σ2 H2 fun b H3 =>
    if b = true then tI X.K WF (evi gl cl s2) σ2 H3 fun J1 H4 => ∃ W1 : Nat → Nat → Hp → Prop, (∃ m, W1 0 m H4) ∧ ∀ j k H, W1 j k H →
      (J1.stop j H ∧ Nx H) ∨ (J1.go j H ∧ ∃ Nx1 : Hp → Prop, (∀ H', Nx1 H' → ∃ k', k' < k ∧ W1 (j + 1) k' H') ∧ ∀ x H', J1.yld j H x H' → gI X.K t2 x (L2.wipe σ2 wp2) H' fun σ3 H5 => L2.wipe σ3 wp2 = L2.wipe σ2 wp2 ∧ tT X.K WF (evc gl cl c2) σ3 H5 fun b H6 =>
        if b = true then tE X.K WF (ev gl cl e) σ3 H6 fun y H7 => ∃ acc, H7 D = some (.lst acc) ∧ acc.length < sizeLine ∧ Nx1 (upd H7 D (.lst (acc ++ [y]))) else Nx1 H6)
    else Nx H3)
    ys2 e2 (List.prefix_refl _) _ _ (Ext.refl _ _) w2 h2 (fun rho3 H3 g3 e3 w3 q3 => q3 rho3 H3 (e2.trans e3) e3.pre w3) ?_
  intro it x rho3 H3 g3 l Nx e3 w3 ri hq next
  cases q : setI t it (wipeF fr wp) with
  | none => rw [q] at hq; exact (show False from hq).elim
  | some fr2 =>
    rw [q] at hq
    dsimp only at hq
    rw [Rs.bind_assoc] at hq
    have e13 := e2.trans e3
    refine ⟨rho3, wipeF fr wp, it, fr2, by rw [wipeF_length, L2.wipe_length]; exact hl, (hf1.ext hw1.mut e13).wipe wp, ri, q, fun tau lt hft so => ⟨wipe_again hs so, rho3, fr2, g3, lt, hft, w3, ?_⟩⟩
    refine Pst.mono (LcQ.bind (S := fun _ _ a b => a = b) hft w3 hq) ?_
    rintro b H5 ⟨rho5, g5, b', e5, hf5, w5, rb, h5⟩
    subst rb
    cases b' with
    | false => exact next rho5 H5 g5 e5 w5 h5
    | true =>
      rw [if_pos rfl]
      dsimp only at h5
      rw [Rs.bind_assoc] at h5
      refine ⟨rho5, fr2, g5, lt, hf5, w5, ?_⟩
      refine Pst.mono (LcQ.bind (S := Yields X.K) hf5 w5 h5) ?_
      rintro J1 H6 ⟨rho6, g6, its2, e6, hf6, w6, ys6, h6⟩
      have e16 := (e13.trans e5).trans e6
      have p6 : (rho1 ++ [D]) <+: rho6 := ((e3.trans e5).trans e6).pre
      refine lc_walk (turn := fun x H' Nx1 => gI X.K t2 x (L2.wipe tau wp2) H' fun σ3 H5 => L2.wipe σ3 wp2 = L2.wipe tau wp2 ∧ tT X.K WF (evc gl cl c2) σ3 H5 fun b H6 =>
        if b = true then tE X.K WF (ev gl cl e) σ3 H6 fun y H7 => ∃ acc, H7 D = some (.lst acc) ∧ acc.length < sizeLine ∧ Nx1 (upd H7 D (.lst (acc ++ [y]))) else Nx1 H6)
        ys6 e16 p6 _ _ (Ext.refl _ _) w6 h6 (fun rho7 H7 g7 e7 w7 q7 => next rho7 H7 g7 ((e5.trans e6).trans e7) w7 q7) ?_
      intro it2 x2 rho7 H7 g7 l2 Nx2 e7 w7 ri2 hq2 next2
      cases q2 : setI t2 it2 (wipeF fr2 wp2) with
      | none => rw [q2] at hq2; exact (show False from hq2).elim
      | some fr3 =>
        rw [q2] at hq2
        dsimp only at hq2
        rw [Rs.bind_assoc] at hq2
        refine ⟨rho7, wipeF fr2 wp2, it2, fr3, by rw [wipeF_length, L2.wipe_length]; exact lt, (hf6.ext w6.mut e7).wipe wp2, ri2, q2, fun tau2 lt2 hft2 so2 => ⟨wipe_again hs2 so2, rho7, fr3, g7, lt2, hft2, w7, ?_⟩⟩
        refine Pst.mono (LcQ.bind (S := fun _ _ a b => a = b) hft2 w7 hq2) ?_
        rintro b8 H8 ⟨rho8, g8, b', e8, hf8, w8, rb, h8⟩
        subst rb
        cases b' with
        | false => exact next2 rho8 H8 g8 e8 w8 h8
        | true =>
          rw [if_pos rfl]
          dsimp only at h8
          rw [Rs.bind_assoc] at h8
          refine ⟨rho8, fr3, g8, lt2, hf8, w8, ?_⟩
          refine Pst.mono (LcQ.bind (S := RelD X.K) hf8 w8 h8) ?_
          rintro yv H9 ⟨rho9, g9, d, e9, hf9, w9, rd, h9⟩
          obtain ⟨vs, ga, z1, z2, ea, wa, ha⟩ := put_ok hw1 w9 (p6.trans ((e7.trans e8).trans e9).pre) rd h9
          exact ⟨vs, z1, z2, next2 rho9 _ ga ((e8.trans e9).trans ea) wa ha⟩
theorem se_lc {m : Bool} {n : Nat} {elt tg iter : Expr} {ifs : List Expr} {sco : Scope} {own : List (Str × Nat)} {t : Tg} {ci : CI} {cc : CO} {c : CE} {wp : List Nat} (G : Gd X W n) (hi : SI X W gl cl tg iter ci) (ok : blkC X.N X.env.scope sco own = true) (hwp : own.map (·.2) = wp) (hsl : (slots t).all (fun i => decide (i ∈ wp)) = true)
    (hg : ∀ (s : Shared) (H : Hp) (C : Addr) (cl' : List (Str × Addr)) (fp : List Addr), PG (X.blk s H sco (compEnvC sco cl' C X.env) fp) tg (gI X.K t))
    (ht : ∀ (s : Shared) (H : Hp) (C : Addr) (cl' : List (Str × Addr)) (fp : List Addr), Gd (X.blk s H sco (compEnvC sco cl' C X.env) fp) WF n → SC (X.blk s H sco (compEnvC sco cl' C X.env) fp) WF gl cl ifs cc)
    (he : ∀ (s : Shared) (H : Hp) (C : Addr) (cl' : List (Str × Addr)) (fp : List Addr), Gd (X.blk s H sco (compEnvC sco cl' C X.env) fp) WF n → SE (X.blk s H sco (compEnvC sco cl' C X.env) fp) WF gl cl elt c)
    (hs : ∀ x, foldedSetIterable iter X.env x = pure x) : SE X W gl cl (.ListComp elt [⟨tg, iter, ifs, 0⟩] sco pos) (.lc m t ci wp cc c) := by
  subst hwp
  refine pe_imp (pe_lc (g := gI X.K t) (tt := tT X.K WF (evc gl cl cc)) (te := tE X.K WF (ev gl cl c)) G.calm G.hN hi (blkOk_by ok) hg (fun s H C cl' fp => ht s H C cl' fp (G.blk ..)) (fun s H C cl' fp => he s H C cl' fp (G.blk ..)) hs) fun sg H Q h => ?_
  exact tLc_of (fun i hm => of_decide_eq_true (List.all_eq_true.mp hsl i hm)) h
theorem se_lc2 {m : Bool} {n : Nat} {elt tg iter tg2 iter2 : Expr} {ifs ifs2 : List Expr} {sco : Scope} {own : List (Str × Nat)} {t t2 : Tg} {ci ci2 : CI} {cc cc2 : CO} {c : CE} {wp wp2 : List Nat} (G : Gd X W n) (hi : SI X W gl cl tg iter ci) (ok : blkC X.N X.env.scope sco own = true) (hwp : own.map (·.2) = wp) (hsl : (slots t).all (fun i => decide (i ∈ wp)) = true)
    (hv : (wp2.all fun i => decide (i ∈ wp)) = true) (hsl2 : (slots t2).all (fun i => decide (i ∈ wp2)) = true)
    (hg : ∀ (s : Shared) (H : Hp) (C : Addr) (cl' : List (Str × Addr)) (fp : List Addr), PG (X.blk s H sco (compEnvC sco cl' C X.env) fp) tg (gI X.K t))
    (ht : ∀ (s : Shared) (H : Hp) (C : Addr) (cl' : List (Str × Addr)) (fp : List Addr), Gd (X.blk s H sco (compEnvC sco cl' C X.env) fp) WF n → SC (X.blk s H sco (compEnvC sco cl' C X.env) fp) WF gl cl ifs cc)
    (hi2 : ∀ (s : Shared) (H : Hp) (C : Addr) (cl' : List (Str × Addr)) (fp : List Addr), Gd (X.blk s H sco (compEnvC sco cl' C X.env) fp) WF n → SI (X.blk s H sco (compEnvC sco cl' C X.env) fp) WF gl cl tg2 iter2 ci2)
    (hg2 : ∀ (s : Shared) (H : Hp) (C : Addr) (cl' : List (Str × Addr)) (fp : List Addr), PG (X.blk s H sco (compEnvC sco cl' C X.env) fp) tg2 (gI X.K t2))
    (ht2 : ∀ (s : Shared) (H : Hp) (C : Addr) (cl' : List (Str × Addr)) (fp : List Addr), Gd (X.blk s H sco (compEnvC sco cl' C X.env) fp) WF n → SC (X.blk s H sco (compEnvC sco cl' C X.env) fp) WF gl cl ifs2 cc2)
    (he : ∀ (s : Shared) (H : Hp) (C : Addr) (cl' : List (Str × Addr)) (fp : List Addr), Gd (X.blk s H sco (compEnvC sco cl' C X.env) fp) WF n → SE (X.blk s H sco (compEnvC sco cl' C X.env) fp) WF gl cl elt c)
    (hs : ∀ x, foldedSetIterable iter X.env x = pure x) (hs2 : ∀ env x, foldedSetIterable iter2 env x = pure x) : SE X W gl cl (.ListComp elt [⟨tg, iter, ifs, 0⟩, ⟨tg2, iter2, ifs2, 0⟩] sco pos) (.lc2 m t ci cc t2 ci2 cc2 wp wp2 c) := by
  subst hwp
  refine pe_imp (pe_lc2 (g := gI X.K t) (g1 := gI X.K t2) (tt := tT X.K WF (evc gl cl cc)) (tt1 := tT X.K WF (evc gl cl cc2)) (wi1 := tI X.K WF (evi gl cl ci2)) (te := tE X.K WF (ev gl cl c)) G.calm G.hN hi (blkOk_by ok) (fun i hm => of_decide_eq_true (List.all_eq_true.mp hv i hm)) hg
    (fun s H C cl' fp => ht s H C cl' fp (G.blk ..)) (fun s H C cl' fp => hi2 s H C cl' fp (G.blk ..)) hg2 (fun s H C cl' fp => ht2 s H C cl' fp (G.blk ..)) (fun s H C cl' fp => he s H C cl' fp (G.blk ..)) hs hs2) fun sg H Q h => ?_
  exact tLc2_of (fun i hm => of_decide_eq_true (List.all_eq_true.mp hsl i hm)) (fun i hm => of_decide_eq_true (List.all_eq_true.mp hsl2 i hm)) h
theorem se_mlist {n : Nat} {e : Expr} {c : CE} {p : Pos} (G : Gd X W n) (hg : Gl X "list") (hm : X.mg "list" = none) (ha : SE X W gl cl e c)
    (he : starEach [e] X.env = (false, eval e X.env) :: starEach [] X.env) (hpl : (backTo pos (starEach [] X.env)).any (·.1) = false) : SE X W gl cl (.Call (.Name "list" p) [e] [] pos) (.mlist c) :=
  pe_imp (pe_callTy call_list_of hg hm PyProof.Rows.Boot.«list» (pa_cons ha pa_nil he) (by decide) (by decide) he hpl) fun sg H Q ⟨rho, fr, g, hl, hf, hw, h⟩ => by
    unfold ev at h
    refine (stepE hl hf hw h).mono ?_
    rintro v H1 ⟨rho1, g1, d, e1, hf1, hw1, rd, h1⟩
    dsimp only at h1
    cases q : viaL g1 d with
    | none => rw [q] at h1; exact (show False from h1).elim
    | some p =>
      rw [q] at h1
      have fin : ∀ {a : Addr} {ps : List PyData} {vs : List V}, RelPs X.K rho1 H1 ps vs → Pst X.K W sg (RelD X.K) rho1 H1 (.ok (.ref g1.length) (g1 ++ [.lst (ps.map .dat)])) Q → ∀ l, H1 l = none → Q (.ref l) (upd H1 l (.lst vs)) := by
        intro a ps vs r hh l hl'
        obtain ⟨e3, w3⟩ := hw1.alloc_mut hl' r.toDs
        refine hh _ _ _ e3 w3 (.ref ?_)
        rw [← hw1.len]
        simp
      cases p with
      | tuple ps =>
        obtain ⟨a, vs, rfl, hq, hs⟩ := viaL_tup hw1 rd q
        exact ⟨a, vs, rfl, .inr hq, fin (a := a) hs h1⟩
      | list ps =>
        obtain ⟨a, vs, rfl, hq, hs⟩ := viaL_lst hw1 rd q
        exact ⟨a, vs, rfl, .inl hq, fin (a := a) hs h1⟩
      | _ => exact (show False from h1).elim
end
end Fw
end
set_option Elab.async false
set_option linter.all false
set_option maxRecDepth 100000
set_option maxHeartbeats 4000000
noncomputable section
namespace Fw
open PySem PySem.Spec PyProof.Rows L2

def PstS (K : PySem.W.Frag) (W : WX) (Dn : Ends) (rho : List Addr) (H : Hp) (r : Rs Fl) : Prop :=
  match r with
  | .ok (.nx fr) g => ∀ rho' H' tau, Ext rho H rho' H' → Wf K rho' H' g → fr.length = tau.length → RelF K rho' H' fr tau → Dn.nx tau H'
  | .ok (.bk fr) g => ∀ rho' H' tau, Ext rho H rho' H' → Wf K rho' H' g → fr.length = tau.length → RelF K rho' H' fr tau → Dn.bk tau H'
  | .ok (.ct fr) g => ∀ rho' H' tau, Ext rho H rho' H' → Wf K rho' H' g → fr.length = tau.length → RelF K rho' H' fr tau → Dn.ct tau H'
  | .ok (.rt d) g => ∀ rho' H' v, Ext rho H rho' H' → Wf K rho' H' g → RelD K rho' H' d v → Dn.rt v H'
  | .exc x g => ∀ rho' H' cls d tau, Ext rho H rho' H' → Wf K rho' H' g → RelX K rho' H' x cls d → W cls d tau H'
  | .bad => False
def tS (K : PySem.W.Frag) (W : WX) (f : Fr → Gh → Rs Fl) : TS := fun Dn sg H =>
  ∃ rho fr g, fr.length = sg.length ∧ RelF K rho H fr sg ∧ Wf K rho H g ∧ PstS K W Dn rho H (f fr g)
section
variable {K : PySem.W.Frag} {W : WX} {Dn : Ends} {rho rho1 : List Addr} {H H1 : Hp} {r : Rs Fl}
theorem PstS.ext (h : PstS K W Dn rho H r) (e : Ext rho H rho1 H1) : PstS K W Dn rho1 H1 r := by
  cases r with
  | ok f g => cases f with
    | nx fr => exact fun r2 H2 tau e2 => h r2 H2 tau (e.trans e2)
    | bk fr => exact fun r2 H2 tau e2 => h r2 H2 tau (e.trans e2)
    | ct fr => exact fun r2 H2 tau e2 => h r2 H2 tau (e.trans e2)
    | rt d => exact fun r2 H2 tau e2 => h r2 H2 tau (e.trans e2)
  | exc x g => exact fun r2 H2 c d tau e2 => h r2 H2 c d tau (e.trans e2)
  | bad => exact h
def AftS {α β : Type} (K : PySem.W.Frag) (W : WX) (S : List Addr → Hp → α → β → Prop) (rho : List Addr) (H : Hp) (fr : Fr) (sg : L2.St) (k : α → Gh → Rs Fl) (Dn : Ends) (v : β) (H1 : Hp) : Prop :=
  ∃ rho1 g1 a, Ext rho H rho1 H1 ∧ RelF K rho1 H1 fr sg ∧ Wf K rho1 H1 g1 ∧ S rho1 H1 a v ∧ PstS K W Dn rho1 H1 (k a g1)
theorem PstS.bind {α β : Type} {S : List Addr → Hp → α → β → Prop} {r : Rs α} {k : α → Gh → Rs Fl} {fr : Fr} {sg : L2.St} {g : Gh} (hf : RelF K rho H fr sg) (hw : Wf K rho H g) (h : PstS K W Dn rho H (r.bind k)) :
    Pst K W sg S rho H r (AftS K W S rho H fr sg k Dn) := by
  cases r with
  | ok a g1 => exact fun r2 H2 v e w q => ⟨r2, g1, a, e, hf.ext hw.mut e, w, q, PstS.ext h e⟩
  | exc x g1 => exact fun r2 H2 c d e w q => h r2 H2 c d sg e w q
  | bad => exact h
variable {fr : Fr} {sg : L2.St} {g : Gh}
theorem sstE {f : Fr → Gh → Rs D} {k : D → Gh → Rs Fl} (hl : fr.length = sg.length) (hf : RelF K rho H fr sg) (hw : Wf K rho H g) (h : PstS K W Dn rho H ((f fr g).bind k)) :
    tE K W f sg H (AftS K W (RelD K) rho H fr sg k Dn) := ⟨rho, fr, g, hl, hf, hw, PstS.bind hf hw h⟩
theorem sstT {f : Fr → Gh → Rs Bool} {k : Bool → Gh → Rs Fl} (hl : fr.length = sg.length) (hf : RelF K rho H fr sg) (hw : Wf K rho H g) (h : PstS K W Dn rho H ((f fr g).bind k)) :
    tT K W f sg H (AftS K W (fun _ _ a b => a = b) rho H fr sg k Dn) := ⟨rho, fr, g, hl, hf, hw, PstS.bind hf hw h⟩
theorem nx_here {fr : Fr} {tau : L2.St} (h : PstS K W Dn rho H (.ok (.nx fr) g)) (hl : fr.length = tau.length) (hf : RelF K rho H fr tau) (hw : Wf K rho H g) : Dn.nx tau H := h rho H tau (Ext.refl _ _) hw hl hf
end
section
variable {X : Cx}
theorem ps_imp {st : Stmt} {t t' : TS} (h : PS X st t) (i : ∀ Dn sg H, t' Dn sg H → t Dn sg H) : PS X st t' := ⟨fun pins s sg H Dn I q => h.run pins s sg H Dn I (i Dn sg H q)⟩
theorem pss_imp {st : List Stmt} {t t' : TS} (h : PSs X st t) (i : ∀ Dn sg H, t' Dn sg H → t Dn sg H) : PSs X st t' := ⟨fun pins s sg H Dn I q => h.run pins s sg H Dn I (i Dn sg H q)⟩
variable {W : WX} {gl : Str → Option PyData} {cl : Nat → List D → Gh → Rs D} {wf : Nat} {pos : Pos}
abbrev SS (X : Cx) (W : WX) (gl : Str → Option PyData) (cl : Nat → List D → Gh → Rs D) (wf : Nat) (st : Stmt) (c : CS) : Prop := PS X st (tS X.K W (ex gl cl wf c))
abbrev SSs (X : Cx) (W : WX) (gl : Str → Option PyData) (cl : Nat → List D → Gh → Rs D) (wf : Nat) (st : List Stmt) (c : CSs) : Prop := PSs X st (tS X.K W (exs gl cl wf c))
theorem sss_nil : SSs X W gl cl wf [] .nil := pss_imp pss_nil fun Dn sg H ⟨rho, fr, g, hl, hf, hw, h⟩ => by
  unfold exs at h
  exact nx_here h hl hf hw
theorem sss_cons {st : Stmt} {sts : List Stmt} {c : CS} {cs : CSs} (h1 : SS X W gl cl wf st c) (h2 : SSs X W gl cl wf sts cs) : SSs X W gl cl wf (st :: sts) (.cons c cs) :=
  pss_imp (pss_cons h1 h2) fun Dn sg H ⟨rho, fr, g, hl, hf, hw, h⟩ => by
    unfold exs at h
    refine ⟨rho, fr, g, hl, hf, hw, ?_⟩
    revert h
    cases ex gl cl wf c fr g with
    | bad => exact id
    | exc x g1 => exact id
    | ok f g1 => cases f with
      | nx fr1 => exact fun h rho' H' tau e w l f => ⟨rho', fr1, g1, l, f, w, PstS.ext h e⟩
      | bk fr1 => exact id
      | ct fr1 => exact id
      | rt d => exact id
theorem ss_expr {e : Expr} {c : CE} (h : SE X W gl cl e c) (hs : swapsWith e none pos.line X.env = pure false) : SS X W gl cl wf (.Expr e pos) (.expr c) :=
  ps_imp (ps_expr h hs) fun Dn sg H ⟨rho, fr, g, hl, hf, hw, hh⟩ => by
    unfold ex at hh
    refine (sstE hl hf hw hh).mono ?_
    rintro v H1 ⟨rho1, g1, d, e1, hf1, hw1, rd, h1⟩
    exact nx_here h1 hl hf1 hw1
theorem ss_doc {x j pos'} : SS X W gl cl wf (.Expr (.Constant (.str x) j pos) pos') .pass :=
  ps_imp ps_doc fun Dn sg H ⟨rho, fr, g, hl, hf, hw, hh⟩ => by
    unfold ex at hh
    exact nx_here hh hl hf hw
theorem ss_pass : SS X W gl cl wf (.Pass pos) .pass :=
  ps_imp ps_pass fun Dn sg H ⟨rho, fr, g, hl, hf, hw, hh⟩ => by
    unfold ex at hh
    exact nx_here hh hl hf hw
theorem ss_brk : SS X W gl cl wf (.Break pos) .brk :=
  ps_imp ps_break fun Dn sg H ⟨rho, fr, g, hl, hf, hw, hh⟩ => by
    unfold ex at hh
    exact (show PstS X.K W Dn rho H (.ok (.bk fr) g) from hh) rho H sg (Ext.refl _ _) hw hl hf
theorem ss_cnt : SS X W gl cl wf (.Continue pos) .cnt :=
  ps_imp ps_continue fun Dn sg H ⟨rho, fr, g, hl, hf, hw, hh⟩ => by
    unfold ex at hh
    exact (show PstS X.K W Dn rho H (.ok (.ct fr) g) from hh) rho H sg (Ext.refl _ _) hw hl hf
theorem ss_ret {e : Expr} {c : CE} (h : SE X W gl cl e c) : SS X W gl cl wf (.Return (some e) pos) (.ret c) :=
  ps_imp (ps_ret h) fun Dn sg H ⟨rho, fr, g, hl, hf, hw, hh⟩ => by
    unfold ex at hh
    refine (sstE hl hf hw hh).mono ?_
    rintro v H1 ⟨rho1, g1, d, e1, hf1, hw1, rd, h1⟩
    exact (show PstS X.K W Dn rho1 H1 (.ok (.rt d) g1) from h1) rho1 H1 v (Ext.refl _ _) hw1 rd
theorem ss_retN : SS X W gl cl wf (.Return none pos) .retN :=
  ps_imp ps_retN fun Dn sg H ⟨rho, fr, g, hl, hf, hw, hh⟩ => by
    unfold ex at hh
    exact (show PstS X.K W Dn rho H (.ok (.rt (.dat .none)) g) from hh) rho H _ (Ext.refl _ _) hw (.dat .non)
theorem ss_if {e : Expr} {a b : List Stmt} {c : CE} {ca cb : CSs} (h : ST X W gl cl e c) (ha : SSs X W gl cl wf a ca) (hb : SSs X W gl cl wf b cb) : SS X W gl cl wf (.If e a b pos) (.ife c ca cb) :=
  ps_imp (ps_if h ha hb) fun Dn sg H ⟨rho, fr, g, hl, hf, hw, hh⟩ => by
    have h2 : PstS X.K W Dn rho H ((evT gl cl c fr g).bind fun t g1 => if t = true then exs gl cl wf ca fr g1 else exs gl cl wf cb fr g1) := by
      unfold evT
      unfold ex at hh
      rw [Rs.bind_assoc]
      cases q : ev gl cl c fr g with
      | bad => rw [q] at hh; exact hh
      | exc _ _ => rw [q] at hh; exact hh
      | ok x g1 =>
        rw [q, Rs.ok_bind] at hh
        rw [Rs.ok_bind]
        cases q2 : truV x g1 with
        | none => rw [q2] at hh; exact (show False from hh).elim
        | some b => rw [q2] at hh; cases b <;> exact hh
    refine (sstT hl hf hw h2).mono ?_
    rintro v H1 ⟨rho1, g1, d, e1, hf1, hw1, rd, h1⟩
    subst rd
    cases d with
    | true => exact ⟨rho1, fr, g1, hl, hf1, hw1, h1⟩
    | false => exact ⟨rho1, fr, g1, hl, hf1, hw1, h1⟩

theorem tAsg_of {t : Tg} {c : CE} {Dn : Ends} {sg : L2.St} {H : Hp} (h : tS X.K W (ex gl cl wf (.set t c)) Dn sg H) : tAsg (tE X.K W (ev gl cl c)) (gT X.K t) Dn sg H := by
  obtain ⟨rho, fr, g, hl, hf, hw, hh⟩ := h
  unfold ex at hh
  refine (sstE hl hf hw hh).mono ?_
  rintro v H1 ⟨rho1, g1, d, e1, hf1, hw1, rd, h1⟩
  dsimp only at h1
  cases q : setT t d fr with
  | none => rw [q] at h1; exact (show False from h1).elim
  | some fr1 =>
    rw [q] at h1
    exact ⟨rho1, fr, d, fr1, hl, hf1, rd, q, fun tau l2 hf2 so => nx_here h1 l2 hf2 hw1⟩
theorem tAsgN_of {i : Nat} {c : CE} {Dn : Ends} {sg : L2.St} {H : Hp} (h : tS X.K W (ex gl cl wf (.set (.nm i) c)) Dn sg H) : tAsg (tE X.K W (ev gl cl c)) (gName i) Dn sg H := by
  obtain ⟨rho, fr, g, hl, hf, hw, hh⟩ := h
  unfold ex at hh
  refine (sstE hl hf hw hh).mono ?_
  rintro v H1 ⟨rho1, g1, d, e1, hf1, hw1, rd, h1⟩
  have h1 : PstS X.K W Dn rho1 H1 (.ok (.nx (fr.set i (some d))) g1) := h1
  exact nx_here h1 (by simp [hl]) (hf1.set rd hl) hw1
theorem ss_name {i : Nat} {x : Str} {e : Expr} {c : CE} {pos' : Pos} (hN : X.N.Nodup) (hi : X.N[i]? = some x) (hx : Loc X.env.scope x) (he : SE X W gl cl e c) (hs : swapsWith e (some (.Name x pos')) pos.line X.env = pure false) (hf : X.fn x = true ∨ X.env.scope.names.lookup x = some .local) :
    SS X W gl cl wf (.Assign [.Name x pos'] e pos) (.set (.nm i) c) := ps_imp (ps_set hN hi hx he hs hf) fun Dn sg H h => tAsgN_of h
theorem ss_tup {tg e : Expr} {c : CE} {t : Tg} (he : SE X W gl cl e c) (hg : PG X tg (gT X.K t)) (hs : swapsWithSole [tg] e pos.line X.env = pure false) (hw : swappedStores [tg] e X.env = pure none) (h1 : (assignEach [tg] X.env).map (·.2) = [assign tg X.env]) :
    SS X W gl cl wf (.Assign [tg] e pos) (.set t c) := ps_imp (ps_asg he hg hs hw h1) fun Dn sg H h => tAsg_of h
theorem ss_par {i j : Nat} {x y : Str} {a b : Expr} {ca cb : CE} {px py pt : Pos} {kt k2 pt2} (hc : X.calm = true) (hN : X.N.Nodup) (hi : X.N[i]? = some x) (hj : X.N[j]? = some y) (hij : i ≠ j)
    (hx : X.env.scope.names.lookup x = some .local) (hy : X.env.scope.names.lookup y = some .local) (ha : SE X W gl cl a ca) (hb : SE X W gl cl b cb)
    (hs1 : starEach [a, b] X.env = (false, eval a X.env) :: starEach [b] X.env) (hs2 : starEach [b] X.env = (false, eval b X.env) :: starEach [] X.env)
    (hw : swappedStores [.Tuple [.Name x px, .Name y py] kt pt] (.Tuple [a, b] k2 pt2) X.env = pure (some [x, y]))
    (hs : swapsWithSole [.Tuple [.Name x px, .Name y py] kt pt] (.Tuple [a, b] k2 pt2) pos.line X.env = pure false) :
    SS X W gl cl wf (.Assign [.Tuple [.Name x px, .Name y py] kt pt] (.Tuple [a, b] k2 pt2) pos) (.par i j ca cb) :=
  ps_imp (ps_par hc hN hi hj hij hx hy (pa_cons ha (pa_cons hb pa_nil hs2) hs1) hw hs) fun Dn sg H ⟨rho, fr, g, hl, hf, hw, hh⟩ => by
    unfold ex at hh
    refine (sstE hl hf hw hh).mono ?_
    rintro v H1 ⟨rho1, g1, d, e1, hf1, hw1, rd, h1⟩
    refine (sstE hl hf1 hw1 h1).mono ?_
    rintro u H2 ⟨rho2, g2, d2, e2, hf2, hw2, rd2, h2⟩
    have h2 : PstS X.K W Dn rho2 H2 (.ok (.nx ((fr.set i (some d)).set j (some d2))) g2) := h2
    exact ⟨v, u, rfl, nx_here h2 (by simp [hl]) ((hf2.set (rd.ext hw1.mut e2) hl).set rd2 (by simp [hl])) hw2⟩
theorem ss_lc {m : Bool} {n i : Nat} {y : Str} {py : Pos} {elt tg iter : Expr} {ifs : List Expr} {sco : Scope} {own : List (Str × Nat)} {t : Tg} {ci : CI} {cc : CO} {c : CE} {wp : List Nat} {lpos : Pos} (G : Gd X W n) (hy : X.N[i]? = some y) (hyl : X.env.scope.names.lookup y = some .local)
    (hsw : swapsWith (.ListComp elt [⟨tg, iter, ifs, 0⟩] sco lpos) (some (.Name y py)) pos.line X.env = pure true) (hi : SI X W gl cl tg iter ci) (ok : blkC X.N X.env.scope sco own = true) (hwp : own.map (·.2) = wp) (hsl : (slots t).all (fun i => decide (i ∈ wp)) = true)
    (hg : ∀ (s : Shared) (H : Hp) (C : Addr) (cl' : List (Str × Addr)) (fp : List Addr), PG (X.blk s H sco (compEnvC sco cl' C X.env) fp) tg (gI X.K t))
    (ht : ∀ (s : Shared) (H : Hp) (C : Addr) (cl' : List (Str × Addr)) (fp : List Addr), Gd (X.blk s H sco (compEnvC sco cl' C X.env) fp) WF n → SC (X.blk s H sco (compEnvC sco cl' C X.env) fp) WF gl cl ifs cc)
    (he : ∀ (s : Shared) (H : Hp) (C : Addr) (cl' : List (Str × Addr)) (fp : List Addr), Gd (X.blk s H sco (compEnvC sco cl' C X.env) fp) WF n → SE (X.blk s H sco (compEnvC sco cl' C X.env) fp) WF gl cl elt c)
    (hs : ∀ x, foldedSetIterable iter X.env x = pure x) : SS X W gl cl wf (.Assign [.Name y py] (.ListComp elt [⟨tg, iter, ifs, 0⟩] sco lpos) pos) (.set (.nm i) (.lc m t ci wp cc c)) := by
  subst hwp
  refine ps_imp (ps_setLc (g := gI X.K t) (tt := tT X.K WF (evc gl cl cc)) (te := tE X.K WF (ev gl cl c)) G.calm G.hN hy hyl hsw hi (blkOk_by ok) hg (fun s H C cl' fp => ht s H C cl' fp (G.blk ..)) (fun s H C cl' fp => he s H C cl' fp (G.blk ..)) hs) fun Dn sg H h => ?_
  exact tLc_of (fun i hm => of_decide_eq_true (List.all_eq_true.mp hsl i hm)) (tAsgN_of h)
theorem ss_lc2 {m : Bool} {n i : Nat} {y : Str} {py : Pos} {elt tg iter tg2 iter2 : Expr} {ifs ifs2 : List Expr} {sco : Scope} {own : List (Str × Nat)} {t t2 : Tg} {ci ci2 : CI} {cc cc2 : CO} {c : CE} {wp wp2 : List Nat} {lpos : Pos} (G : Gd X W n) (hy : X.N[i]? = some y) (hyl : X.env.scope.names.lookup y = some .local)
    (hsw : swapsWith (.ListComp elt [⟨tg, iter, ifs, 0⟩, ⟨tg2, iter2, ifs2, 0⟩] sco lpos) (some (.Name y py)) pos.line X.env = pure true) (hi : SI X W gl cl tg iter ci) (ok : blkC X.N X.env.scope sco own = true) (hwp : own.map (·.2) = wp) (hsl : (slots t).all (fun i => decide (i ∈ wp)) = true)
    (hv : (wp2.all fun i => decide (i ∈ wp)) = true) (hsl2 : (slots t2).all (fun i => decide (i ∈ wp2)) = true)
    (hg : ∀ (s : Shared) (H : Hp) (C : Addr) (cl' : List (Str × Addr)) (fp : List Addr), PG (X.blk s H sco (compEnvC sco cl' C X.env) fp) tg (gI X.K t))
    (ht : ∀ (s : Shared) (H : Hp) (C : Addr) (cl' : List (Str × Addr)) (fp : List Addr), Gd (X.blk s H sco (compEnvC sco cl' C X.env) fp) WF n → SC (X.blk s H sco (compEnvC sco cl' C X.env) fp) WF gl cl ifs cc)
    (hi2 : ∀ (s : Shared) (H : Hp) (C : Addr) (cl' : List (Str × Addr)) (fp : List Addr), Gd (X.blk s H sco (compEnvC sco cl' C X.env) fp) WF n → SI (X.blk s H sco (compEnvC sco cl' C X.env) fp) WF gl cl tg2 iter2 ci2)
    (hg2 : ∀ (s : Shared) (H : Hp) (C : Addr) (cl' : List (Str × Addr)) (fp : List Addr), PG (X.blk s H sco (compEnvC sco cl' C X.env) fp) tg2 (gI X.K t2))
    (ht2 : ∀ (s : Shared) (H : Hp) (C : Addr) (cl' : List (Str × Addr)) (fp : List Addr), Gd (X.blk s H sco (compEnvC sco cl' C X.env) fp) WF n → SC (X.blk s H sco (compEnvC sco cl' C X.env) fp) WF gl cl ifs2 cc2)
    (he : ∀ (s : Shared) (H : Hp) (C : Addr) (cl' : List (Str × Addr)) (fp : List Addr), Gd (X.blk s H sco (compEnvC sco cl' C X.env) fp) WF n → SE (X.blk s H sco (compEnvC sco cl' C X.env) fp) WF gl cl elt c)
    (hs : ∀ x, foldedSetIterable iter X.env x = pure x) (hs2 : ∀ env x, foldedSetIterable iter2 env x = pure x) : SS X W gl cl wf (.Assign [.Name y py] (.ListComp elt [⟨tg, iter, ifs, 0⟩, ⟨tg2, iter2, ifs2, 0⟩] sco lpos) pos) (.set (.nm i) (.lc2 m t ci cc t2 ci2 cc2 wp wp2 c)) := by
  subst hwp
  refine ps_imp (ps_setLc2 (g := gI X.K t) (g1 := gI X.K t2) (tt := tT X.K WF (evc gl cl cc)) (tt1 := tT X.K WF (evc gl cl cc2)) (wi1 := tI X.K WF (evi gl cl ci2)) (te := tE X.K WF (ev gl cl c)) G.calm G.hN hy hyl hsw hi (blkOk_by ok) (fun i hm => of_decide_eq_true (List.all_eq_true.mp hv i hm)) hg
    (fun s H C cl' fp => ht s H C cl' fp (G.blk ..)) (fun s H C cl' fp => hi2 s H C cl' fp (G.blk ..)) hg2 (fun s H C cl' fp => ht2 s H C cl' fp (G.blk ..)) (fun s H C cl' fp => he s H C cl' fp (G.blk ..)) hs hs2) fun Dn sg H h => ?_
  exact tLc2_of (fun i hm => of_decide_eq_true (List.all_eq_true.mp hsl i hm)) (fun i hm => of_decide_eq_true (List.all_eq_true.mp hsl2 i hm)) (tAsgN_of h)
theorem threeStores {pins : List (Addr × Obj)} {s : Shared} {tau : L2.St} {H : Hp} {Dn : Ends} {i j k : Nat} {x y z : Str} {a b c : Expr} {ta : TA} {px py pz pt : Pos} {kt k2 pt2} (calm : X.calm = true) (hN : X.N.Nodup) (hi : X.N[i]? = some x) (hj : X.N[j]? = some y) (hk : X.N[k]? = some z) (hij : i ≠ j) (hik : i ≠ k) (hjk : j ≠ k)
    (hx : X.env.scope.names.lookup x = some .local) (hy : X.env.scope.names.lookup y = some .local) (hz : X.env.scope.names.lookup z = some .local) (ha : PA X [a, b, c] ta)
    (hw : swappedStores [.Tuple [.Name x px, .Name y py, .Name z pz] kt pt] (.Tuple [a, b, c] k2 pt2) X.env = pure (some [x, y, z]))
    (hs : swapsWithSole [.Tuple [.Name x px, .Name y py, .Name z pz] kt pt] (.Tuple [a, b, c] k2 pt2) pos.line X.env = pure false) (I : Inv X pins tau H s)
    (h : ta tau H fun vs H1 => ∃ u v w, vs = [u, v, w] ∧ Dn.nx (((tau.set i (some u)).set j (some v)).set k (some w)) H1) :
    wpAny (model X.prog X.w) X.A (exec (.Assign [.Tuple [.Name x px, .Name y py, .Name z pz] kt pt] (.Tuple [a, b, c] k2 pt2) pos) X.env) (SP X pins Dn) X.xe s := by
  rw [exec_Assign_arm]
  apply wpAny_bind
  apply wpAny_standAt
  rw [hs]
  apply wpAny_bind
  apply wpAny_pure
  rw [if_neg (by decide)]
  apply wpAny_bind
  apply Tuple_
  apply thn (ha.run _ pins s tau H _ I h)
  rintro us s1 ⟨vs, H1, I1, r1, q⟩
  obtain ⟨u, v, w, e1, q⟩ := q
  subst e1
  obtain ⟨u1, u2, u3, rfl, ru, rv, rw'⟩ : ∃ u1 u2 u3, us = [u1, u2, u3] ∧ RelV u u1 ∧ RelV v u2 ∧ RelV w u3 := by
    cases r1 with
    | cons p q =>
      cases q with
      | cons p' q' =>
        cases q' with
        | cons p2 q2 =>
          cases q2
          exact ⟨_, _, _, rfl, p, p', p2⟩
  refine wpAny_newObj_type ?_ (by show 3 ≤ sizeLine; decide)
  have I2 : Inv X pins tau H1 { s1 with heap := s1.heap.push { cls := .type "tuple", data := .seq [u1, u2, u3].toArray } } := I1.kept (t' := s1.toks) fun b o e => Heap.get?_push_of_some _ e
  rw [hw]
  apply wpAny_bind
  apply wpAny_pure
  show wpAny (model X.prog X.w) X.A (do rule "assign.swapped-stores"; let items ← unpackItems (.ref s1.heap.objs.size) 3 none; assignInOrder [fun v => bindName X.env z v, fun v => bindName X.env y v, fun v => bindName X.env x v] items.reverse; pure Flow.next) _ _ _
  apply wpAny_bind
  apply wpAny_rule
  apply wpAny_bind
  apply unpackItems_tuple (items := #[u1, u2, u3]) (I.ok.hd calm) (IsTup.new s1.heap _)
  intro h' hx'
  have I3 := I2.kept (h' := h') (t' := s1.toks) fun b o e => hx' b o (Nat.ne_of_lt (Heap.lt_size e)) e
  show wpAny _ _ (assignInOrder [fun v => bindName X.env z v, fun v => bindName X.env y v, fun v => bindName X.env x v] [u3, u2, u1] >>= fun _ => pure Flow.next) _ _ _
  apply wpAny_bind
  refine assignInOrder_cons (wpAny_bindName (store_ok I3 hN hk (.inl hz) rw' (fun s2 I4 => ?_) (.inr hz)))
  refine assignInOrder_cons (wpAny_bindName (store_ok I4 hN hj (.inl hy) rv (fun s3 I5 => ?_) (.inr hy)))
  refine assignInOrder_cons (wpAny_bindName (store_ok I5 hN hi (.inl hx) ru (fun s4 I6 => assignInOrder_nil (wpAny_pure ?_)) (.inr hx)))
  rw [List.set_comm _ _ (Ne.symm hjk), List.set_comm _ _ (Ne.symm hik), List.set_comm _ _ (Ne.symm hij)] at I6
  exact ⟨_, H1, I6, q⟩
theorem ss_par3 {i j k : Nat} {x y z : Str} {a b c : Expr} {ca cb cc : CE} {px py pz pt : Pos} {kt k2 pt2} (hc : X.calm = true) (hN : X.N.Nodup) (hi : X.N[i]? = some x) (hj : X.N[j]? = some y) (hk : X.N[k]? = some z) (hij : i ≠ j) (hik : i ≠ k) (hjk : j ≠ k)
    (hx : X.env.scope.names.lookup x = some .local) (hy : X.env.scope.names.lookup y = some .local) (hz : X.env.scope.names.lookup z = some .local) (ha : SE X W gl cl a ca) (hb : SE X W gl cl b cb) (hcc : SE X W gl cl c cc)
    (hs1 : starEach [a, b, c] X.env = (false, eval a X.env) :: starEach [b, c] X.env) (hs2 : starEach [b, c] X.env = (false, eval b X.env) :: starEach [c] X.env) (hs3 : starEach [c] X.env = (false, eval c X.env) :: starEach [] X.env)
    (hw : swappedStores [.Tuple [.Name x px, .Name y py, .Name z pz] kt pt] (.Tuple [a, b, c] k2 pt2) X.env = pure (some [x, y, z]))
    (hs : swapsWithSole [.Tuple [.Name x px, .Name y py, .Name z pz] kt pt] (.Tuple [a, b, c] k2 pt2) pos.line X.env = pure false) :
    SS X W gl cl wf (.Assign [.Tuple [.Name x px, .Name y py, .Name z pz] kt pt] (.Tuple [a, b, c] k2 pt2) pos) (.par3 i j k ca cb cc) where
  run := by
    intro pins s sg H Dn I hh
    obtain ⟨rho, fr, g, hl, hf, hw0, hh⟩ := hh
    unfold ex at hh
    refine threeStores hc hN hi hj hk hij hik hjk hx hy hz (pa_cons ha (pa_cons hb (pa_cons hcc pa_nil hs3) hs2) hs1) hw hs I ?_
    refine (sstE hl hf hw0 hh).mono ?_
    rintro v H1 ⟨rho1, g1, d, e1, hf1, hw1, rd, h1⟩
    refine (sstE hl hf1 hw1 h1).mono ?_
    rintro u H2 ⟨rho2, g2, d2, e2, hf2, hw2, rd2, h2⟩
    refine (sstE hl hf2 hw2 h2).mono ?_
    rintro w H3 ⟨rho3, g3, d3, e3, hf3, hw3, rd3, h3⟩
    have h3 : PstS X.K W Dn rho3 H3 (.ok (.nx (((fr.set i (some d)).set j (some d2)).set k (some d3))) g3) := h3
    exact ⟨v, u, w, rfl, nx_here h3 (by simp [hl]) (((hf3.set ((rd.ext hw1.mut e2).ext hw2.mut e3) hl).set (rd2.ext hw2.mut e3) (by simp [hl])).set rd3 (by simp [hl])) hw3⟩
theorem ss_sub {o i e : Expr} {co ci c : CE} {tpos : Pos} (ho : SE X W gl cl o co) (hi : SE X W gl cl i ci) (he : SE X W gl cl e c)
    (ha : ∀ v, assign (.Subscript o i tpos) X.env v = (do
      let ov ← holding [v] (eval o X.env)
      let iv ← holding [v, ov] (eval i X.env)
      standAt tpos
      holding [v, ov, iv] (setItem ov iv v)
      release [v, ov, iv] []))
    (hs : swapsWithSole [.Subscript o i tpos] e pos.line X.env = pure false) (hw : swappedStores [.Subscript o i tpos] e X.env = pure none) (h1 : (assignEach [.Subscript o i tpos] X.env).map (·.2) = [assign (.Subscript o i tpos) X.env]) :
    SS X W gl cl wf (.Assign [.Subscript o i tpos] e pos) (.sub co ci c) :=
  ps_imp (ps_asg he (pg_sub ho hi set_list ha) hs hw h1) fun Dn sg H ⟨rho, fr, g, hl, hf, hw, hh⟩ => by
    unfold ex at hh
    refine (sstE hl hf hw hh).mono ?_
    rintro v H1 ⟨rho1, g1, d, e1, hf1, hw1, rd, h1⟩
    refine (sstE hl hf1 hw1 h1).mono ?_
    rintro u H2 ⟨rho2, g2, d2, e2, hf2, hw2, rd2, h2⟩
    refine (sstE hl hf2 hw2 h2).mono ?_
    rintro w H3 ⟨rho3, g3, d3, e3, hf3, hw3, rd3, h3⟩
    have rd' := (rd.ext hw1.mut e2).ext hw2.mut e3
    have rd2' := rd2.ext hw2.mut e3
    dsimp only at h3
    cases rd2' with
    | dat _ => exact (show False from h3).elim
    | fn _ => exact (show False from h3).elim
    | @ref r a ha =>
      cases rd3 with
      | ref _ => exact (show False from h3).elim
      | fn _ => exact (show False from h3).elim
      | dat rp => cases rp with
        | int k =>
          unfold setV at h3
          dsimp only at h3
          cases q : getL g3 r with
          | none => rw [q] at h3; exact (show False from h3).elim
          | some xs =>
            rw [q] at h3
            dsimp only at h3
            obtain ⟨vs, z1, z2⟩ := hw3.getL q ha
            cases q2 : ixN xs.length k with
            | none => rw [q2] at h3; exact (show False from h3).elim
            | some j =>
              rw [q2] at h3
              have h3 : PstS X.K W Dn rho3 H3 (.ok (.nx fr) (putO g3 r (.lst (xs.set j d)))) := h3
              obtain ⟨e4, w4⟩ := hw3.change ha (RelDs.setAt rd' z2 j)
              exact ⟨a, vs, k, j, rfl, rfl, z1, by rw [← Paired.length z2]; exact q2, h3 _ _ _ e4 w4 hl (hf3.ext hw3.mut e4)⟩
        | _ => exact (show False from h3).elim

theorem ss_for {tg iter : Expr} {body : List Stmt} {t : Tg} {ci : CI} {cb : CSs} (hp : PassesOwn (model X.prog X.w) X.A X.env X.xe) (hc : X.calm = true) (hi : SI X W gl cl tg iter ci) (hg : PG X tg (gI X.K t)) (hb : SSs X W gl cl wf body cb)
    (hs : ∀ x, foldedSetIterable iter X.env x = pure x) : SS X W gl cl wf (.For tg iter body [] pos) (.for_ t ci cb) :=
  ps_imp (ps_for hp hc hi hg hb hs) fun Dn sg H ⟨rho, fr, g, hl, hf, hw, hh⟩ => by
    unfold ex at hh
    refine ⟨rho, fr, g, hl, hf, hw, ?_⟩
    refine Pst.mono (PstS.bind (S := Yields X.K) (sg := sg) hf hw hh) ?_
    rintro J H1 ⟨rho1, g1, ⟨its, wt⟩, e1, hf1, hw1, ys, h1⟩
    refine ⟨fun i m s3 H3 => m = its.length - i ∧ i ≤ its.length ∧ ∃ rho3 fr3 g3, Ext rho1 H1 rho3 H3 ∧ fr3.length = s3.length ∧ RelF X.K rho3 H3 fr3 s3 ∧ Wf X.K rho3 H3 g3 ∧ PstS X.K W Dn rho3 H3 (forGo (fun fr g => exs gl cl wf cb fr g) t wt (its.drop i) fr3 g3),
      ⟨its.length, by simp, Nat.zero_le _, rho1, fr, g1, Ext.refl _ _, hl, hf1, hw1, by rw [List.drop_zero]; exact h1⟩, ?_⟩
    rintro i m s3 H3 ⟨rfl, hi, rho3, fr3, g3, e3, l3, f3, w3, h3⟩
    by_cases st : stillL wt g3
    · have y := ys rho3 H3 g3 e3 w3 st i
      cases hit : its[i]? with
      | none =>
        have hge := List.getElem?_eq_none_iff.mp hit
        refine .inl ⟨y.2 (show i = its.length by omega), ?_⟩
        rw [List.drop_eq_nil_of_le hge] at h3
        unfold forGo at h3
        rw [if_pos st] at h3
        exact nx_here (show PstS X.K W Dn rho3 H3 (.ok (.nx fr3) g3) from h3) l3 f3 w3
      | some it =>
        have hlt : i < its.length := (List.getElem?_eq_some_iff.mp hit).1
        obtain ⟨go, yl⟩ := y.1 it hit
        refine .inr ⟨go, fun s4 H4 => i + 1 ≤ its.length ∧ ∃ rho3 fr3 g3, Ext rho1 H1 rho3 H4 ∧ fr3.length = s4.length ∧ RelF X.K rho3 H4 fr3 s4 ∧ Wf X.K rho3 H4 g3 ∧ PstS X.K W Dn rho3 H4 (forGo (fun fr g => exs gl cl wf cb fr g) t wt (its.drop (i + 1)) fr3 g3),
          fun s4 H4 z => ⟨its.length - (i + 1), by omega, rfl, z⟩, fun x H4 hy => ?_⟩
        obtain ⟨e4, w4, ri⟩ := yl x H4 hy
        rw [List.drop_eq_getElem_cons hlt] at h3
        have hit' : its[i] = it := (List.getElem?_eq_some_iff.mp hit).2
        rw [hit'] at h3
        unfold forGo at h3
        rw [if_pos st] at h3
        cases q : setI t it fr3 with
        | none => rw [q] at h3; exact (show False from h3).elim
        | some fr4 =>
          rw [q] at h3
          have h4 := PstS.ext h3 e4
          refine ⟨rho3, fr3, it, fr4, l3, f3.ext w3.mut e4, ri, q, fun tau lt hft so => ⟨rho3, fr4, g3, lt, hft, w4, ?_⟩⟩
          revert h4
          show PstS X.K W Dn rho3 H4 ((exs gl cl wf cb fr4 g3).bind _) → _
          have e34 := e3.trans e4
          cases exs gl cl wf cb fr4 g3 with
          | bad => exact id
          | exc x g => exact id
          | ok f g5 => cases f with
            | nx fr5 => exact fun h rho5 H5 tau5 e5 w5 l5 f5 => ⟨hlt, rho5, fr5, g5, e34.trans e5, l5, f5, w5, PstS.ext h e5⟩
            | ct fr5 => exact fun h rho5 H5 tau5 e5 w5 l5 f5 => ⟨hlt, rho5, fr5, g5, e34.trans e5, l5, f5, w5, PstS.ext h e5⟩
            | bk fr5 => exact fun h rho5 H5 tau5 e5 w5 l5 f5 => h rho5 H5 tau5 e5 w5 l5 f5
            | rt d => exact id
    · have bad : forGo (fun fr g => exs gl cl wf cb fr g) t wt (its.drop i) fr3 g3 = .bad := by
        cases its.drop i with
        | nil => unfold forGo; rw [if_neg st]
        | cons x xs => unfold forGo; rw [if_neg st]
      rw [bad] at h3
      exact (show False from h3).elim
theorem ss_while {e : Expr} {body : List Stmt} {c : CE} {cb : CSs} (hp : PassesOwn (model X.prog X.w) X.A X.env X.xe) (h : ST X W gl cl e c) (hb : SSs X W gl cl wf body cb) : SS X W gl cl wf (.While e body [] pos) (.whl c cb) :=
  ps_imp (ps_while hp h hb) fun Dn sg H ⟨rho, fr, g, hl, hf, hw, hh⟩ => by
    unfold ex at hh
    refine ⟨fun m s3 H3 => ∃ rho3 fr3 g3, fr3.length = s3.length ∧ RelF X.K rho3 H3 fr3 s3 ∧ Wf X.K rho3 H3 g3 ∧ PstS X.K W Dn rho3 H3 (whlGo (fun fr g => (ev gl cl c fr g).bind fun x g1 => Rs.of (truV x g1) g1) (fun fr g => exs gl cl wf cb fr g) m fr3 g3),
      ⟨wf, rho, fr, g, hl, hf, hw, hh⟩, ?_⟩
    rintro m s3 H3 ⟨rho3, fr3, g3, l3, f3, w3, h3⟩
    cases m with
    | zero => exact (show False from h3).elim
    | succ m =>
      unfold whlGo at h3
      refine (sstT (f := evT gl cl c) l3 f3 w3 h3).mono ?_
      rintro v H4 ⟨rho4, g4, d, e4, hf4, hw4, rd, h4⟩
      subst rd
      cases d with
      | false => exact nx_here (show PstS X.K W Dn rho4 H4 (.ok (.nx fr3) g4) from h4) l3 hf4 hw4
      | true =>
        rw [if_pos rfl]
        refine ⟨fun s5 H5 => ∃ rho3 fr3 g3, fr3.length = s5.length ∧ RelF X.K rho3 H5 fr3 s5 ∧ Wf X.K rho3 H5 g3 ∧ PstS X.K W Dn rho3 H5 (whlGo (fun fr g => (ev gl cl c fr g).bind fun x g1 => Rs.of (truV x g1) g1) (fun fr g => exs gl cl wf cb fr g) m fr3 g3),
          fun s5 H5 z => ⟨m, Nat.lt_succ_self m, z⟩, rho4, fr3, g4, l3, hf4, hw4, ?_⟩
        revert h4
        show PstS X.K W Dn rho4 H4 ((exs gl cl wf cb fr3 g4).bind _) → _
        cases exs gl cl wf cb fr3 g4 with
        | bad => exact id
        | exc x g => exact id
        | ok f g5 => cases f with
          | nx fr5 => exact fun h rho5 H5 tau5 e5 w5 l5 f5 => ⟨rho5, fr5, g5, l5, f5, w5, PstS.ext h e5⟩
          | ct fr5 => exact fun h rho5 H5 tau5 e5 w5 l5 f5 => ⟨rho5, fr5, g5, l5, f5, w5, PstS.ext h e5⟩
          | bk fr5 => exact fun h rho5 H5 tau5 e5 w5 l5 f5 => h rho5 H5 tau5 e5 w5 l5 f5
          | rt d => exact id
end
end Fw
end
set_option Elab.async false
set_option linter.all false
set_option maxRecDepth 100000
set_option maxHeartbeats 4000000
noncomputable section
namespace Fw
open PySem PySem.Spec PyProof.Rows L2

structure SupInit (P : Program) (K : PySem.W.Frag) (fI D : Addr) : Prop where
  out : ∃ (name qual : Str) (params : Arguments) (sco : Scope) (dV kV doc pm ct oc ccl cl : Value) (an od cdd cld : Option Addr) (osl ccs csl : Array (Option Value)) (cda cc : Addr) (vs : Array Value) (file : Str) (tf : Tok) (ar : Arg) (cdD : ClassData) (ps pw : Str) (p0 p1 p2 p3 p4 p5 p6 p7 p8 p9 : Pos) (pl : Sem Bool),
    K.lookup fI = some ⟨oc, od, .func (PySem.W.ksFn name qual params [.Expr (.Call (.Attribute (.Call (.Name "super" p0) [] [] p1) "__init__" p2) [.Name pw p3] [] p4) p5, .Assign [.Attribute (.Name ps p6) "what" p7] (.Name pw p8) p9] sco dV kV doc pm an (.ref cda) ct cc), osl⟩ ∧
    PySem.W.codeIn K (.ref cda) qual = true ∧ K.lookup cda = some ⟨ccl, cdd, .fields vs, ccs⟩ ∧ vs[2]? = some (.str file tf) ∧ ((P.main.file : Str) == file) = true ∧ (P.main.scope.names.lookup ("super" : Str)).isSome = false ∧
    K.lookup cc = some ⟨cl, cld, .cell (some (.ref D)), csl⟩ ∧ PySem.W.clsIn K D = some cdD ∧
    (params.posonlyargs ++ params.args).head? = some ar ∧ ar.arg = ps ∧
    (∀ us : List Value, us.length = 2 → bindArgs (PySem.W.ksFn name qual params [.Expr (.Call (.Attribute (.Call (.Name "super" p0) [] [] p1) "__init__" p2) [.Name pw p3] [] p4) p5, .Assign [.Attribute (.Name ps p6) "what" p7] (.Name pw p8) p9] sco dV kV doc pm an (.ref cda) ct cc) ⟨us, []⟩ = pure ([ps, pw].zip us)) ∧
    sco.names.lookup ("super" : Str) = some .globalImplicit ∧ sco.names.lookup ("__class__" : Str) = some .free ∧ sco.names.lookup ps = some .local ∧ sco.names.lookup pw = some .local ∧ (∀ x ∈ sco.names, x.2 ≠ .cell) ∧
    sco.kind = .function ∧ sco.isCoroutine = false ∧ sco.isGenerator = false ∧ ps ≠ pw ∧ (ps == ("__debug__" : Str)) = false ∧ (pw == ("__debug__" : Str)) = false ∧
    (∀ L, eval (.Call (.Attribute (.Call (.Name "super" p0) [] [] p1) "__init__" p2) [.Name pw p3] [] p4) (PySem.W.ksEnv qual sco L fI (.ref cda) cc) = (do
      let ov ← attributeBase (.Call (.Name "super" p0) [] [] p1) "__init__" (PySem.W.ksEnv qual sco L fI (.ref cda) cc) (eval (.Call (.Name "super" p0) [] [] p1) (PySem.W.ksEnv qual sco L fI (.ref cda) cc))
      standAt p2.atName
      let (f, first) ← holding [ov] (getMethod ov "__init__" pl)
      callWith p4 f first (backTo p4 (starEach [.Name pw p3] (PySem.W.ksEnv qual sco L fI (.ref cda) cc))) [])) ∧
    (∀ L, interactive (PySem.W.ksEnv qual sco L fI (.ref cda) cc) = false) ∧
    (∀ L, swapsWith (.Call (.Attribute (.Call (.Name "super" p0) [] [] p1) "__init__" p2) [.Name pw p3] [] p4) none p5.line (PySem.W.ksEnv qual sco L fI (.ref cda) cc) = pure false) ∧
    (∀ L, swapsWith (.Name pw p8) (some (.Attribute (.Name ps p6) "what" p7)) p9.line (PySem.W.ksEnv qual sco L fI (.ref cda) cc) = pure false) ∧
    (∀ L, starEach [.Name pw p3] (PySem.W.ksEnv qual sco L fI (.ref cda) cc) = (false, eval (.Name pw p3) (PySem.W.ksEnv qual sco L fI (.ref cda) cc)) :: starEach [] (PySem.W.ksEnv qual sco L fI (.ref cda) cc)) ∧
    (∀ L, (backTo p4 (starEach [] (PySem.W.ksEnv qual sco L fI (.ref cda) cc))).any (·.1) = false)
structure SupCls (K : PySem.W.Frag) (C D fI : Addr) : Prop where
  T : OexC K C
  iC : PySem.W.findIn K (.ref C) "__init__" = some (some (.ref fI))
  tI : PySem.W.typeIn K (.ref fI) = some (.type "function")
  what : PySem.W.findIn K (.ref C) "what" = some none
  sub : PySem.W.mroIn K C (.ref D) = some true
  sup : PySem.W.ks_superIn K C D "__init__" = some (some (.builtin "ValueError.__init__"))
  ve : PySem.W.subIn K (.ref C) (.type "ValueError") = some true
  tp : PySem.W.nsIn K cStatics "thirdparty.any" = some none
  ini : ∃ bm, PySem.W.excInitIn K C bm "ValueError.__new__" = true ∧ ExcBaseFacts "ValueError" "ValueError.__new__" "ValueError.__init__" bm
section
variable {P : Program} {w : World} {A : Around} {R : Result → Shared → Prop} {K : PySem.W.Frag} {h₀ h : Heap} {g : Array GenState} {d : Drawn} {t : Nat} {os : OsState} {mg : Str → Option Value}
theorem sup_init {fI D C e t0 : Addr} {u : Value} (F : SupInit P K fI D) (S : SupCls K C D fI) (X₀ : K.In h₀) (k0 : ∀ b o, h₀.get? b = some o → h.get? b = some o) (le : h₀.objs.size ≤ h.objs.size) (he0 : h₀.get? e = none) (he : h.get? e = some (PySem.W.excObj C t0 none .none))
    (room : A.depth < recursionLimit) (lim : h.NoLimit) (glob : h.Ns mainGlobals mg) (mS : mg "super" = none) (blt : ∃ mb, h.Ns builtinsNs mb ∧ mb "super" = some (.type "super"))
    (hq : ∀ h' tk' dx t1, (∀ b o, h₀.get? b = some o → h'.get? b = some o) → h₀.objs.size ≤ dx → dx ≠ e → h'.get? e = some { cls := .ref C, dict := some dx, data := .fields #[.ref t1, .none, .none, .none, .bool false, .none] } →
      h'.Ns1 dx (fun y => if y = "what" then some u else none) → R (.ok (.ret .none)) ⟨h', g, d, tk', os⟩) :
    codeAny (model P w) A (.call (.ref fI) ⟨[.ref e, u], []⟩) R ⟨h, g, d, t, os⟩ := by
  obtain ⟨name, qual, params, sco, dV, kV, doc, pm, ct, oc, ccl, cl, an, od, cdd, cld, osl, ccs, csl, cda, cc, vs, file, tf, ar, cdD, ps, pw, p0, p1, p2, p3, p4, p5, p6, p7, p8, p9, pl,
    fn, hcd, hcode, hvs, hfile, htop, hcell, hD, hp, har, hbind, ns, nc, nps, npw, nocell, kf, co, gen, ne, db1, db2, hev, hint, hsw1, hsw2, hst, hpl⟩ := F.out
  have X : K.In h := X₀.keeps k0
  refine ks_codeAny_call_defAt (s := ⟨h, g, d, t, os⟩) (binds := [ps, pw].zip [.ref e, u]) room (X _ _ fn) rfl lim (PySem.W.codeRec_of X hcd) rfl (.of_eq (hbind _ rfl)) nocell ?_ (fun h1 hns k1 => ?_) co gen kf
  · intro y hy
    have hy' : y = (ps, .ref e) ∨ y = (pw, u) := by simpa using hy
    rcases hy' with rfl | rfl
    · exact nps
    · exact npw
  have F1 : PyProof.Rows.Fr h₀ h.objs.size h1 (fun x => ([ps, pw].zip [Value.ref e, u]).reverse.lookup x) := ⟨hns, fun b o z => k1 b o (k0 b o z), le⟩
  have eL : e ≠ h.objs.size := Nat.ne_of_lt (Heap.lt_size he)
  have N1 : News h₀ h.objs.size h1 [(e, PySem.W.excObj C t0 none .none)] := by
    intro p hp
    have hp' : p = (e, PySem.W.excObj C t0 none .none) := by simpa using hp
    subst hp'
    exact ⟨k1 _ _ he, eL, he0⟩
  have ms : ([ps, pw].zip [Value.ref e, u]).reverse.lookup ps = some (.ref e) := by
    show [(pw, u), (ps, Value.ref e)].lookup ps = _
    have q : (ps == pw) = false := by simpa using ne
    simp [List.lookup, q]
  have mw : ([ps, pw].zip [Value.ref e, u]).reverse.lookup pw = some u := by
    show [(pw, u), (ps, Value.ref e)].lookup pw = _
    simp [List.lookup]
  generalize hm : (fun x => ([ps, pw].zip [Value.ref e, u]).reverse.lookup x) = m at F1
  have ms' : m ps = some (.ref e) := by rw [← hm]; exact ms
  have mw' : m pw = some u := by rw [← hm]; exact mw
  generalize hL : h.objs.size = L at F1 N1 eL ⊢
  show _root_.PySem.wpAt (model P w) (A.deeper (PySem.W.ksEnv qual sco L fI (.ref cda) cc)) (.func _ (PySem.W.ksEnv qual sco L fI (.ref cda) cc)) (execs _ (PySem.W.ksEnv qual sco L fI (.ref cda) cc)) _ _ _
  have k0' : ∀ b o, h.get? b = some o → h1.get? b = some o := k1
  obtain ⟨oD, hD1, hD2⟩ : ∃ oD, h1.get? D = some oD ∧ oD.data = .cls cdD := by
    unfold PySem.W.clsIn at hD
    split at hD
    · rename_i c d cd' sl ho
      cases hD
      exact ⟨_, k1 _ _ (X _ _ ho), rfl⟩
    · cases hD
  have kindS : (PySem.W.ksEnv qual sco L fI (.ref cda) cc).kindOf ps = some .local := nps
  have kindW : (PySem.W.ksEnv qual sco L fI (.ref cda) cc).kindOf pw = some .local := npw
  refine ks_wpAt_execs_cons (ks_wpAt_Expr_any (ks_wpAt_MethodCall (pl := pl) ?_ (hev L)) (hint L) (hsw1 L))
  refine ks_wpAt_super_base (env := PySem.W.ksEnv qual sco L fI (.ref cda) cc) ns nc (by decide) rfl (k1 _ _ (X _ _ fn)) rfl hp rfl (k1 _ _ (X _ _ hcode)) rfl hvs hfile htop ?_
  obtain ⟨mb, hb1, hb2⟩ := blt
  refine PySem.W.ks_loadName_global kf ns (Calls.loadGlobal_builtin (env := PySem.W.ksEnv qual sco L fI (.ref cda) cc) (glob.keeps k1) mS (hb1.keeps k1) hb2 ⟨rfl, ?_⟩)
  refine wpAny_loadName_free kf nc rfl ⟨_, k1 _ _ (X _ _ hcell), rfl⟩ ?_
  rw [har]
  refine wpAny_loadName_local kf kindS F1.ns ms' ?_
  refine PySem.ks_wpAny_isType_cls hD1 hD2 ⟨rfl, ?_⟩
  refine ks_wpAny_call_super hD1 hD2 (k1 _ _ he) rfl (fun c z => nomatch z) (PySem.W.looks_mroIn (X.keeps k1) S.sub) (fun h2 e2 k2 => ?_)
  obtain ⟨F2, N2, l2⟩ := PySem.W.ks_newsPush (s := ⟨h1, g, d, t + 2, os⟩) F1 N1 rfl e2 k2
  have I2 : PySem.W.InstAt h2 e (PySem.W.excObj C t0 none .none) C none := PySem.W.InstAt.of_exc0 N2 (by simp)
  refine PySem.W.kxs_method PySem.W.kxs_ValueError F2 X₀ N2 (List.mem_cons_self) I2 S.tp S.sup S.ve (by decide) (fun q h3 F3 N3 l3 => ?_)
  refine PySem.W.kxs_callWith1 (u := q) N3 (List.mem_cons_self) ?_ (hst L) (hpl L)
  rw [hst L]
  refine Calls.spliced_cons (wpAny_Name (wpAny_loadName_local kf kindW F3.ns mw' ?_) db2)
  refine Calls.spliced_nil ⟨PySem.W.kxs_at N3 (List.mem_cons_self), ?_⟩
  obtain ⟨bm, qi, FB⟩ := S.ini
  have nso : h1.objs.size ≠ e := fun z => absurd (l2 (e, PySem.W.excObj C t0 none .none) (by simp)) (by rw [← z]; exact Nat.lt_irrefl _)
  have nq : q ≠ e := fun z => absurd (l3 (e, PySem.W.excObj C t0 none .none) (by simp)) (by rw [← z]; exact Nat.lt_irrefl _)
  refine PySem.W.kxs_call F3 X₀ N3 FB qi (List.mem_cons_self) (.tail nq (.tail nso (.head fun p hp => nomatch hp))) (by show 1 ≤ sizeLine; rw [sizeLine_eq]; decide) (fun t1 h4 F4 N4 l4 => ?_)
  refine _root_.PySem.wpAt_of_wpAny (wpAny_execs_cons (plainObj_wpAny_Assign_Attribute (wpAny_Name (wpAny_loadName_local kf kindW F4.ns mw' ?_) db2) (hsw2 L)))
  refine wpAny_Name (wpAny_loadName_local kf kindS F4.ns ms' ?_) db1
  have he4 : h4.get? e = some (PySem.W.excObj C t1 none .none) := (N4 (e, PySem.W.excObj C t1 none .none) (by simp)).1
  obtain ⟨nm, qn, N, bs, bmC, sn, sub, ab, col, dd, k0, k1, k2, k3, k5, hC, hbm⟩ := S.T.cls
  have hcl : PySem.W.clsIn K C = some { name := nm, bases := bs, mro := .ref C :: bmC, ns := N, qualname := qn, hasDict := true, slotNames := sn, subclasses := sub, abstract := ab, collection := col, hasDel := false } := by unfold PySem.W.clsIn; rw [hC] <;> rfl
  refine PySem.W.set_plain (X₀.keeps F4.keep) (ox := PySem.W.excObj C t1 none .none) (od := none) ⟨he4, rfl, rfl, trivial⟩ S.T.sa ?_
  refine PySem.HandSPX.exc_osa (X₀.keeps F4.keep) he4 hcl (show PySem.HandSPX.refsVE (.ref C :: bmC) = true from hbm) rfl S.what (fun h5 tk5 dx k dn dne hx hn => ?_)
  obtain ⟨oL, _, _, hL4, _⟩ := F4.ns
  have lL := Heap.lt_size hL4
  refine wpAny_execs_nil (hq h5 tk5 dx t1 (fun b o z => ?_) (Nat.le_trans F4.above (Nat.le_trans (Nat.le_of_lt lL) dn)) dne hx hn)
  exact k b o (fun y => by rw [y, he0] at z; cases z) (F4.keep b o z)
end

section
variable {X : Cx} {e : Expr} {te : TE} {p pos : Pos}
def tMkS (C : Addr) (te : TE) : L2.St → Hp → XK → Prop := fun sg H Q => te sg H fun v H1 => ∀ d, H1 d = none → Q (.ref C) (some d) (upd H1 d (.xd [("what", v)]))
theorem pmk_sup {x : Str} {C D fI : Addr} (FI : SupInit X.prog X.K fI D) (S : SupCls X.K C D fI) (mS : X.mg "super" = none) (room : Room 1 X.A) (hg : Gl X x) (hm : X.mg x = some (.ref C)) (ha : PE X e te)
    (hdb : (x == ("__debug__" : Str)) = false) (hs : starEach [e] X.env = (false, eval e X.env) :: starEach [] X.env) (hpl : (backTo pos (starEach [] X.env)).any (·.1) = false) :
    PMk X (.Call (.Name x p) [e] [] pos) (tMkS C te) := by
  intro pins s sg H Q I h
  obtain ⟨nm, q, N, bs, bm, sn, sub, ab, col, dd, k0, k1, k2, k3, k5, hC, hbm⟩ := S.T.cls
  refine wpAny_Call_Name_kw (ld_glob I hg hm ?_ hdb)
  refine PySem.W.callWith_K (h₀ := X.base) I.ok.mod.kin S.T.kC ?_ hs hpl
  rw [hs]
  refine Calls.spliced_cons (thn (ha.run pins s sg H _ I h) fun u s1 ⟨v, H1, I1, r1, q1⟩ => Calls.spliced_nil ⟨I1.kIn, ?_⟩)
  show wpAny _ _ (call (.ref C) [u]) _ _ _
  obtain ⟨hp, g, dr, tk, os⟩ := s1
  obtain ⟨mb, hb1, hb2⟩ := I1.mod.blt
  have kk : ∀ b o, hp.get? b = some o → ((hp.push (PySem.W.kdv_tup [u])).push (PySem.HandSPX.excO C hp.objs.size)).get? b = some o := fun b o z => Heap.get?_push_of_some _ (Heap.get?_push_of_some _ z)
  have hget : ((hp.push (PySem.W.kdv_tup [u])).push (PySem.HandSPX.excO C hp.objs.size)).get? (hp.objs.size + 1) = some (PySem.HandSPX.excO C hp.objs.size) := by heap_get
  have hnew : hp.get? (hp.objs.size + 1) = none := by
    cases z : hp.get? (hp.objs.size + 1) with
    | none => rfl
    | some o => exact absurd (Nat.lt_trans (Nat.lt_succ_self _) (Heap.lt_size z)) (Nat.lt_irrefl _)
  refine wpAny_call (PySem.HandSPX.call_own F.excBase_ValueError (fun Y => PySem.HandSPX.refsVE_contains Y bm hbm) (I1.kIn _ _ hC) (PySem.W.looks_findIn I1.kIn S.iC) (fun self => PySem.W.bind_fn I1.kIn self S.tI) (by show 1 ≤ sizeLine; rw [sizeLine_eq]; decide) ?_)
  refine sup_init (h₀ := hp) (mg := X.mg) FI S I1.kIn kk (by rw [Heap.size_push, Heap.size_push]; omega) hnew hget ?_ (I1.ok.mod.nolimit.keeps fun b o z => kk b o (I1.bk b o z)) (I1.mod.glob.keeps fun b o z => kk b o (I1.bk b o z)) mS ⟨mb, hb1.keeps fun b o z => kk b o (I1.bk b o z), (hb2 _ (by decide)).trans PyProof.Rows.Boot.«super»⟩ ?_
  · exact ((room.make C [u] []).depth)
  · intro h' tk' dx t1 kept dn dne hx hn
    refine ⟨rfl, ?_⟩
    obtain ⟨G, gk, ge⟩ := restrict h' fun b => decide (b ≠ hp.objs.size + 1)
    have gk' : ∀ b, b ≠ hp.objs.size + 1 → G.get? b = h'.get? b := fun b hb => gk b (decide_eq_true hb)
    have J : L2.Inv X pins sg (upd H1 dx (.xd [("what", v)])) ⟨G, g, dr, tk', os⟩ := by
      refine I1.laid (t' := tk') (h' := G) (fun b o z => ?_) dn ?_
      · rw [gk' b fun y => by rw [y, hnew] at z; cases z]
        exact kept b o z
      · refine ⟨_, hn.at (fun o z => by rw [gk' dx dne]; exact z), relO_put (fs := []) r1 fun g => True.intro⟩
    have nH : H1 (hp.objs.size + 1) = none := I1.hok.fresh (Nat.le_succ _)
    refine ⟨_, _, _, ⟨G, g, dr, tk', os⟩, _, .ref C, some dx, rfl, J, fun b o z => ?_, ge _ (by simp), hx, ⟨rfl, rfl⟩, rfl, rfl, ?_, rfl, I1.bare, raises_own S.T.exC S.T.tyC, q1 dx (I1.hok.fresh dn)⟩
    · by_cases hb : b = hp.objs.size + 1
      · rw [hb, ge _ (by simp)] at z; cases z
      · rw [← gk' b hb]; exact z
    · rw [upd_ne (Ne.symm dne)]; exact nH
end
end Fw
end
set_option Elab.async false
set_option linter.all false
set_option maxRecDepth 100000
set_option maxHeartbeats 4000000
noncomputable section
namespace Fw
open PySem PySem.Spec PyProof.Rows L2

structure Gs (X : Cx) (W : WX) (n : Nat) : Prop extends Gd X W n where
  po : PassesOwn (model X.prog X.w) X.A X.env X.xe
abbrev XOf (P : Program) (w : World) (K : PySem.W.Frag) (mg : Str → Option Value) (base : Heap) (N : List Str) (qual : Str) (sco : Scope) (fa : Addr) (cdv : Value) (A : Around) (outer : List Env) (s : Shared) (H : Hp) (E : XK) : Cx :=
  cxOf (L2.CX P w) P w K mg base N qual sco fa cdv A outer s H E
abbrev WOf (E : XK) : WX := fun cls d _ H => E cls d H
structure DefOk (P : Program) (w : World) (K : PySem.W.Frag) (mg : Str → Option Value) (gl : Str → Option PyData) (wf : Nat) (Fs : List FDef) (d : FDef) : Prop where
  out : ∃ (fa : Addr) (name qual : Str) (params : Arguments) (body : List Stmt) (sco : Scope) (dV kV doc pm cdv ct oc : Value) (an od : Option Addr) (osl : Array (Option Value)) (N ps : List Str),
    mg d.nm = some (.ref fa) ∧ K.lookup fa = some ⟨oc, od, .func (PySem.W.fnOf name qual params body sco dV kV doc pm an cdv ct), osl⟩ ∧ PySem.W.codeIn K cdv qual = true ∧ FnScope N ps sco ∧ ps.length = d.np ∧ N.length = d.ns ∧
    PySem.W.keepIn K (.ref fa) = true ∧ Binds K (PySem.W.fnOf name qual params body sco dV kV doc pm an cdv ct) ps [] ∧
    ∀ (base : Heap) (A : Around) (outer : List Env) (s : Shared) (H : Hp) (E : XK) (n : Nat) (cl : Nat → List D → Gh → Rs D), Gs (XOf P w K mg base N qual sco fa cdv A outer s H E) (WOf E) (n + 1) →
      (∀ (f : Nat) (d' : FDef), Fs[f]? = some d' → CallOk P w K mg base (n + 1) d'.nm d'.np (cl f)) → SSs (XOf P w K mg base N qual sco fa cdv A outer s H E) (WOf E) gl cl wf body d.body
section
variable {K : PySem.W.Frag}
theorem relF_start {rho : List Addr} {H : Hp} {N : List Str} {ds : List D} {vs : List V} (r : RelDs K rho H ds vs) : RelF K rho H (ds.map some ++ List.replicate (N.length - ds.length) none) (L2.start N vs) := by
  intro i d hi
  have hl := Paired.length r
  by_cases h : i < ds.length
  · rw [List.getElem?_append_left (by simpa using h), List.getElem?_map] at hi
    cases q : ds[i]? with
    | none => rw [q] at hi; cases hi
    | some e =>
      rw [q] at hi
      cases hi
      obtain ⟨v, h1, h2⟩ := RelDs.get r q
      refine ⟨v, ?_, h2⟩
      unfold L2.start
      rw [List.getElem?_append_left (by simpa [← hl] using h), List.getElem?_map, h1]
      rfl
  · rw [List.getElem?_append_right (by simpa using h)] at hi
    rw [List.getElem?_replicate] at hi
    split at hi <;> cases hi
theorem fin_ok {W : WX} {sg : L2.St} {rho rho1 : List Addr} {H H1 : Hp} {g g1 : Gh} {fz : Bool} {d : D} {v : V} {Q : VK} (w0 : Wf K rho H g) (e : Ext rho H rho1 H1) (w : Wf K rho1 H1 g1) (r : RelD K rho1 H1 d v)
    (h : Pst K W sg (RelD K) rho H (fin fz g.length d g1) Q) : Q v H1 := by
  unfold fin at h
  have hl := w0.len
  obtain ⟨t, ht⟩ := e.pre
  subst ht
  split at h
  · rename_i hb
    rw [← hl] at hb h
    have w1 := w.less hb
    have e1 : Ext rho H rho H1 := e.less (List.prefix_refl _)
    cases r with
    | dat rp => exact (show Pst K W sg (RelD K) rho H (.ok (.dat _) (g1.take rho.length)) Q from h) rho H1 _ e1 w1 (.dat (RelP.less (fun a m => List.mem_append_left _ m) rp))
    | fn rf => exact (show Pst K W sg (RelD K) rho H (.ok (.fn _) (g1.take rho.length)) Q from h) rho H1 _ e1 w1 (.fn rf)
    | @ref n a ha =>
      dsimp only at h
      split at h
      · rename_i hn
        refine h rho H1 _ e1 w1 (.ref ?_)
        rw [List.getElem?_append_left hn] at ha
        exact ha
      · rename_i hn
        split at h
        · cases q : viaL g1 (.ref n) with
          | none => rw [q] at h; exact (show Pst K W sg (RelD K) rho H (.ok (.ref n) g1) Q from h) _ H1 _ e w (.ref ha)
          | some p =>
            rw [q] at h
            have q' : viaR g1 n = some p := q
            unfold viaR at q'
            cases q2 : getL g1 n with
            | none => rw [q2] at q'; cases q'
            | some xs =>
              rw [q2] at q'
              cases q3 : datsOf xs with
              | none =>
                have q4 : (datsOf xs).map PyData.list = some p := q'
                rw [q3] at q4; cases q4
              | some ps =>
                have q4 : (datsOf xs).map PyData.list = some p := q'
                rw [q3] at q4
                cases q4
                obtain ⟨vs, h1, h2⟩ := w.getL q2 ha
                have rp := RelDs.dats h2 q3
                have na : a ∉ rho := fun z => by
                  rw [List.getElem?_append_right (by omega)] at ha
                  exact (List.nodup_append.mp w.nd).2.2 a z a (List.mem_of_getElem? ha) rfl
                exact (show Pst K W sg (RelD K) rho H (.ok (.dat (.list ps)) (g1.take rho.length)) Q from h) rho H1 _ e1 w1 (.dat (.lst (.inl ⟨.inl h1, na⟩) (RelPs.less (fun a m => List.mem_append_left _ m) rp)))
        · exact h _ H1 _ e w (.ref ha)
  · exact h _ H1 _ e w r
theorem RelX.less {r t : List Addr} {H : Hp} {x : Xn} {cls : Value} {d : Option Addr} (h : RelX K (r ++ t) H x cls d) : RelX K r H x cls d := by
  obtain ⟨h1, dd, v, h2, h3, h4, h5⟩ := h
  exact ⟨h1, dd, v, h2, fun z => h3 (List.mem_append_left _ z), h4, RelP.less (fun a m => List.mem_append_left _ m) h5⟩
theorem finX_ok {W : WX} {sg : L2.St} {rho rho1 : List Addr} {H H1 : Hp} {g g1 : Gh} {x : Xn} {cls : Value} {d : Option Addr} {Q : VK} (w0 : Wf K rho H g) (e : Ext rho H rho1 H1) (w : Wf K rho1 H1 g1) (r : RelX K rho1 H1 x cls d)
    (h : Pst K W sg (RelD K) rho H (.exc x (finX g.length g1)) Q) : W cls d sg H1 := by
  unfold finX at h
  have hl := w0.len
  obtain ⟨t, ht⟩ := e.pre
  subst ht
  split at h
  · rename_i hb
    rw [← hl] at hb h
    exact h rho H1 cls d (e.less (List.prefix_refl _)) (w.less hb) r.less
  · exact h _ H1 cls d e w r
end
theorem run_bad {gl : Str → Option PyData} {Fs : List FDef} {wf n f : Nat} {d : FDef} (hd : Fs[f]? = some d) : ∀ ds g, ds.length ≠ d.np → run gl Fs wf n f ds g = .bad := by
  intro ds g h
  cases n with
  | zero => unfold run; rfl
  | succ n =>
    unfold run
    rw [hd]
    dsimp only
    rw [if_neg h]
theorem all_ok {P : Program} {w : World} {K : PySem.W.Frag} {mg : Str → Option Value} {gl : Str → Option PyData} {wf : Nat} {Fs : List FDef} {base : Heap} (ok : ∀ (f : Nat) (d : FDef), Fs[f]? = some d → DefOk P w K mg gl wf Fs d) :
    ∀ (n f : Nat) (d : FDef), Fs[f]? = some d → CallOk P w K mg base (n + 1) d.nm d.np (run gl Fs wf n f) := by
  intro n
  induction n with
  | zero =>
    intro f d hd
    obtain ⟨fa, name, qual, params, body, sco, dV, kV, doc, pm, cdv, ct, oc, an, od, osl, N, ps, hm, lk, code, fs, hnp, hns, hk, hb, _⟩ := (ok f d hd).out
    have no : ∀ vs H Q E, ¬ spD K d.np (run gl Fs wf 0 f) vs H Q E := fun vs H Q E ⟨rho, g, ds, w, r, l, h⟩ => by
      unfold run at h
      exact h
    exact ⟨⟨fa, _, ps, ⟨fun vs H Q E z => absurd z (no _ _ _ _), fun A outer s H us vs Q E _ _ _ _ _ z => absurd z (no _ _ _ _)⟩, hm, hk, hb⟩, run_bad hd⟩
  | succ n ih =>
    intro f d hd
    obtain ⟨fa, name, qual, params, body, sco, dV, kV, doc, pm, cdv, ct, oc, an, od, osl, N, ps, hm, lk, code, fs, hnp, hns, hk, hb, snd⟩ := (ok f d hd).out
    refine ⟨⟨fa, _, ps, fnG_of lk code fs (fun vs H Q E ⟨rho, g, ds, w, r, l, h⟩ => ?_) ?_, hm, hk, hb⟩, run_bad hd⟩
    · rw [hnp, ← l]; exact (Paired.length r).symm
    · rintro A outer s H vs Q E noRepr room ⟨rho, g, ds, w0, r, l, h⟩
      refine ⟨_, snd base A outer s H E n (run gl Fs wf n) ⟨⟨fs.nd, rfl, room, noRepr, takes_of rfl rfl rfl rfl⟩, passes_of rfl⟩ (fun f d hd => ih f d hd), ?_⟩
      have hl := Paired.length r
      have pl : ps.length ≤ N.length := by have := congrArg List.length fs.pre; rw [List.length_take] at this; omega
      have lf : (ds.map some ++ List.replicate (N.length - ds.length) (none : Option D)).length = (L2.start N vs).length := by
        unfold L2.start
        simp only [List.length_append, List.length_map, List.length_replicate]
        omega
      refine ⟨rho, ds.map some ++ List.replicate (N.length - ds.length) none, g, lf, relF_start r, w0, ?_⟩
      unfold run at h
      rw [hd] at h
      dsimp only at h
      rw [if_pos l, ← hns, ← l] at h
      revert h
      cases exs gl (run gl Fs wf n) wf d.body (ds.map some ++ List.replicate (N.length - ds.length) none) g with
      | bad => exact id
      | exc x g1 => exact fun h rho' H' cls d tau e w rx => finX_ok (Q := Q) w0 e w rx h
      | ok fl g1 => cases fl with
        | nx fr1 => exact fun h rho' H' tau e w _ _ => fin_ok w0 e w (.dat .non) h
        | rt v => exact fun h rho' H' u e w rd => fin_ok w0 e w rd h
        | bk fr1 => exact fun h => (show False from h).elim
        | ct fr1 => exact fun h => (show False from h).elim
end Fw
end
set_option Elab.async false
set_option linter.all false
set_option maxRecDepth 100000
set_option maxHeartbeats 4000000
noncomputable section
namespace Fw
open PySem PySem.Spec PyProof.Rows L2

theorem two {a b : Bool} (h : (a && b) = true) : a = true ∧ b = true := Bool.and_eq_true_iff.mp h
mutual
def datB (K : PySem.W.Frag) : PyData → Value → Bool
  | .none, .none => true
  | .bool b, .bool c => b == c
  | .int i, .int j _ => decide (i = j)
  | .str x, .str y _ => decide (x = y)
  | .tuple ps, .ref a => (match K.lookup a with
    | some ⟨.type c, _, .seq its _, _⟩ => decide (c = "tuple") && (decide (its.size ≤ line) && datsB K ps its.toList)
    | _ => false)
  | .list ps, .ref a => (match K.lookup a with
    | some ⟨.type c, none, .seq its _, sl⟩ => decide (c = "list") && (decide (its.size ≤ line) && (decide (sl = #[]) && datsB K ps its.toList))
    | _ => false)
  | _, _ => false
def datsB (K : PySem.W.Frag) : List PyData → List Value → Bool
  | [], [] => true
  | p :: ps, v :: vs => datB K p v && datsB K ps vs
  | _, _ => false
end
mutual
theorem datB_ok {K : PySem.W.Frag} : ∀ (p : PyData) (u : Value), datB K p u = true → ∃ v, RelV v u ∧ ∀ rho H, RelP K rho H p v
  | .none, u, h => by
    cases u with
    | none => exact ⟨.non, rfl, fun _ _ => .non⟩
    | _ => cases h
  | .bool b, u, h => by
    cases u with
    | bool c =>
      have e : b = c := eq_of_beq (show (b == c) = true from h)
      subst e
      exact ⟨.bl b, rfl, fun _ _ => .bl b⟩
    | _ => cases h
  | .int i, u, h => by
    cases u with
    | int j t =>
      have e : i = j := of_decide_eq_true h
      subst e
      exact ⟨.int i, ⟨t, rfl⟩, fun _ _ => .int i⟩
    | _ => cases h
  | .str x, u, h => by
    cases u with
    | str y t =>
      have e : x = y := of_decide_eq_true h
      subst e
      exact ⟨.str x, ⟨t, rfl⟩, fun _ _ => .str x⟩
    | _ => cases h
  | .tuple ps, u, h => by
    cases u with
    | ref a =>
      unfold datB at h
      split at h
      · rename_i c od its n sl q
        obtain ⟨h1, h2⟩ := two h
        obtain ⟨h2, h3⟩ := two h2
        obtain ⟨vs, r, k⟩ := datsB_ok ps its.toList h3
        exact ⟨.ref a, rfl, fun rho H => .tup (.inr ⟨_, its, n, q, congrArg Value.type (of_decide_eq_true h1), rfl, by rw [← line_eq]; exact of_decide_eq_true h2, r⟩) (k rho H)⟩
      · cases h
    | _ => cases h
  | .list ps, u, h => by
    cases u with
    | ref a =>
      unfold datB at h
      split at h
      · rename_i c its n sl q
        obtain ⟨h1, z2⟩ := two h
        obtain ⟨h2, z3⟩ := two z2
        obtain ⟨h3, h4⟩ := two z3
        obtain ⟨vs, r, k⟩ := datsB_ok ps its.toList h4
        have hc := of_decide_eq_true h1
        have hs := of_decide_eq_true h3
        have hz : its.size ≤ sizeLine := by rw [← line_eq]; exact of_decide_eq_true h2
        clear h z2 z3 h4 h1 h3 h2
        subst hc hs
        exact ⟨.ref a, rfl, fun rho H => .lst (.inr ⟨its, n, q, hz, r⟩) (k rho H)⟩
      · cases h
    | _ => cases h
  | .dict _, u, h => by cases u <;> cases h
theorem datsB_ok {K : PySem.W.Frag} : ∀ (ps : List PyData) (us : List Value), datsB K ps us = true → ∃ vs, Vals vs us ∧ ∀ rho H, RelPs K rho H ps vs
  | [], [], _ => ⟨[], .nil, fun _ _ => .nil⟩
  | [], _ :: _, h => by cases h
  | _ :: _, [], h => by cases h
  | p :: ps, u :: us, h => by
    obtain ⟨h1, h2⟩ := two (show (datB K p u && datsB K ps us) = true from h)
    obtain ⟨v, r, k⟩ := datB_ok p u h1
    obtain ⟨vs, rs, ks⟩ := datsB_ok ps us h2
    exact ⟨v :: vs, .cons r rs, fun rho H => .cons (k rho H) (ks rho H)⟩
end
def glB (x : Str) (p : PyData) (K : PySem.W.Frag) : Bool := match PySem.W.nsIn K mainGlobals x with
  | some (some u) => datB K p u
  | _ => false
theorem glB_ok {K : PySem.W.Frag} {h : Heap} {mg : Str → Option Value} (X : K.In h) (G : h.Ns mainGlobals mg) {x : Str} {p : PyData} (c : glB x p K = true) : GlK K mg x p := by
  unfold glB at c
  split at c
  · rename_i u q
    obtain ⟨v, r, k⟩ := datB_ok p u c
    exact ⟨u, v, PySem.W.mg_of X G q, r, k⟩
  · cases c
def freeB (x : Str) (K : PySem.W.Frag) : Bool := decide (PySem.W.nsIn K mainGlobals x = some none)
theorem freeB_ok {K : PySem.W.Frag} {h : Heap} {mg : Str → Option Value} (X : K.In h) (G : h.Ns mainGlobals mg) {x : Str} (c : freeB x K = true) : mg x = none := PySem.W.mg_none_of X G (of_decide_eq_true c)
def gloB (x : Str) (K : PySem.W.Frag) : Bool := decide (PySem.W.nsIn K mainGlobals x = some (some (.ref (He.ga K x))))
theorem gloB_ok {K : PySem.W.Frag} {h : Heap} {mg : Str → Option Value} (X : K.In h) (G : h.Ns mainGlobals mg) {x : Str} (c : gloB x K = true) : mg x = some (.ref (He.ga K x)) := PySem.W.mg_of X G (of_decide_eq_true c)

def oexB (K : PySem.W.Frag) (C : Addr) : Bool := match K.lookup C with
  | some ⟨.type "type", _, .cls cd, sl⟩ => (match cd.mro, sl.toList with
    | .ref C' :: bm, [_, _, _, _, some (.builtin n), _] => decide (C' = C) && (decide (n = "ValueError.__new__") && (!cd.hasDel && (cd.hasDict && PySem.HandSPX.refsVE bm)))
    | _, _ => false)
  | _ => false
def clsB (C : Addr) (K : PySem.W.Frag) : Bool := oexB K C && (decide (PySem.W.findIn K (.ref C) "__setattr__" = some (some (.builtin "object.__setattr__"))) && (decide (PySem.W.subIn K (.ref C) (.type "BaseException") = some true) &&
  (decide (PySem.W.typeIn K (.ref C) = some (.type "type")) && PySem.W.keepIn K (.ref C))))
theorem clsB_ok {K : PySem.W.Frag} {C : Addr} (h : clsB C K = true) : OexC K C := by
  obtain ⟨h0, h⟩ := two h
  obtain ⟨h1, h⟩ := two h
  obtain ⟨h2, h⟩ := two h
  obtain ⟨h3, h4⟩ := two h
  refine ⟨?_, of_decide_eq_true h1, of_decide_eq_true h2, of_decide_eq_true h3, h4⟩
  unfold oexB at h0
  split at h0
  · rename_i dd cd sl q
    split at h0
    · rename_i C' bm k0 k1 k2 k3 n k5 hm hs
      obtain ⟨a1, h0⟩ := two h0
      obtain ⟨a2, h0⟩ := two h0
      obtain ⟨a3, h0⟩ := two h0
      obtain ⟨a4, a5⟩ := two h0
      have b1 := of_decide_eq_true a1
      have b2 := of_decide_eq_true a2
      have b3 : cd.hasDel = false := by simpa using a3
      obtain ⟨nm, bs, mro, ns, qn, hd, sn, sub, ab, col, del⟩ := cd
      dsimp only at hm b3 a4
      subst b1 b2 hm b3 a4
      obtain ⟨l⟩ := sl
      have hl : l = [k0, k1, k2, k3, some (.builtin "ValueError.__new__"), k5] := hs
      subst hl
      exact ⟨nm, qn, ns, bs, bm, sn, sub, ab, col, dd, k0, k1, k2, k3, k5, q, a5⟩
    · cases h0
  · cases h0
def supB (C D fI : Addr) (K : PySem.W.Frag) : Bool := clsB C K && (decide (PySem.W.findIn K (.ref C) "__init__" = some (some (.ref fI))) && (decide (PySem.W.typeIn K (.ref fI) = some (.type "function")) && (decide (PySem.W.findIn K (.ref C) "what" = some none) &&
  (decide (PySem.W.mroIn K C (.ref D) = some true) && (decide (PySem.W.ks_superIn K C D "__init__" = some (some (.builtin "ValueError.__init__"))) && (decide (PySem.W.subIn K (.ref C) (.type "ValueError") = some true) &&
  (decide (PySem.W.nsIn K cStatics "thirdparty.any" = some none) && PySem.W.excInitIn K C He.veBase "ValueError.__new__")))))))
theorem supB_ok {K : PySem.W.Frag} {C D fI : Addr} (h : supB C D fI K = true) : SupCls K C D fI := by
  obtain ⟨h0, h⟩ := two h
  obtain ⟨h1, h⟩ := two h
  obtain ⟨h2, h⟩ := two h
  obtain ⟨h3, h⟩ := two h
  obtain ⟨h4, h⟩ := two h
  obtain ⟨h5, h⟩ := two h
  obtain ⟨h6, h⟩ := two h
  obtain ⟨h7, h8⟩ := two h
  exact ⟨clsB_ok h0, of_decide_eq_true h1, of_decide_eq_true h2, of_decide_eq_true h3, of_decide_eq_true h4, of_decide_eq_true h5, of_decide_eq_true h6, of_decide_eq_true h7, _, h8, F.excBase_ValueError⟩

structure HdI where
  at_ : Str × Option Str
  name : Str
  qual : Str
  params : Arguments
  body : List Stmt
  scope : Scope
abbrev FnI : Type := Option (Str × Str × Arguments × FuncBody × Scope × Addr × List Str × Addr)
def fnI (K : PySem.W.Frag) (p : Str × Option Str) : FnI := match K.lookup (He.fAd K p) with
  | some ⟨_, _, .func fd, _⟩ => some (fd.name, fd.qualname, fd.params, fd.body, fd.scope, fd.globals, fd.closure.map (·.1), fd.builtins)
  | _ => none
def HdI.val (d : HdI) : FnI := some (d.name, d.qual, d.params, .stmts d.body, d.scope, mainGlobals, [Str.ofString "__class__"], builtinsNs)
def initB (p : Str × Option Str) (q file : Str) (D : PySem.W.Frag → Addr) (K : PySem.W.Frag) : Bool := match K.lookup (He.fAd K p) with
  | some ⟨_, _, .func fd, _⟩ => (match fd.code, fd.closure, fd.defaults with
    | .ref cda, [(_, cc)], .none => PySem.W.codeIn K (.ref cda) q && ((match K.lookup cda with
        | some ⟨_, _, .fields vs, _⟩ => (match (vs[2]? : Option Value) with
          | some (Value.str f _) => decide (f = file)
          | _ => false)
        | _ => false) && ((match K.lookup cc with
        | some ⟨_, _, .cell (some (.ref D')), _⟩ => decide (D' = D K)
        | _ => false) && (PySem.W.clsIn K (D K)).isSome))
    | _, _, _ => false)
  | _ => false
theorem init_ok {K : PySem.W.Frag} {d : HdI} {file : Str} {D : PySem.W.Frag → Addr} (e : fnI K d.at_ = d.val) (c : initB d.at_ d.qual file D K = true) :
    ∃ (kV doc pm ct oc ccl cl : Value) (an od cdd cld : Option Addr) (osl ccs csl : Array (Option Value)) (cda cc : Addr) (vs : Array Value) (tf : Tok) (cdD : ClassData),
      K.lookup (He.fAd K d.at_) = some ⟨oc, od, .func (PySem.W.ksFn d.name d.qual d.params d.body d.scope .none kV doc pm an (.ref cda) ct cc), osl⟩ ∧
      PySem.W.codeIn K (.ref cda) d.qual = true ∧ K.lookup cda = some ⟨ccl, cdd, .fields vs, ccs⟩ ∧ vs[2]? = some (.str file tf) ∧ K.lookup cc = some ⟨cl, cld, .cell (some (.ref (D K))), csl⟩ ∧ PySem.W.clsIn K (D K) = some cdD := by
  unfold fnI at e
  unfold initB at c
  cases q : K.lookup (He.fAd K d.at_) with
  | none => rw [q] at e; cases e
  | some o =>
    obtain ⟨oc, od, dt, osl⟩ := o
    rw [q] at e c
    cases dt with
    | func fd =>
      obtain ⟨n1, n2, n3, n4, n5, n6, n7, n8, n9, n10, n11, n12, n13, n14, n15⟩ := fd
      have e2 : (some (n1, n2, n3, n4, n5, n6, n7.map (·.1), n15) : FnI) = some (d.name, d.qual, d.params, FuncBody.stmts d.body, d.scope, mainGlobals, [Str.ofString "__class__"], builtinsNs) := e
      simp only [Option.some.injEq, Prod.mk.injEq] at e2
      obtain ⟨h1, h2, h3, h4, h5, h6, h7, h8⟩ := e2
      subst h1 h2 h3 h4 h5 h6 h8
      dsimp only at c
      split at c
      · rename_i cda nm cc
        have hn : nm = "__class__" := by simpa using h7
        subst hn
        obtain ⟨c1, c⟩ := two c
        obtain ⟨c2, c⟩ := two c
        obtain ⟨c3, c4⟩ := two c
        split at c2
        · rename_i ccl cdd vs ccs qc
          split at c2
          · rename_i f tf qf
            have hf := of_decide_eq_true c2
            subst hf
            split at c3
            · rename_i cl cld D' csl qq
              have hd := of_decide_eq_true c3
              subst hd
              obtain ⟨cdD, hD⟩ := Option.isSome_iff_exists.mp c4
              exact ⟨n9, n10, n11, n14, oc, ccl, cl, n12, od, cdd, cld, osl, ccs, csl, cda, cc, vs, tf, cdD, rfl, c1, qc, qf, qq, hD⟩
            · cases c3
          · cases c2
        · cases c2
      · cases c
    | _ => cases e

abbrev AlX : Type := Bool × List He.FnW × List FnI
def obsX (bs : List (PySem.W.Frag → Bool)) (fn : List He.DefD) (fi : List HdI) (K : PySem.W.Frag) : AlX := ((bs.all fun b => b K) && fn.all fun d => d.ok K, fn.map (fun d => He.fnW K d.at_), fi.map fun d => fnI K d.at_)
def valX (fn : List He.DefD) (fi : List HdI) : AlX := (true, fn.map He.DefD.val, fi.map HdI.val)
def SaysX (bs : List (PySem.W.Frag → Bool)) (fn : List He.DefD) (fi : List HdI) (K : PySem.W.Frag) : Prop := obsX bs fn fi K = valX fn fi
def obsXG (n : Nat) (bs : List (PySem.W.Frag → Bool)) (fn : List He.DefD) (fi : List HdI) (g : Addr → Option Obj) : AlX := obsX bs fn fi (He.frG g (cStatics :: He.asD g n))
def hookX (n : Nat) (bs : List (PySem.W.Frag → Bool)) (fn : List He.DefD) (fi : List HdI) : PySem.W.Hook where
  α := AlX
  obs := fun s => obsXG n bs fn fi s.heap.get?
  val := fun _ => valX fn fi
  says := fun _ h => ∃ K : PySem.W.Frag, K.In h ∧ SaysX bs fn fi K
  of := fun _ _ e => ⟨_, He.frG_in, e⟩
  keeps := fun _ _ _ ⟨K, hK, c⟩ k => ⟨K, PySem.W.Frag.In.keeps hK k, c⟩
theorem obsXG_eq {n : Nat} {bs : List (PySem.W.Frag → Bool)} {fn : List He.DefD} {fi : List HdI} {g : Addr → Option Obj} {s : Shared} (h : ∀ a, g a = s.heap.get? a) : obsXG n bs fn fi g = (hookX n bs fn fi).obs s := by
  have e : g = s.heap.get? := funext h
  rw [e] <;> rfl
section
variable {bs : List (PySem.W.Frag → Bool)} {fn : List He.DefD} {fi : List HdI} {K : PySem.W.Frag}
theorem SaysX.fact (c : SaysX bs fn fi K) {b : PySem.W.Frag → Bool} (h : b ∈ bs) : b K = true := by
  have c1 := (two (show ((bs.all fun b => b K) && fn.all fun d => d.ok K) = true from congrArg (fun z : AlX => z.1) c)).1
  exact List.all_eq_true.mp c1 b h
theorem SaysX.def_ (c : SaysX bs fn fi K) (i : Nat) {d : He.DefD} (h : fn[i]? = some d) : ∃ fd, FunD K d.name d.qual d.params d.body d.scope (d.dvs K) (d.kws K) (He.fAd K d.at_) fd := by
  have c2 := (two (show ((bs.all fun b => b K) && fn.all fun d => d.ok K) = true from congrArg (fun z : AlX => z.1) c)).2
  have e : fn.map (fun d => He.fnW K d.at_) = fn.map He.DefD.val := congrArg (fun z : AlX => z.2.1) c
  have e2 : (fn.map fun d => He.fnW K d.at_)[i]? = (fn.map He.DefD.val)[i]? := by rw [e]
  rw [List.getElem?_map, List.getElem?_map, h] at e2
  exact He.DefD.funD (Option.some.inj e2) (List.all_eq_true.mp c2 d (List.mem_of_getElem? h))
theorem SaysX.ini (c : SaysX bs fn fi K) (i : Nat) {d : HdI} (h : fi[i]? = some d) : fnI K d.at_ = d.val := by
  have e : fi.map (fun d => fnI K d.at_) = fi.map HdI.val := congrArg (fun z : AlX => z.2.2) c
  have e2 : (fi.map fun d => fnI K d.at_)[i]? = (fi.map HdI.val)[i]? := by rw [e]
  rw [List.getElem?_map, List.getElem?_map, h] at e2
  exact Option.some.inj e2
end

theorem walk_ofG {l : PySem.W.OpenLaw} {n k : Nat} {q : Program} {loose : List Str} {XP : (Str → Option Value) → Heap → Prop} {YP : World → Heap → Prop} {d : DefRec}
    (hn : l.most = some n) (hn2 : n ≤ sizeLine) (hdf : d.params.defaults = []) (room : Room k callerA)
    (F : ∀ (w : World) (mg : Str → Option Value) (h : Heap), YP w h → h.Ns mainGlobals mg → ∃ (K : PySem.W.Frag) (f : List D → Gh → Rs D), K.In h ∧
        (∀ (ns : List Int), ns.length ≤ n → (∀ z ∈ ns, Builtin.Int.intBits z ≤ 1048576) → ∃ g, f [.dat (.list (ns.map .int))] [] = .ok (.dat (.bool true)) g) ∧
        ∀ base : Heap, K.In base → base.Ns mainGlobals mg → CallOk l.prog w K mg base k d.name 1 f) :
    PySem.W.WalkO q loose XP YP l.row.toRowW d [] (fun f vs => PySem.call f vs) := by
  refine Att.attach_callB hn hdf ?_
  intro w s₀ s₁ mg mb fa o pm cd doc a vs ns G Y _ _ _ there script isInts len bits noGens
  obtain ⟨K, f, inK, holds, each⟩ := F w mg _ Y G.T.g
  obtain ⟨g, hg⟩ := holds ns len bits
  refine law_callG (sp := spD K 1 f) inK G.T.g G.T.b G.T.builtins G.T.nolimit noGens script isInts (Nat.le_trans len hn2) room (fun base h1 h2 => ?_) fun H rel => ?_
  · obtain ⟨fa', fd, ps, FF, hm, _, hb⟩ := (each base h1 h2).ok
    have e : fa' = fa := by
      have z := hm.symm.trans there
      exact Value.ref.inj (Option.some.inj z)
    subst e
    exact ⟨fd, ps, FF, hb⟩
  · refine ⟨[], [], [.dat (.list (ns.map .int))], ⟨rfl, List.nodup_nil, fun r o a h => by simp at h⟩, .cons (.dat rel) .nil, rfl, ?_⟩
    rw [hg]
    intro rho' H' v _ _ rd
    exact bl_of rd
end Fw
end
set_option Elab.async false
set_option linter.all false
set_option maxRecDepth 100000
set_option maxHeartbeats 4000000
noncomputable section
namespace Fw
open PySem PySem.Spec PyProof.Rows L2

section
variable {X : Cx} {W : WX} {gl : Str → Option PyData} {cl : Nat → List D → Gh → Rs D} {wf : Nat} {pos : Pos}
theorem ss_raise {x : Str} {D fI : Addr} {e : Expr} {c : CE} {p p2 : Pos} (calm : X.calm = true) (tk : Takes X W) (FI : SupInit X.prog X.K fI D) (S : SupCls X.K (He.ga X.K x) D fI) (mS : X.mg "super" = none) (room : Room 1 X.A) (hg : Gl X x) (hm : X.mg x = some (.ref (He.ga X.K x))) (h : SE X W gl cl e c)
    (hdb : (x == ("__debug__" : Str)) = false) (hs : starEach [e] X.env = (false, eval e X.env) :: starEach [] X.env) (hpl : (backTo p2 (starEach [] X.env)).any (·.1) = false) : SS X W gl cl wf (.Raise (some (.Call (.Name x p) [e] [] p2)) none pos) (.raise x c) :=
  ps_imp (ps_raise calm tk (pmk_sup FI S mS room hg hm h hdb hs hpl)) fun Dn sg H ⟨rho, fr, g, hl, hf, hw, hh⟩ => by
    unfold ex at hh
    refine (sstE hl hf hw hh).mono ?_
    rintro v H1 ⟨rho1, g1, d, e1, hf1, hw1, rd, h1⟩ dd hd
    cases rd with
    | ref _ => exact (show False from h1).elim
    | fn _ => exact (show False from h1).elim
    | @dat q _ rp =>
      have h1 : PstS X.K W Dn rho1 H1 (.exc ⟨x, q⟩ g1) := h1
      obtain ⟨e2, w2⟩ := hw1.alloc hd (.xd [("what", v)])
      exact h1 rho1 _ _ _ sg e2 w2 ⟨rfl, dd, v, rfl, hw1.not_in hd, upd_same, rp.ext hw1.mut e2⟩
end

theorem RelX.ext {K : PySem.W.Frag} {r r1 : List Addr} {H H1 : Hp} {x : Xn} {cls : Value} {d : Option Addr} (m : Mut1 K r H) (e : Ext r H r1 H1) (h : RelX K r H x cls d) : RelX K r1 H1 x cls d := by
  obtain ⟨h1, dd, v, h2, h3, h4, h5⟩ := h
  obtain ⟨z1, z2⟩ := e.stay dd _ h4 True.intro h3
  exact ⟨h1, dd, v, h2, z1, z2, h5.ext m e⟩
structure ExI (K : PySem.W.Frag) (C : Addr) : Prop where
  hcl : (PySem.W.clsIn K C).isSome = true
  ga : PySem.W.findIn K (.ref C) "__getattribute__" = some (some (.builtin "BaseException.__getattribute__"))
  gg : PySem.W.findIn K (.ref C) "__getattr__" = some none
  ex : PySem.W.subIn K (.ref C) (.type "BaseException") = some true
  hd : PySem.W.hasDictIn K C = true
  ha : PySem.W.findIn K (.ref C) "__class__" = some (some (.builtin "object.__class__"))
  hn : PySem.W.specialIn K (.builtin "object.__class__") "__get__" = some (some (.builtin "getset_descriptor.__get__"))
  ht : PySem.W.takesIn K (.builtin "object.__class__") = some true
  hm : PySem.W.mroIn K C (.type "object") = some true
  wh : PySem.W.findIn K (.ref C) "what" = some none
def exiB (C : Addr) (K : PySem.W.Frag) : Bool := (PySem.W.clsIn K C).isSome && (decide (PySem.W.findIn K (.ref C) "__getattribute__" = some (some (.builtin "BaseException.__getattribute__"))) && (decide (PySem.W.findIn K (.ref C) "__getattr__" = some none) &&
  (decide (PySem.W.subIn K (.ref C) (.type "BaseException") = some true) && (PySem.W.hasDictIn K C && (decide (PySem.W.findIn K (.ref C) "__class__" = some (some (.builtin "object.__class__"))) &&
  (decide (PySem.W.specialIn K (.builtin "object.__class__") "__get__" = some (some (.builtin "getset_descriptor.__get__"))) && (decide (PySem.W.takesIn K (.builtin "object.__class__") = some true) && (decide (PySem.W.mroIn K C (.type "object") = some true) && decide (PySem.W.findIn K (.ref C) "what" = some none)))))))))
theorem exiB_ok {K : PySem.W.Frag} {C : Addr} (h : exiB C K = true) : ExI K C := by
  obtain ⟨h1, h⟩ := two h
  obtain ⟨h2, h⟩ := two h
  obtain ⟨h3, h⟩ := two h
  obtain ⟨h4, h⟩ := two h
  obtain ⟨h5, h⟩ := two h
  obtain ⟨h6, h⟩ := two h
  obtain ⟨h7, h⟩ := two h
  obtain ⟨h8, h⟩ := two h
  obtain ⟨h9, h10⟩ := two h
  exact ⟨h1, of_decide_eq_true h2, of_decide_eq_true h3, of_decide_eq_true h4, h5, of_decide_eq_true h6, of_decide_eq_true h7, of_decide_eq_true h8, of_decide_eq_true h9, of_decide_eq_true h10⟩
def TabM (K : PySem.W.Frag) (tab : List (Str × Bool)) (c : Value) : Prop := ∀ x b, tab.lookup x = some b → PySem.W.exmOne K (.ref (He.ga K x)) c = some b
def TabI (K : PySem.W.Frag) (tab : List (Str × Bool)) (c : Value) : Prop := ∀ x b, tab.lookup x = some b → PySem.W.kitOne K (.ref (He.ga K x)) c = some b ∧ ExI K (He.ga K x)
theorem lookup_all {tab : List (Str × Bool)} {x : Str} {b : Bool} (h : tab.lookup x = some b) : (x, b) ∈ tab := PySem.mem_of_lookup h
def tabMB (tab : List (Str × Bool)) (c : PySem.W.Frag → Value) (K : PySem.W.Frag) : Bool := tab.all fun p => decide (PySem.W.exmOne K (.ref (He.ga K p.1)) (c K) = some p.2)
theorem tabMB_ok {K : PySem.W.Frag} {tab : List (Str × Bool)} {c : PySem.W.Frag → Value} (h : tabMB tab c K = true) : TabM K tab (c K) := fun x b e => of_decide_eq_true (List.all_eq_true.mp h _ (lookup_all e))
def tabIB (tab : List (Str × Bool)) (c : PySem.W.Frag → Value) (K : PySem.W.Frag) : Bool := tab.all fun p => decide (PySem.W.kitOne K (.ref (He.ga K p.1)) (c K) = some p.2) && exiB (He.ga K p.1) K
theorem tabIB_ok {K : PySem.W.Frag} {tab : List (Str × Bool)} {c : PySem.W.Frag → Value} (h : tabIB tab c K = true) : TabI K tab (c K) := fun x b e => by
  obtain ⟨h1, h2⟩ := two (List.all_eq_true.mp h _ (lookup_all e))
  exact ⟨of_decide_eq_true h1, exiB_ok h2⟩

def tH (K : PySem.W.Frag) (gl : Str → Option PyData) (cl : Nat → List D → Gh → Rs D) (cs : List Str) (i : Nat) (a : Addr) (cls : Value) (d : Option Addr) (he : HE) : TE := fun sg H Q =>
  ∃ rho fr g x, fr.length = sg.length ∧ RelF K rho H fr sg ∧ Wf K rho H g ∧ sg[i]? = some (some (.ref a)) ∧ RelX K rho H x cls d ∧ x.cls ∈ cs ∧ Pst K WF sg (RelD K) rho H (evH gl cl x he fr g) Q
def RelT (K : PySem.W.Frag) (rho : List Addr) (H : Hp) (d : D) (vs : List V) : Prop := ∃ ps, d = .dat (.tuple ps) ∧ ps.length ≤ line ∧ RelPs K rho H ps vs
def tHA (K : PySem.W.Frag) (gl : Str → Option PyData) (cl : Nat → List D → Gh → Rs D) (cs : List Str) (i : Nat) (a : Addr) (cls : Value) (d : Option Addr) (he : HE) : TA := fun sg H Q =>
  ∃ rho fr g x, fr.length = sg.length ∧ RelF K rho H fr sg ∧ Wf K rho H g ∧ sg[i]? = some (some (.ref a)) ∧ RelX K rho H x cls d ∧ x.cls ∈ cs ∧ Pst K WF sg (RelT K) rho H (evH gl cl x he fr g) Q
section
variable {K : PySem.W.Frag} {gl : Str → Option PyData} {cl : Nat → List D → Gh → Rs D} {cs : List Str} {i : Nat} {a : Addr} {cls : Value} {d : Option Addr} {sg : L2.St} {rho : List Addr} {H : Hp} {fr : Fr} {g : Gh} {x : Xn}
def AftH {γ δ : Type} (K : PySem.W.Frag) (sg : L2.St) (R : List Addr → Hp → γ → δ → Prop) (cls : Value) (d : Option Addr) (x : Xn) (rho : List Addr) (H : Hp) (fr : Fr) (k : D → Gh → Rs γ) (Q : δ → Hp → Prop) (v : V) (H1 : Hp) : Prop :=
  ∃ rho1 g1 e, Ext rho H rho1 H1 ∧ RelF K rho1 H1 fr sg ∧ Wf K rho1 H1 g1 ∧ RelD K rho1 H1 e v ∧ RelX K rho1 H1 x cls d ∧ Pst K WF sg R rho1 H1 (k e g1) Q
theorem stepH {γ δ : Type} {R : List Addr → Hp → γ → δ → Prop} {Q : δ → Hp → Prop} {he : HE} {k : D → Gh → Rs γ} (hl : fr.length = sg.length) (hf : RelF K rho H fr sg) (hw : Wf K rho H g) (hi : sg[i]? = some (some (.ref a))) (hx : RelX K rho H x cls d) (hc : x.cls ∈ cs)
    (h : Pst K WF sg R rho H ((evH gl cl x he fr g).bind k) Q) : tH K gl cl cs i a cls d he sg H (AftH K sg R cls d x rho H fr k Q) := by
  refine ⟨rho, fr, g, x, hl, hf, hw, hi, hx, hc, ?_⟩
  refine Pst.mono (Pst.bind (S := RelD K) hf hw h) ?_
  rintro v H1 ⟨rho1, g1, e, e1, hf1, hw1, rd, h1⟩
  exact ⟨rho1, g1, e, e1, hf1, hw1, rd, hx.ext hw.mut e1, h1⟩
end
section
variable {X : Cx} {gl : Str → Option PyData} {cl : Nat → List D → Gh → Rs D} {cs : List Str} {i : Nat} {a : Addr} {oe : Obj} {cls : Value} {d : Option Addr} {pn : List (Addr × Obj)} {pos : Pos}
abbrev SH (X : Cx) (gl : Str → Option PyData) (cl : Nat → List D → Gh → Rs D) (cs : List Str) (i : Nat) (a : Addr) (oe : Obj) (cls : Value) (d : Option Addr) (pn : List (Addr × Obj)) (e : Expr) (he : HE) : Prop := PE (X.suite a ((a, oe) :: pn)) e (tH X.K gl cl cs i a cls d he)
abbrev SHA (X : Cx) (gl : Str → Option PyData) (cl : Nat → List D → Gh → Rs D) (cs : List Str) (i : Nat) (a : Addr) (oe : Obj) (cls : Value) (d : Option Addr) (pn : List (Addr × Obj)) (es : List Expr) (he : HE) : Prop := PA (X.suite a ((a, oe) :: pn)) es (tHA X.K gl cl cs i a cls d he)
theorem sh_c {e : Expr} {c : CE} (h : SE (X.suite a ((a, oe) :: pn)) WF gl cl e c) : SH X gl cl cs i a oe cls d pn e (.c c) :=
  pe_imp h fun sg H Q ⟨rho, fr, g, x, hl, hf, hw, _, _, _, hh⟩ => ⟨rho, fr, g, hl, hf, hw, hh⟩
theorem sh_what {n : Str} {p : Pos} (hN : X.N[i]? = some n) (hv : Vis X.env.scope n) (hd : (n == ("__debug__" : Str)) = false) (hcd : (n == ("__classdict__" : Str)) = false) (hz : Zc cls d oe) (hfl : ∃ vs, oe.data = .fields vs) (ok : ∀ x ∈ cs, ExI X.K (He.ga X.K x))
    (hb : attributeBase (.Name n p) "what" X.env (eval (.Name n p) X.env) = eval (.Name n p) X.env) : SH X gl cl cs i a oe cls d pn (.Attribute (.Name n p) "what" pos) .what where
  run := by
    intro pins s sg H Q I h
    obtain ⟨rho, fr, g, x, hl, hf, hw, hi, hx, hc, h⟩ := h
    have T := ok _ hc
    obtain ⟨h1, dd, v, h2, h3, h4, h5⟩ := hx
    refine (pe_xf (te := tVar i) ⟨T.ga, T.gg, T.ex, T.hd⟩ T.wh hz hfl (pe_var (X := X.suite a ((a, oe) :: pn)) hN hv hd hcd) hb).run pins s sg H Q I ?_
    exact ⟨_, hi, rfl, h1, dd, _, v, h2, h4, rfl, (show Pst X.K WF sg (RelD X.K) rho H (.ok (.dat x.what) g) Q from h).here hw (.dat h5)⟩
def rIsX (K : PySem.W.Frag) (tab : List (Str × Bool)) (cs : List Str) (a : Addr) (cls : Value) (d : Option Addr) (cv : Value) : List V → Hp → VK → Prop := fun xs H Q => ∃ (c : V) (rho : List Addr) (x : Xn) (b : Bool), xs = [.ref a, c] ∧ (∀ u, RelV c u → u = cv) ∧ RelX K rho H x cls d ∧ tab.lookup x.cls = some b ∧ Q (.bl b) H
theorem call_isX {tab : List (Str × Bool)} {cv : Value} (T : TabI X.K tab cv) (hz : Zc cls d oe) (hfl : ∃ vs, oe.data = .fields vs) : CallR (X.suite a ((a, oe) :: pn)) (.builtin "isinstance") (rIsX X.K tab cs a cls d cv) := by
  intro pins s sg H xs us Q I r h
  obtain ⟨c, rho, x, b, rfl, hcv, ⟨h1, dd, v, h2, _, h4, _⟩, hb, q⟩ := h
  obtain ⟨k, E⟩ := T _ _ hb
  cases r with
  | cons rx rr =>
    cases rr with
    | cons rt rr =>
      cases rr
      cases rx
      have ec := hcv _ rt
      subst ec
      obtain ⟨hget, _⟩ := I.pin (a, oe) (List.mem_append.mpr (.inl List.mem_cons_self))
      obtain ⟨vs, hv⟩ := hfl
      obtain ⟨mA, hns, _⟩ := (show ObjOk X.prog X.w H s.heap dd (.xd [("what", v)]) from I.hok dd _ h4)
      obtain ⟨od, es, ep, ho, _⟩ := hns
      have J : PySem.W.InstAt s.heap a oe (He.ga X.K x.cls) (some od) := ⟨hget, hz.1.trans h1, by unfold PySem.W.notCls; rw [hv] <;> rfl, by rw [hz.2, h2]; exact ho⟩
      exact PySem.W.kia_one (PySem.W.kitx_exc E.hcl E.ga E.gg E.ex E.ha E.hn E.ht E.hm) I.kIn J k (fun z => nomatch z) fun tk => ⟨.bl b, H, I.kept (t' := tk) fun _ _ z => z, rfl, q⟩
theorem sh_isi {n y : Str} {p p1 p2 : Pos} {tab : List (Str × Bool)} {cv : Value} {c : V} (hN : X.N[i]? = some n) (hv : Vis X.env.scope n) (hd : (n == ("__debug__" : Str)) = false) (hcd : (n == ("__classdict__" : Str)) = false) (hz : Zc cls d oe) (hfl : ∃ vs, oe.data = .fields vs)
    (T : TabI X.K tab cv) (hcv : ∀ u, RelV c u → u = cv) (hc : PE (X.suite a ((a, oe) :: pn)) (.Name y p2) (tC c)) (hg : Gl X "isinstance") (hm : X.mg "isinstance" = none)
    (he : starEach [.Name n p1, .Name y p2] X.env = (false, eval (.Name n p1) X.env) :: starEach [.Name y p2] X.env) (he2 : starEach [.Name y p2] X.env = (false, eval (.Name y p2) X.env) :: starEach [] X.env)
    (hpl : (backTo pos (starEach [.Name y p2] X.env)).any (·.1) = false) : SH X gl cl cs i a oe cls d pn (.Call (.Name "isinstance" p) [.Name n p1, .Name y p2] [] pos) (.isi tab) :=
  pe_imp (pe_callB (X := X.suite a ((a, oe) :: pn)) (call_isX (cs := cs) T hz hfl) hg hm PyProof.Rows.boot_isinstance (pa_cons (pe_var (i := i) hN hv hd hcd) (pa_cons hc pa_nil he2) he) (by decide) (by decide) he hpl) fun sg H Q ⟨rho, fr, g, x, hl, hf, hw, hi, hx, hcs, h⟩ => by
    unfold evH at h
    obtain ⟨b, hb, h⟩ := Pst.ofB h
    exact ⟨_, hi, c, rho, x, b, rfl, hcv, hx, hb, h.here hw (.dat (.bl b))⟩
theorem reprCall {Y : Cx} {W : WX} {sg : L2.St} (hg : Y.A.guards = some []) (hu : Y.A.units + 66 < cLine) : CallR Y (.builtin "repr") (rBi Y.K W sg .repr) := by
  intro pins s tau H xs us Q I r h
  obtain ⟨rho, g, ds, w, rs, h⟩ := h
  obtain ⟨res, e, h2⟩ := Pst.ofP (show Pst Y.K W sg (RelD Y.K) rho H (.ofP ((viaLs g ds).bind fun ps => biD .repr ps) g) Q from h)
  cases q : viaLs g ds with
  | none => rw [q] at e; cases e
  | some ps =>
    rw [q] at e
    have e : biD .repr ps = some res := e
    match ps, e, q with
    | [p], e, q =>
      have e' : (if reprOk p then some (PyData.str p.shown) else none) = some res := e
      split at e'
      · rename_i ok
        cases e'
        obtain ⟨d, rfl, hd⟩ := viaLs1 q
        cases rs with
        | cons r1 rr =>
          cases rr
          cases r with
          | cons r2 r3 =>
            cases r3
            exact call_repr hg hu I r2 (viaL_dp w r1 hd) ok (h2.here w (.dat (.str _)))
      · cases e'
    | [], e, _ => cases e
    | _ :: _ :: _, e, _ => cases e
theorem sh_rep {n : Nat} {W : WX} {e : Expr} {he : HE} {p : Pos} (G : Gd X W n) (h : SH X gl cl cs i a oe cls d pn e he) (hg : Gl X "repr") (hm : X.mg "repr" = none)
    (hs : starEach [e] X.env = (false, eval e X.env) :: starEach [] X.env) (hpl : (backTo pos (starEach [] X.env)).any (·.1) = false) : SH X gl cl cs i a oe cls d pn (.Call (.Name "repr" p) [e] [] pos) (.rep he) where
  run := by
    intro pins s sg H Q I hh
    refine (pe_callB (X := X.suite a ((a, oe) :: pn)) (reprCall (W := WF) (sg := sg) (show (X.A.mark (some (.ref a))).guards = some [] from G.guards) G.units) hg hm PyProof.Rows.boot_repr (pa_cons h pa_nil hs) (by decide) (by decide) hs hpl).run pins s sg H Q I ?_
    obtain ⟨rho, fr, g, x, hl, hf, hw, hi, hx, hc, hh⟩ := hh
    unfold evH at hh
    have z := stepH (i := i) (a := a) (cs := cs) hl hf hw hi hx hc hh
    obtain ⟨rho', fr', g', x', y1, y2, y3, y4, y5, y6, y7⟩ := z
    refine ⟨rho', fr', g', x', y1, y2, y3, y4, y5, y6, y7.mono ?_⟩
    rintro v H1 ⟨rho1, g1, e, e1, hf1, hw1, rd, hx1, h1⟩
    exact ⟨rho1, g1, [e], hw1, .cons rd .nil, h1⟩
theorem tH.mono {K : PySem.W.Frag} {he : HE} {sg : L2.St} {H : Hp} {Q Q' : VK} (h : tH K gl cl cs i a cls d he sg H Q) (m : ∀ v H, Q v H → Q' v H) : tH K gl cl cs i a cls d he sg H Q' := by
  obtain ⟨rho, fr, g, x, y1, y2, y3, y4, y5, y6, y7⟩ := h
  exact ⟨rho, fr, g, x, y1, y2, y3, y4, y5, y6, y7.mono m⟩
theorem sh_and {e e2 : Expr} {he he2 : HE} {rest : List Expr} (h1 : SH X gl cl cs i a oe cls d pn e he) (h2 : SH X gl cl cs i a oe cls d pn (.BoolOp .And (e2 :: rest) pos) he2) : SH X gl cl cs i a oe cls d pn (.BoolOp .And (e :: e2 :: rest) pos) (.and he he2) :=
  pe_imp (pe_and h1 h2) fun sg H Q ⟨rho, fr, g, x, hl, hf, hw, hi, hx, hc, h⟩ => by
    unfold evH at h
    refine tH.mono (stepH hl hf hw hi hx hc h) ?_
    rintro v H1 ⟨rho1, g1, e, e1, hf1, hw1, rd, hx1, h1⟩
    cases rd with
    | ref _ => exact (show False from h1).elim
    | fn _ => exact (show False from h1).elim
    | dat rp => cases rp with
      | bl k =>
        refine ⟨k, rfl, ?_⟩
        cases k with
        | true => exact ⟨rho1, fr, g1, x, hl, hf1, hw1, hi, hx1, hc, h1⟩
        | false => exact (show Pst X.K WF sg (RelD X.K) rho1 H1 (.ok (.dat (.bool false)) g1) Q from h1).here hw1 (.dat (.bl _))
      | _ => exact (show False from h1).elim
theorem sh_one {e : Expr} {he : HE} {op} (h : SH X gl cl cs i a oe cls d pn e he) : SH X gl cl cs i a oe cls d pn (.BoolOp op [e] pos) he := pe_one h
theorem sh_cmp {n : Nat} {W : WX} {o : CmpO} {e e2 : Expr} {he he2 : HE} (G : Gd X W n) (h1 : SH X gl cl cs i a oe cls d pn e he) (h2 : SH X gl cl cs i a oe cls d pn e2 he2) (hm : behindInMarks o.op e2 = false) : SH X gl cl cs i a oe cls d pn (.Compare e [o.op] [e2] pos) (.cmp o he he2) where
  run := by
    intro pins s sg H Q I h
    refine (pe_cmpR (X := X.suite a ((a, oe) :: pn)) (opCmp (X := X.suite a ((a, oe) :: pn)) (W := WF) (sg := sg) (show (X.A.mark (some (.ref a))).units + 65 < cLine from G.units5) o) h1 h2 hm).run pins s sg H Q I ?_
    obtain ⟨rho, fr, g, x, hl, hf, hw, hi, hx, hc, h⟩ := h
    unfold evH at h
    refine tH.mono (stepH hl hf hw hi hx hc h) ?_
    rintro v H1 ⟨rho1, g1, e, e1, hf1, hw1, rd, hx1, h1⟩
    refine tH.mono (stepH hl hf1 hw1 hi hx1 hc h1) ?_
    rintro u H2 ⟨rho2, g2, e', e2, hf2, hw2, rd2, hx2, h2⟩
    exact ⟨rho2, g2, e, e', hw2, rd.ext hw1.mut e2, rd2, h2⟩
theorem sha_nil : SHA X gl cl cs i a oe cls d pn [] .tp0 :=
  pa_imp pa_nil fun sg H Q ⟨rho, fr, g, x, hl, hf, hw, hi, hx, hc, h⟩ => by
    unfold evH at h
    exact h.here hw ⟨[], rfl, Nat.zero_le _, .nil⟩
theorem sha_cons {e : Expr} {es : List Expr} {he hes : HE} (h1 : SH X gl cl cs i a oe cls d pn e he) (h2 : SHA X gl cl cs i a oe cls d pn es hes) (hs : starEach (e :: es) X.env = (false, eval e X.env) :: starEach es X.env) : SHA X gl cl cs i a oe cls d pn (e :: es) (.tp he hes) :=
  pa_imp (pa_cons h1 h2 hs) fun sg H Q ⟨rho, fr, g, x, hl, hf, hw, hi, hx, hc, h⟩ => by
    unfold evH at h
    refine tH.mono (stepH hl hf hw hi hx hc h) ?_
    rintro v H1 ⟨rho1, g1, e, e1, hf1, hw1, rd, hx1, h1⟩
    refine ⟨rho1, fr, g1, x, hl, hf1, hw1, hi, hx1, hc, ?_⟩
    revert h1
    show Pst X.K WF sg (RelT X.K) rho1 H1 ((evH gl cl x hes fr g1).bind fun e' g2 => tpV e e' g2) Q → _
    cases evH gl cl x hes fr g1 with
    | bad => exact id
    | exc _ _ => exact id
    | ok e' g2 =>
      rintro hr rho2 H2 vs e2 w2 ⟨ps, rfl, lz, rps⟩
      cases rd with
      | ref _ => exact (show False from hr).elim
      | fn _ => exact (show False from hr).elim
      | @dat p0 _ rp =>
        have hr' : Pst X.K WF sg (RelT X.K) rho1 H1 (if ps.length < line then .ok (.dat (.tuple (p0 :: ps))) g2 else .bad) Q := hr
        split at hr'
        · rename_i hz
          exact hr' rho2 H2 (v :: vs) e2 w2 ⟨_, rfl, by simp; omega, .cons (rp.ext hw1.mut e2) rps⟩
        · exact (show False from hr').elim
theorem sh_tup {es : List Expr} {hes : HE} {k : Nat} (h : SHA X gl cl cs i a oe cls d pn es hes) : SH X gl cl cs i a oe cls d pn (.Tuple es k pos) hes :=
  pe_imp (pe_tup h) fun sg H Q ⟨rho, fr, g, x, hl, hf, hw, hi, hx, hc, hh⟩ => by
    refine ⟨rho, fr, g, x, hl, hf, hw, hi, hx, hc, ?_⟩
    revert hh
    cases evH gl cl x hes fr g with
    | bad => exact id
    | exc _ _ => exact id
    | ok e g1 =>
      rintro hh rho1 H1 vs e1 w1 ⟨ps, rfl, lz, rps⟩
      exact ⟨by rw [← rps.length, ← line_eq]; exact lz, Pst.newTup w1 (Pst.ext hh e1) rps⟩
end
theorem RelF.hide {K : PySem.W.Frag} {rho : List Addr} {H : Hp} {fr : Fr} {sg : L2.St} (h : RelF K rho H fr sg) (i : Nat) (o : Option V) : RelF K rho H (fr.set i none) (sg.set i o) := fun j d hj => by
  by_cases hij : i = j
  · subst hij
    by_cases hlt : i < fr.length
    · rw [List.getElem?_set_self hlt] at hj; cases hj
    · rw [List.getElem?_eq_none (by rw [List.length_set]; omega)] at hj; cases hj
  · rw [List.getElem?_set_ne hij] at hj
    obtain ⟨v, h1, h2⟩ := h j d hj
    exact ⟨v, by rw [List.getElem?_set_ne hij]; exact h1, h2⟩
section
variable {X : Cx} {W : WX} {gl : Str → Option PyData} {cl : Nat → List D → Gh → Rs D} {wf : Nat} {cs : List Str} {i : Nat} {pos : Pos}
theorem wAs_of {c : CE} {he : HE} {tab : List (Str × Bool)} {cv : Value} {rt : Bool} {Dn : Ends} {sg : L2.St} {H : Hp} {rho : List Addr} {fr : Fr} {g : Gh} (hN : i < sg.length) (T : TabM X.K tab cv) (hcs : ∀ x b, tab.lookup x = some b → x ∈ cs) (hl : fr.length = sg.length) (hf : RelF X.K rho H fr sg) (hw : Wf X.K rho H g)
    (h : PstS X.K W Dn rho H (ex gl cl wf (.tryx rt c i [⟨tab, he⟩]) fr g)) {Q : VK} (fin : ∀ d g1, ev gl cl c fr g = .ok d g1 → PstS X.K W Dn rho H (if rt then .ok (.rt d) g1 else .ok (.nx fr) g1) → Pst X.K WF sg (RelD X.K) rho H (.ok d g1) Q) :
    Pst X.K (wAs X.K cv i (fun a cls d => tRet (tH X.K gl cl cs i a cls d he)) W Dn) sg (RelD X.K) rho H (ev gl cl c fr g) Q := by
  unfold ex at h
  cases q : ev gl cl c fr g with
  | bad => rw [q] at h; exact h
  | ok d g1 => rw [q] at h; exact fin d g1 q h
  | exc x g1 =>
    rw [q] at h
    intro rho1 H1 cls d e1 w1 hx
    have hh : PstS X.K W Dn rho H (match tab.lookup x.cls with
      | some true => ((evH gl cl x he (fr.set i none) g1).bind fun d g1 => Rs.ok (Fl.rt d) g1).still
      | some false => .exc x g1
      | none => .bad) := h
    cases q2 : tab.lookup x.cls with
    | none => rw [q2] at hh; exact (show False from hh).elim
    | some b =>
      rw [q2] at hh
      refine ⟨b, by rw [hx.1]; exact T _ _ q2, fun hb a ha => ?_, fun hb => ?_⟩
      · subst hb
        have hh := PstS.ext hh e1
        refine ⟨rho1, fr.set i none, g1, x, by simp [hl], (hf.ext hw.mut e1).hide i _, w1, by rw [List.getElem?_set_self hN], hx, hcs _ _ q2, ?_⟩
        revert hh
        dsimp only
        cases evH gl cl x he (fr.set i none) g1 with
        | bad => exact fun h => (show False from h).elim
        | exc _ _ => exact fun h => (show False from h).elim
        | ok d2 g2 => exact id
      · subst hb
        exact hh rho1 H1 cls d sg e1 w1 hx
theorem ss_tryR {n : Nat} {x y : Str} {e e2 : Expr} {c : CE} {he : HE} {tab : List (Str × Bool)} {cv : Value} {np bp rp pos' : Pos} (G : Gd X W n) (hst : X.stack = X.env :: X.outer) (hfr : X.env.frame = some X.env.locals) (hi : X.N[i]? = some y) (hln : X.env.kindOf y = some .local) (hc : Names X x cv) (T : TabM X.K tab cv) (hcs : ∀ x b, tab.lookup x = some b → x ∈ cs)
    (hb : ∀ (W' : WX) (pn : List (Addr × Obj)) (xe : Value → Shared → Prop), Gd (X.tr pn xe) W' n → SE (X.tr pn xe) W' gl cl e c)
    (hsu : ∀ (a : Addr) (oe : Obj) (cls : Value) (d : Option Addr) (pn : List (Addr × Obj)), Zc cls d oe → (∃ vs, oe.data = .fields vs) → SH X gl cl cs i a oe cls d pn e2 he) :
    SS X W gl cl wf (.Try [.Return (some e) bp] [.ExceptHandler (some (.Name x np)) (some y) [.Return (some e2) rp] pos'] [] [] pos) (.tryx true c i [⟨tab, he⟩]) where
  run := by
    intro pins s sg H Dn I h
    refine (ps_try_as (tb := fun W' => tRet (tE X.K W' (ev gl cl c))) (ts := fun a cls d => tRet (tH X.K gl cl cs i a cls d he)) hst hfr G.hN hi hln hc G.tk
      (fun W' pn xe tk _ => pss_one (ps_ret (hb W' pn xe ⟨G.hN, G.calm, G.room, G.guards, tk⟩))) (fun a oe cls d pn hz hfl => pss_one (ps_ret (hsu a oe cls d pn hz hfl)))).run pins s sg H Dn I ?_
    obtain ⟨rho, fr, g, hl, hf, hw, hh⟩ := h
    refine ⟨rho, fr, g, hl, hf, hw, wAs_of (by rw [I.len]; exact (List.getElem?_eq_some_iff.mp hi).1) T hcs hl hf hw hh fun d g1 q hd => ?_⟩
    exact hd
theorem ss_tryE {n : Nat} {x y : Str} {e e2 : Expr} {c : CE} {he : HE} {tab : List (Str × Bool)} {cv : Value} {np bp rp pos' : Pos} (G : Gd X W n) (hst : X.stack = X.env :: X.outer) (hfr : X.env.frame = some X.env.locals) (hi : X.N[i]? = some y) (hln : X.env.kindOf y = some .local) (hc : Names X x cv) (T : TabM X.K tab cv) (hcs : ∀ x b, tab.lookup x = some b → x ∈ cs)
    (hb : ∀ (W' : WX) (pn : List (Addr × Obj)) (xe : Value → Shared → Prop), Gd (X.tr pn xe) W' n → SE (X.tr pn xe) W' gl cl e c) (hsw : swapsWith e none bp.line X.env = pure false)
    (hsu : ∀ (a : Addr) (oe : Obj) (cls : Value) (d : Option Addr) (pn : List (Addr × Obj)), Zc cls d oe → (∃ vs, oe.data = .fields vs) → SH X gl cl cs i a oe cls d pn e2 he) :
    SS X W gl cl wf (.Try [.Expr e bp] [.ExceptHandler (some (.Name x np)) (some y) [.Return (some e2) rp] pos'] [] [] pos) (.tryx false c i [⟨tab, he⟩]) where
  run := by
    intro pins s sg H Dn I h
    refine (ps_try_as (tb := fun W' => tDrop (tE X.K W' (ev gl cl c))) (ts := fun a cls d => tRet (tH X.K gl cl cs i a cls d he)) hst hfr G.hN hi hln hc G.tk
      (fun W' pn xe tk _ => pss_one (ps_expr (hb W' pn xe ⟨G.hN, G.calm, G.room, G.guards, tk⟩) hsw)) (fun a oe cls d pn hz hfl => pss_one (ps_ret (hsu a oe cls d pn hz hfl)))).run pins s sg H Dn I ?_
    obtain ⟨rho, fr, g, hl, hf, hw, hh⟩ := h
    refine ⟨rho, fr, g, hl, hf, hw, wAs_of (by rw [I.len]; exact (List.getElem?_eq_some_iff.mp hi).1) T hcs hl hf hw hh fun d g1 q hd => ?_⟩
    intro rho1 H1 v e1 w1 rd
    exact hd rho1 H1 sg e1 w1 hl (hf.ext hw.mut e1)
end

theorem defOk_of {P : Program} {w : World} {K : PySem.W.Frag} {mg : Str → Option Value} {gl : Str → Option PyData} {wf : Nat} {Fs : List FDef} {d : FDef} {name qual : Str} {params : Arguments} {body : List Stmt} {sco : Scope} {f : Addr} {fd : FuncData} {N ps : List Str}
    (F : FunD K name qual params body sco [] [] f fd) (hm : mg d.nm = some (.ref f)) (fs : FnScope N ps sco) (hps : ps.length = d.np) (hns : N.length = d.ns)
    (hb : ∀ (kV doc pm : Value) (an : Option Addr) (cdv ct : Value) (us : List Value), us.length = ps.length → bindArgs (PySem.W.fnOf name qual params body sco .none kV doc pm an cdv ct) ⟨us, []⟩ = pure (ps.zip us))
    (snd : ∀ (cdv : Value) (base : Heap) (A : Around) (outer : List Env) (s : Shared) (H : Hp) (E : XK) (n : Nat) (cl : Nat → List D → Gh → Rs D), Gs (XOf P w K mg base N qual sco f cdv A outer s H E) (WOf E) (n + 1) →
      (∀ (f : Nat) (d' : FDef), Fs[f]? = some d' → CallOk P w K mg base (n + 1) d'.nm d'.np (cl f)) → SSs (XOf P w K mg base N qual sco f cdv A outer s H E) (WOf E) gl cl wf body d.body) : DefOk P w K mg gl wf Fs d := by
  have bN := FunD.bindsN (ps := ps) F fun kV doc pm an cdv ct us hl => hb kV doc pm an cdv ct us hl
  have kp := F.kp
  obtain ⟨oc, od, dV, kV, doc, pm, an, cdv, ct, osl, rfl, lk, code, _, _⟩ := F.ex
  exact ⟨f, name, qual, params, body, sco, dV, kV, doc, pm, cdv, ct, oc, an, od, osl, N, ps, hm, lk, code, fs, hps, hns, kp, bN, fun base A outer s H E n cl G C => snd cdv base A outer s H E n cl G C⟩
theorem bo_len : bootBuiltins "len" = some (.builtin "len") := by decide +kernel
theorem bo_max : bootBuiltins "max" = some (.builtin "max") := by decide +kernel
theorem bo_min : bootBuiltins "min" = some (.builtin "min") := by decide +kernel
theorem bo_all : bootBuiltins "all" = some (.builtin "all") := by decide +kernel
theorem bo_any : bootBuiltins "any" = some (.builtin "any") := by decide +kernel
theorem bo_sum : bootBuiltins "sum" = some (.builtin "sum") := by decide +kernel
theorem bo_repr : bootBuiltins "repr" = some (.builtin "repr") := by decide +kernel
theorem bo_abs : bootBuiltins "abs" = some (.builtin "abs") := by decide +kernel
theorem bo_int : bootBuiltins "int" = some (.type "int") := by decide +kernel
theorem bo_bool : bootBuiltins "bool" = some (.type "bool") := by decide +kernel
theorem bo_str : bootBuiltins "str" = some (.type "str") := by decide +kernel
theorem bo_tuple : bootBuiltins "tuple" = some (.type "tuple") := by decide +kernel
theorem bo_list : bootBuiltins "list" = some (.type "list") := by decide +kernel
theorem bo_ValueError : bootBuiltins "ValueError" = some (.type "ValueError") := by decide +kernel
end Fw
end
set_option Elab.async false
set_option linter.all false
set_option maxRecDepth 100000
set_option maxHeartbeats 4000000
noncomputable section
namespace Fw
open PySem PySem.Spec PyProof.Rows L2
section
variable {X : Cx} {W : WX} {gl : Str → Option PyData} {cl : Nat → List D → Gh → Rs D} {wf n : Nat} {pos : Pos}
theorem e_var (i : Nat) {x : Str} (hN : X.N[i]? = some x := by rfl) (hv : Vis X.env.scope x := by first | exact .inl rfl | exact .inr (.inl rfl) | exact .inr (.inr rfl)) (hd : (x == ("__debug__" : Str)) = false := by decide) (hcd : (x == ("__classdict__" : Str)) = false := by decide) : SE X W gl cl (.Name x pos) (.var i) := se_var hN hv hd hcd
theorem e_non {j} : SE X W gl cl (.Constant .none j pos) .non := se_non
theorem e_bl {b j} : SE X W gl cl (.Constant (.bool b) j pos) (.bl b) := se_bl
theorem e_int {i j} : SE X W gl cl (.Constant (.int i) j pos) (.int i) := se_int
theorem e_str {x j} : SE X W gl cl (.Constant (.str x) j pos) (.str x) := se_str
theorem e_gl {x : Str} {p : PyData} (hk : GlK X.K X.mg x p) (hg : Gl X x := by rfl) (hp : gl x = some p := by rfl) (hd : (x == ("__debug__" : Str)) = false := by decide) : SE X W gl cl (.Name x pos) (.gl x) := se_gl hg hk hp hd
theorem e_bin (o : BinO) {a b : Expr} {ca cb : CE} (ha : SE X W gl cl a ca) (hb : SE X W gl cl b cb) : SE X W gl cl (.BinOp a o.op b pos) (.bin o ca cb) := se_bin ha hb
theorem e_neg {a : Expr} {ca : CE} (ha : SE X W gl cl a ca) : SE X W gl cl (.UnaryOp .USub a pos) (.neg ca) := se_neg ha
theorem e_not {a : Expr} {ca : CE} (ha : SE X W gl cl a ca) : SE X W gl cl (.UnaryOp .Not a pos) (.not ca) := se_not ha
theorem e_cmp (G : Gd X W n) (o : CmpO) {a b : Expr} {ca cb : CE} (ha : SE X W gl cl a ca) (hb : SE X W gl cl b cb) (hm : behindInMarks o.op b = false := by with_unfolding_all rfl) : SE X W gl cl (.Compare a [o.op] [b] pos) (.cmp o ca cb) := se_cmp G.units5 ha hb hm
theorem e_chn (G : Gd X W n) (o p : CmpO) {a b c : Expr} {ca cb cc : CE} (ha : SE X W gl cl a ca) (hb : SE X W gl cl b cb) (hc : SE X W gl cl c cc) (hm : lastMarks [o.op, p.op] [b, c] = false := by with_unfolding_all rfl) : SE X W gl cl (.Compare a [o.op, p.op] [b, c] pos) (.chn o p ca cb cc) := se_chn G.units5 ha hb hc hm
theorem e_one {op} {a : Expr} {c : CE} (h : SE X W gl cl a c) : SE X W gl cl (.BoolOp op [a] pos) c := se_one h
theorem e_and {a b : Expr} {rest : List Expr} {ca cb : CE} (ha : SE X W gl cl a ca) (hb : SE X W gl cl (.BoolOp .And (b :: rest) pos) cb) : SE X W gl cl (.BoolOp .And (a :: b :: rest) pos) (.and ca cb) := se_and ha hb
theorem e_or {a b : Expr} {rest : List Expr} {ca cb : CE} (ha : SE X W gl cl a ca) (hb : SE X W gl cl (.BoolOp .Or (b :: rest) pos) cb) : SE X W gl cl (.BoolOp .Or (a :: b :: rest) pos) (.or ca cb) := se_or ha hb
theorem e_ite {c a b : Expr} {cc ca cb : CE} (hc : ST X W gl cl c cc) (ha : SE X W gl cl a ca) (hb : SE X W gl cl b cb) : SE X W gl cl (.IfExp c a b pos) (.ite cc ca cb) := se_ite hc ha hb
theorem e_ix {a b : Expr} {ca cb : CE} (ha : SE X W gl cl a ca) (hb : SE X W gl cl b cb) (hs : PlainIx b := by intro _ _; rfl) : SE X W gl cl (.Subscript a b pos) (.ix ca cb) := se_ix ha hb hs
theorem e_sl {a : Expr} {lo hi : Option Expr} {ca : CE} {cl' ch : CO} {p2 : Pos} (ha : SE X W gl cl a ca) (hl : SO X W gl cl lo cl') (hh : SO X W gl cl hi ch) : SE X W gl cl (.Subscript a (.Slice lo hi none p2) pos) (.sl ca cl' ch) := se_sl ha hl hh
theorem o_no : SO X W gl cl none .no := so_no
theorem o_so {e : Expr} {c : CE} (h : SE X W gl cl e c) : SO X W gl cl (some e) (.so c) := so_so h
theorem a_nil : SA X W gl cl [] .nil := sa_nil
theorem a_cons {e : Expr} {es : List Expr} {c : CE} {cs : CEs} (h1 : SE X W gl cl e c) (h2 : SA X W gl cl es cs) (hs : starEach (e :: es) X.env = (false, eval e X.env) :: starEach es X.env := by rfl) : SA X W gl cl (e :: es) (.cons c cs) := sa_cons h1 h2 hs
theorem e_tup {es : List Expr} {k : Nat} {cs : CEs} (h : SA X W gl cl es cs) : SE X W gl cl (.Tuple es k pos) (.tup cs) := se_tup h
theorem e_lst {es : List Expr} {m : Bool} {cs : CEs} (h : SA X W gl cl es cs) : SE X W gl cl (.List es pos) (.lst m cs) := se_lst h
theorem e_biB (G : Gd X W n) (b : Bi) {id : String} {x : Str} {p : Pos} {e : Expr} {es : List Expr} {cs : CEs} (hm : X.mg x = none) (hb : bootBuiltins x = some (.builtin id)) (ha : SA X W gl cl (e :: es) cs) (nb : ∀ t, b ≠ .isi t := by exact fun _ z => nomatch z) (hv : b.val = .builtin id := by rfl) (hg : Gl X x := by rfl)
    (hn : x ≠ "__name__" := by decide) (hd : (x == ("__debug__" : Str)) = false := by decide) (he : starEach (e :: es) X.env = (false, eval e X.env) :: starEach es X.env := by rfl) (hpl : (backTo pos (starEach es X.env)).any (·.1) = false := by rfl) : SE X W gl cl (.Call (.Name x p) (e :: es) [] pos) (.bi b cs) := se_biB b G nb hv hg hm hb ha hn hd he hpl
theorem e_biT (G : Gd X W n) (b : Bi) {T : String} {x : Str} {p : Pos} {e : Expr} {es : List Expr} {cs : CEs} (hm : X.mg x = none) (hb : bootBuiltins x = some (.type T)) (ha : SA X W gl cl (e :: es) cs) (nb : ∀ t, b ≠ .isi t := by exact fun _ z => nomatch z) (hv : b.val = .type T := by rfl) (hg : Gl X x := by rfl)
    (hn : x ≠ "__name__" := by decide) (hd : (x == ("__debug__" : Str)) = false := by decide) (he : starEach (e :: es) X.env = (false, eval e X.env) :: starEach es X.env := by rfl) (hpl : (backTo pos (starEach es X.env)).any (·.1) = false := by rfl) : SE X W gl cl (.Call (.Name x p) (e :: es) [] pos) (.bi b cs) := se_biT b G nb hv hg hm hb ha hn hd he hpl
theorem e_isi (t : String) {e : Expr} {c : CE} {p p2 : Pos} (h : SE X W gl cl e c) (hm : X.mg "isinstance" = none) (hm2 : X.mg (Str.ofString t) = none) (hv2 : bootBuiltins (Str.ofString t) = some (.type t)) (ht : t = "int" ∨ t = "bool" ∨ t = "str" ∨ t = "tuple" ∨ t = "list" := by decide)
    (hg : Gl X "isinstance" := by rfl) (hg2 : Gl X (Str.ofString t) := by rfl) (hn2 : Str.ofString t ≠ "__name__" := by decide) (hd2 : (Str.ofString t == ("__debug__" : Str)) = false := by decide)
    (he : starEach [e, .Name (Str.ofString t) p2] X.env = (false, eval e X.env) :: starEach [.Name (Str.ofString t) p2] X.env := by rfl) (he2 : starEach [.Name (Str.ofString t) p2] X.env = (false, eval (.Name (Str.ofString t) p2) X.env) :: starEach [] X.env := by rfl)
    (hpl : (backTo pos (starEach [.Name (Str.ofString t) p2] X.env)).any (·.1) = false := by rfl) : SE X W gl cl (.Call (.Name "isinstance" p) [e, .Name (Str.ofString t) p2] [] pos) (.bi (.isi (Str.ofString t)) (.cons c .nil)) := se_isi ht h hg hm hg2 hm2 hv2 hn2 hd2 he he2 hpl
theorem e_mth (m : Mt) {o e : Expr} {es : List Expr} {co : CE} {cs : CEs} {name : Str} {apos cpos : Pos} (slot : Slot "list" name m.id) (hty : typeOf (.builtin m.id) = pure (.type "method_descriptor")) (ho : SE X W gl cl o co) (ha : SA X W gl cl (e :: es) cs)
    (hbase : attributeBase o name X.env (eval o X.env) = eval o X.env := by rfl)
    (hfew : ((backTo cpos (starEach (e :: es) X.env)).all (fun x => !x.1) && (backToKw cpos (keywordEach [] X.env)).all (fun x => x.1.isSome)
      && decide ((e :: es).length + ([] : List Keyword).length + (if ([] : List Keyword).isEmpty then 0 else 1) < 30)) = true := by rfl)
    (hline : (apos.endLine == cpos.line) = true := by rfl) (hs : starEach (e :: es) X.env = (false, eval e X.env) :: starEach es X.env := by rfl) (hplain : (backTo cpos (starEach es X.env)).any (·.1) = false := by rfl) :
    SE X W gl cl (.Call (.Attribute o name apos) (e :: es) [] cpos) (.mth m co cs) := se_mth PySem.F.plainAttrs_list slot hty ho ha hbase hfew hline hs hplain
theorem e_mth0 (m : Mt) {o : Expr} {co : CE} {name : Str} {apos cpos : Pos} (slot : Slot "list" name m.id) (hty : typeOf (.builtin m.id) = pure (.type "method_descriptor")) (ho : SE X W gl cl o co)
    (hbase : attributeBase o name X.env (eval o X.env) = eval o X.env := by rfl) (hline : (apos.endLine == cpos.line) = true := by rfl) : SE X W gl cl (.Call (.Attribute o name apos) [] [] cpos) (.mth m co .nil) := se_mth0 PySem.F.plainAttrs_list slot hty ho hbase hline
theorem e_call {np f : Nat} {x y : Str} {p : Pos} {e : Expr} {es : List Expr} {cs : CEs} (G : Gd X W n) (C : CallOk X.prog X.w X.K X.mg X.base n y np (cl f)) (ha : SA X W gl cl (e :: es) cs) (hxy : x = y := by rfl) (hg : Gl X x := by rfl)
    (hd : (x == ("__debug__" : Str)) = false := by decide) (he : starEach (e :: es) X.env = (false, eval e X.env) :: starEach es X.env := by rfl) (hpl : (backTo pos (starEach es X.env)).any (·.1) = false := by rfl) : SE X W gl cl (.Call (.Name x p) (e :: es) [] pos) (.call f cs) := by
  subst hxy
  exact se_call G C hg ha hd he hpl
theorem e_mlist (G : Gd X W n) {e : Expr} {c : CE} {p : Pos} (hm : X.mg "list" = none) (ha : SE X W gl cl e c) (hg : Gl X "list" := by rfl)
    (he : starEach [e] X.env = (false, eval e X.env) :: starEach [] X.env := by rfl) (hpl : (backTo pos (starEach [] X.env)).any (·.1) = false := by rfl) : SE X W gl cl (.Call (.Name "list" p) [e] [] pos) (.mlist c) := se_mlist G hg hm ha he hpl

theorem t_val {e : Expr} {c : CE} (h : SE X W gl cl e c) (he : ∀ whole, isTrue e X.env whole = (do let v ← whole; standAt e.pos; holding [v] (truthy v)) := by intro _; rfl) : ST X W gl cl e c := st_val h he
theorem t_cmp (G : Gd X W n) (o : CmpO) {a b : Expr} {ca cb : CE} (ha : SE X W gl cl a ca) (hb : SE X W gl cl b cb) (hm : behindInMarks o.op b = false := by with_unfolding_all rfl) : ST X W gl cl (.Compare a [o.op] [b] pos) (.cmp o ca cb) := st_cmp G.units5 ha hb hm
theorem t_chn (G : Gd X W n) (o p : CmpO) {a b c : Expr} {ca cb cc : CE} (ha : SE X W gl cl a ca) (hb : SE X W gl cl b cb) (hc : SE X W gl cl c cc) (hm : lastMarks [o.op, p.op] [b, c] = false := by with_unfolding_all rfl) : ST X W gl cl (.Compare a [o.op, p.op] [b, c] pos) (.chn o p ca cb cc) := st_chn G.units5 ha hb hc hm
theorem t_ite {c a b : Expr} {cc ca cb : CE} (hc : ST X W gl cl c cc) (ha : ST X W gl cl a ca) (hb : ST X W gl cl b cb) : ST X W gl cl (.IfExp c a b pos) (.ite cc ca cb) where
  run := by
    intro pins s sg H Q I ⟨rho, fr, g, hl, hf, hw, h⟩
    have h2 : Pst X.K W sg (fun _ _ a b => a = b) rho H ((evT gl cl cc fr g).bind fun t g1 => if t = true then evT gl cl ca fr g1 else evT gl cl cb fr g1) Q := by
      unfold evT at h ⊢
      unfold ev at h
      rw [Rs.bind_assoc] at h ⊢
      cases q : ev gl cl cc fr g with
      | bad => rw [q] at h; exact h
      | exc _ _ => rw [q] at h; exact h
      | ok x g1 =>
        rw [q, Rs.ok_bind] at h
        rw [Rs.ok_bind]
        cases q2 : truV x g1 with
        | none => rw [q2] at h; exact (show False from h).elim
        | some b => rw [q2] at h; cases b <;> exact h
    refine PyProof.Rows.isTrue_IfExp (thn (hc.run pins s sg H _ I (stepT hl hf hw h2)) ?_)
    rintro k s1 ⟨H1, I1, rho1, g1, d, e1, hf1, hw1, rd, h1⟩
    subst rd
    cases d with
    | true => exact ha.run pins s1 sg H1 Q I1 ⟨rho1, fr, g1, hl, hf1, hw1, h1⟩
    | false => exact hb.run pins s1 sg H1 Q I1 ⟨rho1, fr, g1, hl, hf1, hw1, h1⟩
theorem w_and1 {a : Expr} {c : CE} (h : ST X W gl cl a c) : SW X W gl cl (.BoolOp .And [a] pos) c := sw_and1 h
theorem w_or1 {a : Expr} {c : CE} (h : ST X W gl cl a c) : SW X W gl cl (.BoolOp .Or [a] pos) c := sw_or1 h
theorem w_and {a b : Expr} {rest : List Expr} {ca cb : CE} (ha : ST X W gl cl a ca) (hb : SW X W gl cl (.BoolOp .And (b :: rest) pos) cb) : SW X W gl cl (.BoolOp .And (a :: b :: rest) pos) (.and ca cb) := sw_and ha hb
theorem w_or {a b : Expr} {rest : List Expr} {ca cb : CE} (ha : ST X W gl cl a ca) (hb : SW X W gl cl (.BoolOp .Or (b :: rest) pos) cb) : SW X W gl cl (.BoolOp .Or (a :: b :: rest) pos) (.or ca cb) := sw_or ha hb
theorem t_sw {e : Expr} {c : CE} (h : SW X W gl cl e c) : ST X W gl cl e c := st_sw h
theorem t_not {a : Expr} {c : CE} (h : ST X W gl cl a c) : ST X W gl cl (.UnaryOp .Not a pos) (.not c) := st_not h

theorem g_nm (hN : X.N.Nodup) (i : Nat) {x : Str} (hi : X.N[i]? = some x := by rfl) (hx : Loc X.env.scope x := by first | exact .inl rfl | exact .inr rfl) (hf : X.fn x = true ∨ X.env.scope.names.lookup x = some .local := by first | exact .inl rfl | exact .inr rfl) : PG X (.Name x pos) (gT X.K (.nm i)) := sg_nm hN hi hx hf
theorem gs_nil : PGs X [] (gTs X.K []) := sgs_nil
theorem gs_cons {e : Expr} {es : List Expr} {t : Tg} {ts : List Tg} (h1 : PG X e (gT X.K t)) (h2 : PGs X es (gTs X.K ts)) (hs : (assignEach (e :: es) X.env).map (·.2) = assign e X.env :: (assignEach es X.env).map (·.2) := by rfl) : PGs X (e :: es) (gTs X.K (t :: ts)) := sgs_cons h1 h2 hs
theorem g_tp (hc : X.calm = true) {es : List Expr} {k m : Nat} {ts : List Tg} (h : PGs X es (gTs X.K ts)) (hm : ts.length = m := by rfl) (hn : (assignEach es X.env).length = m := by rfl) (hst : (assignEach es X.env).findIdx? (·.1) = none := by rfl) : PG X (.Tuple es k pos) (gT X.K (.tp ts)) := sg_tp hc h hm hn hst
theorem i_nm (hN : X.N.Nodup) (i : Nat) {x : Str} (hi : X.N[i]? = some x := by rfl) (hx : Loc X.env.scope x := by first | exact .inl rfl | exact .inr rfl) (hf : X.fn x = true ∨ X.env.scope.names.lookup x = some .local := by first | exact .inl rfl | exact .inr rfl) : PG X (.Name x pos) (gI X.K (.nm i)) := si_nm (sg_nm hN hi hx hf)
theorem i_tp (hc : X.calm = true) {es : List Expr} {k m : Nat} {ts : List Tg} (h : PGs X es (gTs X.K ts)) (hm : ts.length = m := by rfl) (hn : (assignEach es X.env).length = m := by rfl) (hst : (assignEach es X.env).findIdx? (·.1) = none := by rfl) : PG X (.Tuple es k pos) (gI X.K (.tp ts)) := si_tp hc h hm hn hst
variable {tg : Expr}
theorem q_seq {e : Expr} {c : CE} (h : SE X W gl cl e c) : SI X W gl cl tg e (.seq c) := si_seq h
theorem q_rng1 {a : Expr} {ca : CE} {p : Pos} (hm : X.mg "range" = none) (ha : SE X W gl cl a ca) (hg : Gl X "range" := by rfl) (hs : starEach [a] X.env = [(false, eval a X.env)] := by rfl) : SI X W gl cl tg (.Call (.Name "range" p) [a] [] pos) (.rng1 ca) := si_rng1 hg hm ha hs
theorem q_rng2 {a b : Expr} {ca cb : CE} {p : Pos} (hm : X.mg "range" = none) (ha : SE X W gl cl a ca) (hb : SE X W gl cl b cb) (hg : Gl X "range" := by rfl) (hs : starEach [a, b] X.env = [(false, eval a X.env), (false, eval b X.env)] := by rfl) (hs2 : starEach [b] X.env = [(false, eval b X.env)] := by rfl) : SI X W gl cl tg (.Call (.Name "range" p) [a, b] [] pos) (.rng2 ca cb) := si_rng2 hg hm ha hb hs hs2
theorem q_enum {e : Expr} {c : CE} {p tpos : Pos} {elts : List Expr} {kk : Nat} (hm : X.mg "enumerate" = none) (h : SE X W gl cl e c) (hg : Gl X "enumerate" := by rfl) (hs : starEach [e] X.env = [(false, eval e X.env)] := by rfl) : SI X W gl cl (.Tuple elts kk tpos) (.Call (.Name "enumerate" p) [e] [] pos) (.enum c) := si_enum hg hm h hs
theorem q_zip {e e2 : Expr} {c c2 : CE} {p tpos : Pos} {elts : List Expr} {kk : Nat} (hm : X.mg "zip" = none) (h : SE X W gl cl e c) (h2 : SE X W gl cl e2 c2) (hg : Gl X "zip" := by rfl) (hs : starEach [e, e2] X.env = (false, eval e X.env) :: starEach [e2] X.env := by rfl)
    (hs2 : starEach [e2] X.env = (false, eval e2 X.env) :: starEach [] X.env := by rfl) (hpl : (backTo pos (starEach [e2] X.env)).any (·.1) = false := by rfl) : SI X W gl cl (.Tuple elts kk tpos) (.Call (.Name "zip" p) [e, e2] [] pos) (.zip c c2) := si_zip hg hm h h2 hs hs2 hpl
theorem c_no : SC X W gl cl [] .no := sc_no
theorem c_so {e : Expr} {c : CE} (h : ST X W gl cl e c) : SC X W gl cl [e] (.so c) := sc_so h

theorem s_expr {e : Expr} {c : CE} (h : SE X W gl cl e c) (hs : swapsWith e none pos.line X.env = pure false := by rfl) : SS X W gl cl wf (.Expr e pos) (.expr c) := ss_expr h hs
theorem s_ret {e : Expr} {c : CE} (h : SE X W gl cl e c) : SS X W gl cl wf (.Return (some e) pos) (.ret c) := ss_ret h
theorem s_if {e : Expr} {a b : List Stmt} {c : CE} {ca cb : CSs} (h : ST X W gl cl e c) (ha : SSs X W gl cl wf a ca) (hb : SSs X W gl cl wf b cb) : SS X W gl cl wf (.If e a b pos) (.ife c ca cb) := ss_if h ha hb
theorem s_name (G : Gd X W n) (i : Nat) {x : Str} {e : Expr} {c : CE} {pos' : Pos} (he : SE X W gl cl e c) (hi : X.N[i]? = some x := by rfl) (hx : Loc X.env.scope x := by first | exact .inl rfl | exact .inr rfl) (hs : swapsWith e (some (.Name x pos')) pos.line X.env = pure false := by rfl) (hf : X.fn x = true ∨ X.env.scope.names.lookup x = some .local := by first | exact .inl rfl | exact .inr rfl) :
    SS X W gl cl wf (.Assign [.Name x pos'] e pos) (.set (.nm i) c) := ss_name G.hN hi hx he hs hf
theorem s_tup {tg e : Expr} {c : CE} {t : Tg} (he : SE X W gl cl e c) (hg : PG X tg (gT X.K t)) (hs : swapsWithSole [tg] e pos.line X.env = pure false := by rfl) (hw : swappedStores [tg] e X.env = pure none := by rfl) (h1 : (assignEach [tg] X.env).map (·.2) = [assign tg X.env] := by rfl) : SS X W gl cl wf (.Assign [tg] e pos) (.set t c) := ss_tup he hg hs hw h1
theorem s_par (G : Gd X W n) (i j : Nat) {x y : Str} {a b : Expr} {ca cb : CE} {px py pt : Pos} {kt k2 pt2} (ha : SE X W gl cl a ca) (hb : SE X W gl cl b cb) (hi : X.N[i]? = some x := by rfl) (hj : X.N[j]? = some y := by rfl) (hij : i ≠ j := by decide) (hx : X.env.scope.names.lookup x = some .local := by rfl) (hy : X.env.scope.names.lookup y = some .local := by rfl)
    (hs1 : starEach [a, b] X.env = (false, eval a X.env) :: starEach [b] X.env := by rfl) (hs2 : starEach [b] X.env = (false, eval b X.env) :: starEach [] X.env := by rfl) (hw : swappedStores [.Tuple [.Name x px, .Name y py] kt pt] (.Tuple [a, b] k2 pt2) X.env = pure (some [x, y]) := by rfl)
    (hs : swapsWithSole [.Tuple [.Name x px, .Name y py] kt pt] (.Tuple [a, b] k2 pt2) pos.line X.env = pure false := by rfl) : SS X W gl cl wf (.Assign [.Tuple [.Name x px, .Name y py] kt pt] (.Tuple [a, b] k2 pt2) pos) (.par i j ca cb) := ss_par G.calm G.hN hi hj hij hx hy ha hb hs1 hs2 hw hs
theorem s_par3 (G : Gd X W n) (i j k : Nat) {x y z : Str} {a b c : Expr} {ca cb cc : CE} {px py pz pt : Pos} {kt k2 pt2} (ha : SE X W gl cl a ca) (hb : SE X W gl cl b cb) (hcc : SE X W gl cl c cc) (hi : X.N[i]? = some x := by rfl) (hj : X.N[j]? = some y := by rfl) (hk : X.N[k]? = some z := by rfl) (hij : i ≠ j := by decide) (hik : i ≠ k := by decide) (hjk : j ≠ k := by decide)
    (hx : X.env.scope.names.lookup x = some .local := by rfl) (hy : X.env.scope.names.lookup y = some .local := by rfl) (hz : X.env.scope.names.lookup z = some .local := by rfl)
    (hs1 : starEach [a, b, c] X.env = (false, eval a X.env) :: starEach [b, c] X.env := by rfl) (hs2 : starEach [b, c] X.env = (false, eval b X.env) :: starEach [c] X.env := by rfl) (hs3 : starEach [c] X.env = (false, eval c X.env) :: starEach [] X.env := by rfl)
    (hw : swappedStores [.Tuple [.Name x px, .Name y py, .Name z pz] kt pt] (.Tuple [a, b, c] k2 pt2) X.env = pure (some [x, y, z]) := by rfl)
    (hs : swapsWithSole [.Tuple [.Name x px, .Name y py, .Name z pz] kt pt] (.Tuple [a, b, c] k2 pt2) pos.line X.env = pure false := by rfl) : SS X W gl cl wf (.Assign [.Tuple [.Name x px, .Name y py, .Name z pz] kt pt] (.Tuple [a, b, c] k2 pt2) pos) (.par3 i j k ca cb cc) := ss_par3 G.calm G.hN hi hj hk hij hik hjk hx hy hz ha hb hcc hs1 hs2 hs3 hw hs
theorem s_sub {o i e : Expr} {co ci c : CE} {tpos : Pos} (ho : SE X W gl cl o co) (hi : SE X W gl cl i ci) (he : SE X W gl cl e c)
    (ha : ∀ v, assign (.Subscript o i tpos) X.env v = (do
      let ov ← holding [v] (eval o X.env)
      let iv ← holding [v, ov] (eval i X.env)
      standAt tpos
      holding [v, ov, iv] (setItem ov iv v)
      release [v, ov, iv] []) := by intro _; rfl)
    (hs : swapsWithSole [.Subscript o i tpos] e pos.line X.env = pure false := by rfl) (hw : swappedStores [.Subscript o i tpos] e X.env = pure none := by rfl) (h1 : (assignEach [.Subscript o i tpos] X.env).map (·.2) = [assign (.Subscript o i tpos) X.env] := by rfl) : SS X W gl cl wf (.Assign [.Subscript o i tpos] e pos) (.sub co ci c) := ss_sub ho hi he ha hs hw h1
theorem s_for (G : Gs X W n) {tg iter : Expr} {body : List Stmt} {t : Tg} {ci : CI} {cb : CSs} (hi : SI X W gl cl tg iter ci) (hg : PG X tg (gI X.K t)) (hb : SSs X W gl cl wf body cb) (hs : ∀ x, foldedSetIterable iter X.env x = pure x := by intro _; rfl) : SS X W gl cl wf (.For tg iter body [] pos) (.for_ t ci cb) := ss_for G.po G.calm hi hg hb hs
theorem s_while (G : Gs X W n) {e : Expr} {body : List Stmt} {c : CE} {cb : CSs} (h : ST X W gl cl e c) (hb : SSs X W gl cl wf body cb) : SS X W gl cl wf (.While e body [] pos) (.whl c cb) := ss_while G.po h hb

theorem e_lc (G : Gd X W n) (m : Bool) (own : List (Str × Nat)) {elt tg iter : Expr} {ifs : List Expr} {sco : Scope} {t : Tg} {ci : CI} {cc : CO} {c : CE} {wp : List Nat} (hi : SI X W gl cl tg iter ci)
    (hg : ∀ (s : Shared) (H : Hp) (C : Addr) (cl' : List (Str × Addr)) (fp : List Addr), Gd (X.blk s H sco (compEnvC sco cl' C X.env) fp) WF n → PG (X.blk s H sco (compEnvC sco cl' C X.env) fp) tg (gI X.K t)) (ht : ∀ (s : Shared) (H : Hp) (C : Addr) (cl' : List (Str × Addr)) (fp : List Addr), Gd (X.blk s H sco (compEnvC sco cl' C X.env) fp) WF n → SC (X.blk s H sco (compEnvC sco cl' C X.env) fp) WF gl cl ifs cc) (he : ∀ (s : Shared) (H : Hp) (C : Addr) (cl' : List (Str × Addr)) (fp : List Addr), Gd (X.blk s H sco (compEnvC sco cl' C X.env) fp) WF n → SE (X.blk s H sco (compEnvC sco cl' C X.env) fp) WF gl cl elt c)
    (ok : blkC X.N X.env.scope sco own = true := by with_unfolding_all rfl) (hwp : own.map (·.2) = wp := by rfl) (hsl : (slots t).all (fun i => decide (i ∈ wp)) = true := by rfl) (hs : ∀ x, foldedSetIterable iter X.env x = pure x := by intro _; rfl) :
    SE X W gl cl (.ListComp elt [⟨tg, iter, ifs, 0⟩] sco pos) (.lc m t ci wp cc c) := se_lc G hi ok hwp hsl (fun s H C cl' fp => hg s H C cl' fp (G.blk ..)) ht he hs
theorem s_lc (G : Gd X W n) (i : Nat) (m : Bool) (own : List (Str × Nat)) {y : Str} {py lpos : Pos} {elt tg iter : Expr} {ifs : List Expr} {sco : Scope} {t : Tg} {ci : CI} {cc : CO} {c : CE} {wp : List Nat} (hi : SI X W gl cl tg iter ci)
    (hg : ∀ (s : Shared) (H : Hp) (C : Addr) (cl' : List (Str × Addr)) (fp : List Addr), Gd (X.blk s H sco (compEnvC sco cl' C X.env) fp) WF n → PG (X.blk s H sco (compEnvC sco cl' C X.env) fp) tg (gI X.K t)) (ht : ∀ (s : Shared) (H : Hp) (C : Addr) (cl' : List (Str × Addr)) (fp : List Addr), Gd (X.blk s H sco (compEnvC sco cl' C X.env) fp) WF n → SC (X.blk s H sco (compEnvC sco cl' C X.env) fp) WF gl cl ifs cc) (he : ∀ (s : Shared) (H : Hp) (C : Addr) (cl' : List (Str × Addr)) (fp : List Addr), Gd (X.blk s H sco (compEnvC sco cl' C X.env) fp) WF n → SE (X.blk s H sco (compEnvC sco cl' C X.env) fp) WF gl cl elt c)
    (hy : X.N[i]? = some y := by rfl) (hyl : X.env.scope.names.lookup y = some .local := by rfl) (hsw : swapsWith (.ListComp elt [⟨tg, iter, ifs, 0⟩] sco lpos) (some (.Name y py)) pos.line X.env = pure true := by exact sw_true rfl rfl rfl rfl)
    (ok : blkC X.N X.env.scope sco own = true := by with_unfolding_all rfl) (hwp : own.map (·.2) = wp := by rfl) (hsl : (slots t).all (fun i => decide (i ∈ wp)) = true := by rfl) (hs : ∀ x, foldedSetIterable iter X.env x = pure x := by intro _; rfl) :
    SS X W gl cl wf (.Assign [.Name y py] (.ListComp elt [⟨tg, iter, ifs, 0⟩] sco lpos) pos) (.set (.nm i) (.lc m t ci wp cc c)) := ss_lc G hy hyl hsw hi ok hwp hsl (fun s H C cl' fp => hg s H C cl' fp (G.blk ..)) ht he hs
theorem e_lc2 (G : Gd X W n) (m : Bool) (own : List (Str × Nat)) (wp2 : List Nat) {elt tg iter tg2 iter2 : Expr} {ifs ifs2 : List Expr} {sco : Scope} {t t2 : Tg} {ci ci2 : CI} {cc cc2 : CO} {c : CE} {wp : List Nat} (hi : SI X W gl cl tg iter ci)
    (hg : ∀ (s : Shared) (H : Hp) (C : Addr) (cl' : List (Str × Addr)) (fp : List Addr), Gd (X.blk s H sco (compEnvC sco cl' C X.env) fp) WF n → PG (X.blk s H sco (compEnvC sco cl' C X.env) fp) tg (gI X.K t)) (ht : ∀ (s : Shared) (H : Hp) (C : Addr) (cl' : List (Str × Addr)) (fp : List Addr), Gd (X.blk s H sco (compEnvC sco cl' C X.env) fp) WF n → SC (X.blk s H sco (compEnvC sco cl' C X.env) fp) WF gl cl ifs cc) (hi2 : ∀ (s : Shared) (H : Hp) (C : Addr) (cl' : List (Str × Addr)) (fp : List Addr), Gd (X.blk s H sco (compEnvC sco cl' C X.env) fp) WF n → SI (X.blk s H sco (compEnvC sco cl' C X.env) fp) WF gl cl tg2 iter2 ci2)
    (hg2 : ∀ (s : Shared) (H : Hp) (C : Addr) (cl' : List (Str × Addr)) (fp : List Addr), Gd (X.blk s H sco (compEnvC sco cl' C X.env) fp) WF n → PG (X.blk s H sco (compEnvC sco cl' C X.env) fp) tg2 (gI X.K t2)) (ht2 : ∀ (s : Shared) (H : Hp) (C : Addr) (cl' : List (Str × Addr)) (fp : List Addr), Gd (X.blk s H sco (compEnvC sco cl' C X.env) fp) WF n → SC (X.blk s H sco (compEnvC sco cl' C X.env) fp) WF gl cl ifs2 cc2) (he : ∀ (s : Shared) (H : Hp) (C : Addr) (cl' : List (Str × Addr)) (fp : List Addr), Gd (X.blk s H sco (compEnvC sco cl' C X.env) fp) WF n → SE (X.blk s H sco (compEnvC sco cl' C X.env) fp) WF gl cl elt c)
    (ok : blkC X.N X.env.scope sco own = true := by with_unfolding_all rfl) (hwp : own.map (·.2) = wp := by rfl) (hsl : (slots t).all (fun i => decide (i ∈ wp)) = true := by rfl) (hv : (wp2.all fun i => decide (i ∈ wp)) = true := by rfl) (hsl2 : (slots t2).all (fun i => decide (i ∈ wp2)) = true := by rfl)
    (hs : ∀ x, foldedSetIterable iter X.env x = pure x := by intro _; rfl) (hs2 : ∀ env x, foldedSetIterable iter2 env x = pure x := by intro _ _; rfl) :
    SE X W gl cl (.ListComp elt [⟨tg, iter, ifs, 0⟩, ⟨tg2, iter2, ifs2, 0⟩] sco pos) (.lc2 m t ci cc t2 ci2 cc2 wp wp2 c) := se_lc2 G hi ok hwp hsl hv hsl2 (fun s H C cl' fp => hg s H C cl' fp (G.blk ..)) ht hi2 (fun s H C cl' fp => hg2 s H C cl' fp (G.blk ..)) ht2 he hs hs2
theorem s_lc2 (G : Gd X W n) (i : Nat) (m : Bool) (own : List (Str × Nat)) (wp2 : List Nat) {y : Str} {py lpos : Pos} {elt tg iter tg2 iter2 : Expr} {ifs ifs2 : List Expr} {sco : Scope} {t t2 : Tg} {ci ci2 : CI} {cc cc2 : CO} {c : CE} {wp : List Nat} (hi : SI X W gl cl tg iter ci)
    (hg : ∀ (s : Shared) (H : Hp) (C : Addr) (cl' : List (Str × Addr)) (fp : List Addr), Gd (X.blk s H sco (compEnvC sco cl' C X.env) fp) WF n → PG (X.blk s H sco (compEnvC sco cl' C X.env) fp) tg (gI X.K t)) (ht : ∀ (s : Shared) (H : Hp) (C : Addr) (cl' : List (Str × Addr)) (fp : List Addr), Gd (X.blk s H sco (compEnvC sco cl' C X.env) fp) WF n → SC (X.blk s H sco (compEnvC sco cl' C X.env) fp) WF gl cl ifs cc) (hi2 : ∀ (s : Shared) (H : Hp) (C : Addr) (cl' : List (Str × Addr)) (fp : List Addr), Gd (X.blk s H sco (compEnvC sco cl' C X.env) fp) WF n → SI (X.blk s H sco (compEnvC sco cl' C X.env) fp) WF gl cl tg2 iter2 ci2)
    (hg2 : ∀ (s : Shared) (H : Hp) (C : Addr) (cl' : List (Str × Addr)) (fp : List Addr), Gd (X.blk s H sco (compEnvC sco cl' C X.env) fp) WF n → PG (X.blk s H sco (compEnvC sco cl' C X.env) fp) tg2 (gI X.K t2)) (ht2 : ∀ (s : Shared) (H : Hp) (C : Addr) (cl' : List (Str × Addr)) (fp : List Addr), Gd (X.blk s H sco (compEnvC sco cl' C X.env) fp) WF n → SC (X.blk s H sco (compEnvC sco cl' C X.env) fp) WF gl cl ifs2 cc2) (he : ∀ (s : Shared) (H : Hp) (C : Addr) (cl' : List (Str × Addr)) (fp : List Addr), Gd (X.blk s H sco (compEnvC sco cl' C X.env) fp) WF n → SE (X.blk s H sco (compEnvC sco cl' C X.env) fp) WF gl cl elt c)
    (hy : X.N[i]? = some y := by rfl) (hyl : X.env.scope.names.lookup y = some .local := by rfl) (hsw : swapsWith (.ListComp elt [⟨tg, iter, ifs, 0⟩, ⟨tg2, iter2, ifs2, 0⟩] sco lpos) (some (.Name y py)) pos.line X.env = pure true := by exact sw_true rfl rfl rfl rfl)
    (ok : blkC X.N X.env.scope sco own = true := by with_unfolding_all rfl) (hwp : own.map (·.2) = wp := by rfl) (hsl : (slots t).all (fun i => decide (i ∈ wp)) = true := by rfl) (hv : (wp2.all fun i => decide (i ∈ wp)) = true := by rfl) (hsl2 : (slots t2).all (fun i => decide (i ∈ wp2)) = true := by rfl)
    (hs : ∀ x, foldedSetIterable iter X.env x = pure x := by intro _; rfl) (hs2 : ∀ env x, foldedSetIterable iter2 env x = pure x := by intro _ _; rfl) :
    SS X W gl cl wf (.Assign [.Name y py] (.ListComp elt [⟨tg, iter, ifs, 0⟩, ⟨tg2, iter2, ifs2, 0⟩] sco lpos) pos) (.set (.nm i) (.lc2 m t ci cc t2 ci2 cc2 wp wp2 c)) := ss_lc2 G hy hyl hsw hi ok hwp hsl hv hsl2 (fun s H C cl' fp => hg s H C cl' fp (G.blk ..)) ht hi2 (fun s H C cl' fp => hg2 s H C cl' fp (G.blk ..)) ht2 he hs hs2

theorem s_raise (G : Gs X W n) {x : Str} {D fI : Addr} {e : Expr} {c : CE} {p p2 : Pos} (room : Room 1 X.A) (FI : SupInit X.prog X.K fI D) (S : SupCls X.K (He.ga X.K x) D fI) (mS : X.mg "super" = none) (hm : X.mg x = some (.ref (He.ga X.K x))) (h : SE X W gl cl e c) (hg : Gl X x := by rfl)
    (hdb : (x == ("__debug__" : Str)) = false := by decide) (hs : starEach [e] X.env = (false, eval e X.env) :: starEach [] X.env := by rfl) (hpl : (backTo p2 (starEach [] X.env)).any (·.1) = false := by rfl) : SS X W gl cl wf (.Raise (some (.Call (.Name x p) [e] [] p2)) none pos) (.raise x c) := ss_raise G.calm G.tk FI S mS room hg hm h hdb hs hpl
theorem s_tryR (G : Gs X W n) (i : Nat) {cs : List Str} {x y : Str} {e e2 : Expr} {c : CE} {he : HE} {tab : List (Str × Bool)} {np bp rp pos' : Pos} (hm : X.mg x = some (.ref (He.ga X.K x))) (T : TabM X.K tab (.ref (He.ga X.K x))) (hcs : ∀ x b, tab.lookup x = some b → x ∈ cs)
    (hb : ∀ (W' : WX) (pn : List (Addr × Obj)) (xe : Value → Shared → Prop), Gd (X.tr pn xe) W' n → SE (X.tr pn xe) W' gl cl e c)
    (hsu : ∀ (a : Addr) (oe : Obj) (cls : Value) (d : Option Addr) (pn : List (Addr × Obj)), Zc cls d oe → (∃ vs, oe.data = .fields vs) → SH X gl cl cs i a oe cls d pn e2 he)
    (hst : X.stack = X.env :: X.outer := by rfl) (hfr : X.env.frame = some X.env.locals := by rfl) (hi : X.N[i]? = some y := by rfl) (hln : X.env.kindOf y = some .local := by rfl) (hg : Gl X x := by rfl) (hdb : (x == ("__debug__" : Str)) = false := by decide) :
    SS X W gl cl wf (.Try [.Return (some e) bp] [.ExceptHandler (some (.Name x np)) (some y) [.Return (some e2) rp] pos'] [] [] pos) (.tryx true c i [⟨tab, he⟩]) := ss_tryR G.toGd hst hfr hi hln ⟨hg, hdb, .inl hm⟩ T hcs hb hsu
theorem s_tryE (G : Gs X W n) (i : Nat) {cs : List Str} {x y : Str} {e e2 : Expr} {c : CE} {he : HE} {tab : List (Str × Bool)} {np bp rp pos' : Pos} (hm : X.mg x = some (.ref (He.ga X.K x))) (T : TabM X.K tab (.ref (He.ga X.K x))) (hcs : ∀ x b, tab.lookup x = some b → x ∈ cs)
    (hb : ∀ (W' : WX) (pn : List (Addr × Obj)) (xe : Value → Shared → Prop), Gd (X.tr pn xe) W' n → SE (X.tr pn xe) W' gl cl e c)
    (hsu : ∀ (a : Addr) (oe : Obj) (cls : Value) (d : Option Addr) (pn : List (Addr × Obj)), Zc cls d oe → (∃ vs, oe.data = .fields vs) → SH X gl cl cs i a oe cls d pn e2 he) (hsw : swapsWith e none bp.line X.env = pure false := by rfl)
    (hst : X.stack = X.env :: X.outer := by rfl) (hfr : X.env.frame = some X.env.locals := by rfl) (hi : X.N[i]? = some y := by rfl) (hln : X.env.kindOf y = some .local := by rfl) (hg : Gl X x := by rfl) (hdb : (x == ("__debug__" : Str)) = false := by decide) :
    SS X W gl cl wf (.Try [.Expr e bp] [.ExceptHandler (some (.Name x np)) (some y) [.Return (some e2) rp] pos'] [] [] pos) (.tryx false c i [⟨tab, he⟩]) := ss_tryE G.toGd hst hfr hi hln ⟨hg, hdb, .inl hm⟩ T hcs hb hsw hsu
variable {cs : List Str} {i : Nat} {a : Addr} {oe : Obj} {cls : Value} {d : Option Addr} {pn : List (Addr × Obj)}
theorem h_c {e : Expr} {c : CE} (h : SE (X.suite a ((a, oe) :: pn)) WF gl cl e c) : SH X gl cl cs i a oe cls d pn e (.c c) := sh_c h
theorem h_what {x : Str} {p : Pos} (hz : Zc cls d oe) (hfl : ∃ vs, oe.data = .fields vs) (ok : ∀ x ∈ cs, ExI X.K (He.ga X.K x)) (hN : X.N[i]? = some x := by rfl) (hv : Vis X.env.scope x := by first | exact .inl rfl | exact .inr (.inl rfl)) (hd : (x == ("__debug__" : Str)) = false := by decide) (hcd : (x == ("__classdict__" : Str)) = false := by decide)
    (hb : attributeBase (.Name x p) "what" X.env (eval (.Name x p) X.env) = eval (.Name x p) X.env := by rfl) : SH X gl cl cs i a oe cls d pn (.Attribute (.Name x p) "what" pos) .what := sh_what hN hv hd hcd hz hfl ok hb
theorem h_isO {x y : Str} {p p1 p2 : Pos} {tab : List (Str × Bool)} (hz : Zc cls d oe) (hfl : ∃ vs, oe.data = .fields vs) (hm : X.mg "isinstance" = none) (hmy : X.mg y = some (.ref (He.ga X.K y))) (T : TabI X.K tab (.ref (He.ga X.K y))) (hN : X.N[i]? = some x := by rfl) (hv : Vis X.env.scope x := by first | exact .inl rfl | exact .inr (.inl rfl)) (hd : (x == ("__debug__" : Str)) = false := by decide) (hcd : (x == ("__classdict__" : Str)) = false := by decide)
    (hg : Gl X "isinstance" := by rfl) (hgy : Gl X y := by rfl) (hdy : (y == ("__debug__" : Str)) = false := by decide) (he : starEach [.Name x p1, .Name y p2] X.env = (false, eval (.Name x p1) X.env) :: starEach [.Name y p2] X.env := by rfl) (he2 : starEach [.Name y p2] X.env = (false, eval (.Name y p2) X.env) :: starEach [] X.env := by rfl)
    (hpl : (backTo pos (starEach [.Name y p2] X.env)).any (·.1) = false := by rfl) : SH X gl cl cs i a oe cls d pn (.Call (.Name "isinstance" p) [.Name x p1, .Name y p2] [] pos) (.isi tab) :=
  sh_isi (c := .ref (He.ga X.K y)) hN hv hd hcd hz hfl T (fun u r => r) (pe_glob (X := X.suite a ((a, oe) :: pn)) hgy hmy rfl hdy) hg hm he he2 hpl
theorem h_isB (t : String) {x : Str} {p p1 p2 : Pos} {tab : List (Str × Bool)} (hz : Zc cls d oe) (hfl : ∃ vs, oe.data = .fields vs) (hm : X.mg "isinstance" = none) (hmy : X.mg (Str.ofString t) = none) (hbt : bootBuiltins (Str.ofString t) = some (.type t)) (T : TabI X.K tab (.type t)) (hN : X.N[i]? = some x := by rfl) (hv : Vis X.env.scope x := by first | exact .inl rfl | exact .inr (.inl rfl)) (hd : (x == ("__debug__" : Str)) = false := by decide) (hcd : (x == ("__classdict__" : Str)) = false := by decide)
    (hg : Gl X "isinstance" := by rfl) (hgy : Gl X (Str.ofString t) := by rfl) (hny : Str.ofString t ≠ "__name__" := by decide) (hdy : (Str.ofString t == ("__debug__" : Str)) = false := by decide) (he : starEach [.Name x p1, .Name (Str.ofString t) p2] X.env = (false, eval (.Name x p1) X.env) :: starEach [.Name (Str.ofString t) p2] X.env := by rfl) (he2 : starEach [.Name (Str.ofString t) p2] X.env = (false, eval (.Name (Str.ofString t) p2) X.env) :: starEach [] X.env := by rfl)
    (hpl : (backTo pos (starEach [.Name (Str.ofString t) p2] X.env)).any (·.1) = false := by rfl) : SH X gl cl cs i a oe cls d pn (.Call (.Name "isinstance" p) [.Name x p1, .Name (Str.ofString t) p2] [] pos) (.isi tab) :=
  sh_isi (c := .ty t) hN hv hd hcd hz hfl T (fun u r => r) (pe_bltn (X := X.suite a ((a, oe) :: pn)) hgy hmy hbt (v := .ty t) rfl hny hdy) hg hm he he2 hpl
theorem h_rep (G : Gd X W n) {e : Expr} {he : HE} {p : Pos} (hm : X.mg "repr" = none) (h : SH X gl cl cs i a oe cls d pn e he) (hg : Gl X "repr" := by rfl)
    (hs : starEach [e] X.env = (false, eval e X.env) :: starEach [] X.env := by rfl) (hpl : (backTo pos (starEach [] X.env)).any (·.1) = false := by rfl) : SH X gl cl cs i a oe cls d pn (.Call (.Name "repr" p) [e] [] pos) (.rep he) := sh_rep G h hg hm hs hpl
theorem h_and {e e2 : Expr} {he he2 : HE} {rest : List Expr} (h1 : SH X gl cl cs i a oe cls d pn e he) (h2 : SH X gl cl cs i a oe cls d pn (.BoolOp .And (e2 :: rest) pos) he2) : SH X gl cl cs i a oe cls d pn (.BoolOp .And (e :: e2 :: rest) pos) (.and he he2) := sh_and h1 h2
theorem h_one {e : Expr} {he : HE} {op} (h : SH X gl cl cs i a oe cls d pn e he) : SH X gl cl cs i a oe cls d pn (.BoolOp op [e] pos) he := sh_one h
theorem h_cmp (G : Gd X W n) (o : CmpO) {e e2 : Expr} {he he2 : HE} (h1 : SH X gl cl cs i a oe cls d pn e he) (h2 : SH X gl cl cs i a oe cls d pn e2 he2) (hm : behindInMarks o.op e2 = false := by with_unfolding_all rfl) : SH X gl cl cs i a oe cls d pn (.Compare e [o.op] [e2] pos) (.cmp o he he2) := sh_cmp G h1 h2 hm
theorem ha_nil : SHA X gl cl cs i a oe cls d pn [] .tp0 := sha_nil
theorem ha_cons {e : Expr} {es : List Expr} {he hes : HE} (h1 : SH X gl cl cs i a oe cls d pn e he) (h2 : SHA X gl cl cs i a oe cls d pn es hes) (hs : starEach (e :: es) X.env = (false, eval e X.env) :: starEach es X.env := by rfl) : SHA X gl cl cs i a oe cls d pn (e :: es) (.tp he hes) := sha_cons h1 h2 hs
theorem h_tup {es : List Expr} {hes : HE} {k : Nat} (h : SHA X gl cl cs i a oe cls d pn es hes) : SH X gl cl cs i a oe cls d pn (.Tuple es k pos) hes := sh_tup h
end
end Fw
end
set_option Elab.async false
set_option linter.all false
set_option maxRecDepth 100000
set_option maxHeartbeats 4000000
noncomputable section
namespace Fw
open PySem PySem.Spec PyProof.Rows L2
section
variable {X : Cx} {W : WX} {gl : Str → Option PyData} {cl : Nat → List D → Gh → Rs D} {wf : Nat} {pos : Pos}
theorem ss_par3C {i j k n : Nat} {a b c : Expr} {tgs : List Expr} {ca cb cc : CE} {pt : Pos} {kt k2 pt2} (hc : X.calm = true) (hg : PGs X tgs (gTs X.K [.nm i, .nm j, .nm k]))
    (hn : (assignEach tgs X.env).length = 3) (hst : (assignEach tgs X.env).findIdx? (·.1) = none)
    (ha : SE X W gl cl a ca) (hb : SE X W gl cl b cb) (hcc : SE X W gl cl c cc)
    (hs1 : starEach [a, b, c] X.env = (false, eval a X.env) :: starEach [b, c] X.env) (hs2 : starEach [b, c] X.env = (false, eval b X.env) :: starEach [c] X.env) (hs3 : starEach [c] X.env = (false, eval c X.env) :: starEach [] X.env)
    (hw : swappedStores [.Tuple tgs kt pt] (.Tuple [a, b, c] k2 pt2) X.env = pure none)
    (hs : swapsWithSole [.Tuple tgs kt pt] (.Tuple [a, b, c] k2 pt2) pos.line X.env = pure false)
    (h1 : (assignEach [.Tuple tgs kt pt] X.env).map (·.2) = [assign (.Tuple tgs kt pt) X.env]) :
    SS X W gl cl wf (.Assign [.Tuple tgs kt pt] (.Tuple [a, b, c] k2 pt2) pos) (.par3 i j k ca cb cc) := by
  refine ps_imp (ps_asg (pe_tup (pa_cons ha (pa_cons hb (pa_cons hcc pa_nil hs3) hs2) hs1)) (pg_tup hc hg hn hst) hs hw h1) fun Dn sg H ⟨rho, fr, g, hl, hf, hw0, hh⟩ => ?_
  unfold ex at hh
  refine (sstE hl hf hw0 hh).mono ?_
  rintro v H1 ⟨rho1, g1, d, e1, hf1, hw1, rd, h1⟩
  refine (sstE hl hf1 hw1 h1).mono ?_
  rintro u H2 ⟨rho2, g2, d2, e2, hf2, hw2, rd2, h2⟩
  refine (sstE hl hf2 hw2 h2).mono ?_
  rintro w H3 ⟨rho3, g3, d3, e3, hf3, hw3, rd3, h3⟩
  have h3 : PstS X.K W Dn rho3 H3 (.ok (.nx (((fr.set i (some d)).set j (some d2)).set k (some d3))) g3) := h3
  refine ⟨by show 3 ≤ sizeLine; rw [← line_eq]; decide, fun p hp => ?_⟩
  obtain ⟨e4, w4⟩ := hw3.alloc hp (.tup [v, u, w])
  have r1 := ((rd.ext hw1.mut e2).ext hw2.mut e3).ext hw3.mut e4
  have r2 := (rd2.ext hw2.mut e3).ext hw3.mut e4
  have r3 := rd3.ext hw3.mut e4
  refine ⟨p, [v, u, w], rfl, .inl (.inl upd_same), rfl, rho3, fr, [d, d2, d3], ((fr.set i (some d)).set j (some d2)).set k (some d3), hl, hf3.ext hw3.mut e4, .cons r1 (.cons r2 (.cons r3 .nil)), rfl, fun tau l2 hf2 so => ?_⟩
  exact h3 _ _ tau e4 w4 l2 hf2
theorem ss_parC {i j n : Nat} {a b : Expr} {tgs : List Expr} {ca cb : CE} {pt : Pos} {kt k2 pt2} (hc : X.calm = true) (hg : PGs X tgs (gTs X.K [.nm i, .nm j]))
    (hn : (assignEach tgs X.env).length = 2) (hst : (assignEach tgs X.env).findIdx? (·.1) = none)
    (ha : SE X W gl cl a ca) (hb : SE X W gl cl b cb)
    (hs1 : starEach [a, b] X.env = (false, eval a X.env) :: starEach [b] X.env) (hs2 : starEach [b] X.env = (false, eval b X.env) :: starEach [] X.env)
    (hw : swappedStores [.Tuple tgs kt pt] (.Tuple [a, b] k2 pt2) X.env = pure none)
    (hs : swapsWithSole [.Tuple tgs kt pt] (.Tuple [a, b] k2 pt2) pos.line X.env = pure false)
    (h1 : (assignEach [.Tuple tgs kt pt] X.env).map (·.2) = [assign (.Tuple tgs kt pt) X.env]) :
    SS X W gl cl wf (.Assign [.Tuple tgs kt pt] (.Tuple [a, b] k2 pt2) pos) (.par i j ca cb) := by
  refine ps_imp (ps_asg (pe_tup (pa_cons ha (pa_cons hb pa_nil hs2) hs1)) (pg_tup hc hg hn hst) hs hw h1) fun Dn sg H ⟨rho, fr, g, hl, hf, hw0, hh⟩ => ?_
  unfold ex at hh
  refine (sstE hl hf hw0 hh).mono ?_
  rintro v H1 ⟨rho1, g1, d, e1, hf1, hw1, rd, h1⟩
  refine (sstE hl hf1 hw1 h1).mono ?_
  rintro u H2 ⟨rho2, g2, d2, e2, hf2, hw2, rd2, h2⟩
  have h2 : PstS X.K W Dn rho2 H2 (.ok (.nx ((fr.set i (some d)).set j (some d2))) g2) := h2
  refine ⟨by show 2 ≤ sizeLine; rw [← line_eq]; decide, fun p hp => ?_⟩
  obtain ⟨e4, w4⟩ := hw2.alloc hp (.tup [v, u])
  have r1 := (rd.ext hw1.mut e2).ext hw2.mut e4
  have r2 := rd2.ext hw2.mut e4
  refine ⟨p, [v, u], rfl, .inl (.inl upd_same), rfl, rho2, fr, [d, d2], (fr.set i (some d)).set j (some d2), hl, hf2.ext hw2.mut e4, .cons r1 (.cons r2 .nil), rfl, fun tau l2 hf2 so => ?_⟩
  exact h2 _ _ tau e4 w4 l2 hf2
end
section
variable {X : Cx} {W : WX} {gl : Str → Option PyData} {cl : Nat → List D → Gh → Rs D} {wf : Nat} {n : Nat} {pos : Pos}
theorem s_par3C (G : Gd X W n) (i j k : Nat) {a b c : Expr} {tgs : List Expr} {ca cb cc : CE} {pt : Pos} {kt k2 pt2} (ha : SE X W gl cl a ca) (hb : SE X W gl cl b cb) (hcc : SE X W gl cl c cc) (hg : PGs X tgs (gTs X.K [.nm i, .nm j, .nm k]))
    (hn : (assignEach tgs X.env).length = 3 := by rfl) (hst : (assignEach tgs X.env).findIdx? (·.1) = none := by rfl)
    (hs1 : starEach [a, b, c] X.env = (false, eval a X.env) :: starEach [b, c] X.env := by rfl) (hs2 : starEach [b, c] X.env = (false, eval b X.env) :: starEach [c] X.env := by rfl) (hs3 : starEach [c] X.env = (false, eval c X.env) :: starEach [] X.env := by rfl)
    (hw : swappedStores [.Tuple tgs kt pt] (.Tuple [a, b, c] k2 pt2) X.env = pure none := by rfl)
    (hs : swapsWithSole [.Tuple tgs kt pt] (.Tuple [a, b, c] k2 pt2) pos.line X.env = pure false := by rfl)
    (h1 : (assignEach [.Tuple tgs kt pt] X.env).map (·.2) = [assign (.Tuple tgs kt pt) X.env] := by rfl) :
    SS X W gl cl wf (.Assign [.Tuple tgs kt pt] (.Tuple [a, b, c] k2 pt2) pos) (.par3 i j k ca cb cc) := ss_par3C (n := n) G.calm hg hn hst ha hb hcc hs1 hs2 hs3 hw hs h1
theorem s_parC (G : Gd X W n) (i j : Nat) {a b : Expr} {tgs : List Expr} {ca cb : CE} {pt : Pos} {kt k2 pt2} (ha : SE X W gl cl a ca) (hb : SE X W gl cl b cb) (hg : PGs X tgs (gTs X.K [.nm i, .nm j]))
    (hn : (assignEach tgs X.env).length = 2 := by rfl) (hst : (assignEach tgs X.env).findIdx? (·.1) = none := by rfl)
    (hs1 : starEach [a, b] X.env = (false, eval a X.env) :: starEach [b] X.env := by rfl) (hs2 : starEach [b] X.env = (false, eval b X.env) :: starEach [] X.env := by rfl)
    (hw : swappedStores [.Tuple tgs kt pt] (.Tuple [a, b] k2 pt2) X.env = pure none := by rfl)
    (hs : swapsWithSole [.Tuple tgs kt pt] (.Tuple [a, b] k2 pt2) pos.line X.env = pure false := by rfl)
    (h1 : (assignEach [.Tuple tgs kt pt] X.env).map (·.2) = [assign (.Tuple tgs kt pt) X.env] := by rfl) :
    SS X W gl cl wf (.Assign [.Tuple tgs kt pt] (.Tuple [a, b] k2 pt2) pos) (.par i j ca cb) := ss_parC (n := n) G.calm hg hn hst ha hb hs1 hs2 hw hs h1
end
end Fw
end
set_option Elab.async false
set_option linter.all false
set_option maxRecDepth 100000
set_option maxHeartbeats 4000000
noncomputable section
namespace Fw
open PySem PySem.Spec PyProof.Rows L2
section
variable {gl : Str → Option PyData} {cl : Nat → List D → Gh → Rs D} {wf : Nat} {fr : Fr} {g : Gh}
theorem y_non : ev gl cl .non fr g = .ok (.dat .none) g := rfl
theorem y_bl {b} : ev gl cl (.bl b) fr g = .ok (.dat (.bool b)) g := rfl
theorem y_int {i} : ev gl cl (.int i) fr g = .ok (.dat (.int i)) g := rfl
theorem y_str {x} : ev gl cl (.str x) fr g = .ok (.dat (.str x)) g := rfl
theorem y_var {i : Nat} {d : D} (h : fr[i]? = some (some d)) : ev gl cl (.var i) fr g = .ok d g := by unfold ev; rw [h]
theorem y_gl {x : Str} {p : PyData} (h : gl x = some p) : ev gl cl (.gl x) fr g = .ok (.dat p) g := by unfold ev; rw [h]
theorem y_tup {es} : ev gl cl (.tup es) fr g = (evs gl cl es fr g).bind fun ds g1 => match datsOf ds with
    | some ps => if ps.length ≤ line then .ok (.dat (.tuple ps)) g1 else .bad
    | none => .bad := rfl
theorem y_lst {m es} : ev gl cl (.lst m es) fr g = (evs gl cl es fr g).bind fun ds g1 => if ds.length ≤ line then
      (if m then .ok (.ref g1.length) (g1 ++ [.lst ds]) else match datsOf ds with
        | some ps => .ok (.dat (.list ps)) g1
        | none => .bad)
    else .bad := rfl
theorem y_bin {o a b} : ev gl cl (.bin o a b) fr g = (ev gl cl a fr g).bind fun x g1 => (ev gl cl b fr g1).bind fun y g2 => binV o x y g2 := rfl
theorem y_neg {a} : ev gl cl (.neg a) fr g = (ev gl cl a fr g).bind fun x g1 => match intOf x with
    | some i => .ok (.dat (.int (-i))) g1
    | none => .bad := rfl
theorem y_not {a} : ev gl cl (.not a) fr g = (ev gl cl a fr g).bind fun x g1 => match truV x g1 with
    | some b => .ok (.dat (.bool (!b))) g1
    | none => .bad := rfl
theorem y_cmp {o a b} : ev gl cl (.cmp o a b) fr g = (ev gl cl a fr g).bind fun x g1 => (ev gl cl b fr g1).bind fun y g2 => cmpV o x y g2 := rfl
theorem y_chn {o p a b c} : ev gl cl (.chn o p a b c) fr g = (ev gl cl a fr g).bind fun x g1 => (ev gl cl b fr g1).bind fun y g2 => (cmpV o x y g2).bind fun z g3 => match blOf z with
    | some true => (ev gl cl c fr g3).bind fun u g4 => cmpV p y u g4
    | some false => .ok (.dat (.bool false)) g3
    | none => .bad := rfl
theorem y_and {a b} : ev gl cl (.and a b) fr g = (ev gl cl a fr g).bind fun x g1 => match blOf x with
    | some true => ev gl cl b fr g1
    | some false => .ok (.dat (.bool false)) g1
    | none => .bad := rfl
theorem y_or {a b} : ev gl cl (.or a b) fr g = (ev gl cl a fr g).bind fun x g1 => match blOf x with
    | some true => .ok (.dat (.bool true)) g1
    | some false => ev gl cl b fr g1
    | none => .bad := rfl
theorem y_ite {c a b} : ev gl cl (.ite c a b) fr g = (ev gl cl c fr g).bind fun x g1 => match truV x g1 with
    | some true => ev gl cl a fr g1
    | some false => ev gl cl b fr g1
    | none => .bad := rfl
theorem y_ix {a i} : ev gl cl (.ix a i) fr g = (ev gl cl a fr g).bind fun x g1 => (ev gl cl i fr g1).bind fun y g2 => ixV x y g2 := rfl
theorem y_sl {a lo hi} : ev gl cl (.sl a lo hi) fr g = (ev gl cl a fr g).bind fun x g1 => (evo gl cl lo fr g1).bind fun l g2 => (evo gl cl hi fr g2).bind fun h g3 => slV x l h g3 := rfl
theorem y_call {f es} : ev gl cl (.call f es) fr g = (evs gl cl es fr g).bind fun ds g1 => cl f ds g1 := rfl
theorem y_bi {b es} : ev gl cl (.bi b es) fr g = (evs gl cl es fr g).bind fun ds g1 => biV b ds g1 := rfl
theorem y_mth {m o es} : ev gl cl (.mth m o es) fr g = (ev gl cl o fr g).bind fun x g1 => if isL x g1 then (evs gl cl es fr g1).bind fun ds g2 => mtd m x ds g2 else .bad := rfl
theorem y_mlist {a} : ev gl cl (.mlist a) fr g = (ev gl cl a fr g).bind fun d g1 => match (viaL g1 d).bind lstOf with
    | some ps => .ok (.ref g1.length) (g1 ++ [.lst (ps.map .dat)])
    | none => .bad := rfl
theorem ys_nil : evs gl cl .nil fr g = .ok [] g := rfl
theorem ys_cons {e es} : evs gl cl (.cons e es) fr g = (ev gl cl e fr g).bind fun d g1 => (evs gl cl es fr g1).bind fun ds g2 => .ok (d :: ds) g2 := rfl
theorem yo_no : evo gl cl .no fr g = .ok none g := rfl
theorem yo_so {e} : evo gl cl (.so e) fr g = (ev gl cl e fr g).bind fun d g1 => match intOf d with
    | some i => .ok (some i) g1
    | none => .bad := rfl
theorem yc_no : evc gl cl .no fr g = .ok true g := rfl
theorem yc_so {c} : evc gl cl (.so c) fr g = (ev gl cl c fr g).bind fun x g1 => match truV x g1 with
    | some b => .ok b g1
    | none => .bad := rfl
theorem yi_seq {a} : evi gl cl (.seq a) fr g = (ev gl cl a fr g).bind fun d g1 => match itemsV d g1 with
    | some z => .ok (z.1.map .one, z.2) g1
    | none => .bad := rfl
theorem yi_rng1 {a} : evi gl cl (.rng1 a) fr g = (ev gl cl a fr g).bind fun d g1 => match intOf d with
    | some j => if inB j then .ok ((rngI 0 j.toNat).map .one, none) g1 else .bad
    | none => .bad := rfl
theorem yi_enum {a} : evi gl cl (.enum a) fr g = (ev gl cl a fr g).bind fun d g1 => match pairI d with
    | some ds => .ok (ds.zipIdx.map fun p => .two (.dat (.int (p.2 : Nat))) p.1, none) g1
    | none => .bad := rfl
theorem yx_expr {e} : ex gl cl wf (.expr e) fr g = (ev gl cl e fr g).bind fun _ g1 => .ok (.nx fr) g1 := rfl
theorem yx_set {t e} : ex gl cl wf (.set t e) fr g = (ev gl cl e fr g).bind fun d g1 => match setT t d fr with
    | some fr1 => .ok (.nx fr1) g1
    | none => .bad := rfl
theorem yx_par {i j a b} : ex gl cl wf (.par i j a b) fr g = (ev gl cl a fr g).bind fun x g1 => (ev gl cl b fr g1).bind fun y g2 => .ok (.nx ((fr.set i (some x)).set j (some y))) g2 := rfl
theorem yx_par3 {i j k a b c} : ex gl cl wf (.par3 i j k a b c) fr g = (ev gl cl a fr g).bind fun x g1 => (ev gl cl b fr g1).bind fun y g2 => (ev gl cl c fr g2).bind fun z g3 => .ok (.nx (((fr.set i (some x)).set j (some y)).set k (some z))) g3 := rfl
theorem yx_sub {o i v} : ex gl cl wf (.sub o i v) fr g = (ev gl cl v fr g).bind fun z g1 => (ev gl cl o fr g1).bind fun x g2 => (ev gl cl i fr g2).bind fun y g3 => (setV x y z g3).bind fun _ g4 => .ok (.nx fr) g4 := rfl
theorem yx_ret {e} : ex gl cl wf (.ret e) fr g = (ev gl cl e fr g).bind fun d g1 => .ok (.rt d) g1 := rfl
theorem yx_ife {c a b} : ex gl cl wf (.ife c a b) fr g = (ev gl cl c fr g).bind fun x g1 => match truV x g1 with
    | some true => exs gl cl wf a fr g1
    | some false => exs gl cl wf b fr g1
    | none => .bad := rfl
theorem yx_for {t s b} : ex gl cl wf (.for_ t s b) fr g = (evi gl cl s fr g).bind fun its g1 => forGo (fun fr g => exs gl cl wf b fr g) t its.2 its.1 fr g1 := rfl
theorem yx_raise {x e} : ex gl cl wf (.raise x e) fr g = (ev gl cl e fr g).bind fun d g1 => match d with
    | .dat p => .exc ⟨x, p⟩ g1
    | _ => .bad := rfl
theorem yxs_nil : exs gl cl wf .nil fr g = .ok (.nx fr) g := rfl
theorem yxs_cons {s ss} : exs gl cl wf (.cons s ss) fr g = (ex gl cl wf s fr g).bind fun f g1 => match f with
    | .nx fr1 => exs gl cl wf ss fr1 g1
    | .rt d => .ok (.rt d) g1
    | .bk fr1 => .ok (.bk fr1) g1
    | .ct fr1 => .ok (.ct fr1) g1 := rfl
theorem bi_dat {b : Bi} {p : PyData} : biV b [.dat p] g = .ofP (biD b [p]) g := rfl
theorem bi_dat2 {b : Bi} {p q : PyData} : biV b [.dat p, .dat q] g = .ofP (biD b [p, q]) g := rfl
theorem cmp_dat {o : CmpO} {p q : PyData} : cmpV o (.dat p) (.dat q) g = .ofB (cmpD o p q) g := rfl
theorem bin_dat {o : BinO} {p q : PyData} : binV o (.dat p) (.dat q) g = .ofP (binD o p q) g := rfl
theorem ix_dat {p q : PyData} : ixV (.dat p) (.dat q) g = .ofP (ixD p q) g := rfl
theorem ofP_some {p : PyData} : Rs.ofP (some p) g = .ok (.dat p) g := rfl
theorem ofB_some {p : Bool} : Rs.ofB (some p) g = .ok (.dat (.bool p)) g := rfl
theorem tru_bool {b : Bool} : truV (.dat (.bool b)) g = some b := rfl
theorem blOf_bool {b : Bool} : blOf (.dat (.bool b)) = some b := rfl
theorem intOf_int {i : Int} : intOf (.dat (.int i)) = some i := rfl
abbrev Is (gl : Str → Option PyData) (cl : Nat → List D → Gh → Rs D) (fr : Fr) (g : Gh) (e : CE) (p : PyData) : Prop := ev gl cl e fr g = .ok (.dat p) g
theorem is_var {i : Nat} {p : PyData} (h : fr[i]? = some (some (.dat p))) : Is gl cl fr g (.var i) p := y_var h
theorem is_gl {x : Str} {p : PyData} (h : gl x = some p) : Is gl cl fr g (.gl x) p := y_gl h
theorem is_int {i : Int} : Is gl cl fr g (.int i) (.int i) := rfl
theorem is_str {x : Str} : Is gl cl fr g (.str x) (.str x) := rfl
theorem is_non : Is gl cl fr g .non .none := rfl
theorem is_bl {b : Bool} : Is gl cl fr g (.bl b) (.bool b) := rfl
theorem is_and {a b : CE} {p q : Bool} (ha : Is gl cl fr g a (.bool p)) (hb : p = true → Is gl cl fr g b (.bool q)) : Is gl cl fr g (.and a b) (.bool (p && q)) := by
  unfold Is at ha ⊢
  rw [y_and, ha, Rs.ok_bind, blOf_bool]
  cases p with
  | true => exact hb rfl
  | false => rfl
theorem is_or {a b : CE} {p q : Bool} (ha : Is gl cl fr g a (.bool p)) (hb : p = false → Is gl cl fr g b (.bool q)) : Is gl cl fr g (.or a b) (.bool (p || q)) := by
  unfold Is at ha ⊢
  rw [y_or, ha, Rs.ok_bind, blOf_bool]
  cases p with
  | false => exact hb rfl
  | true => rfl
theorem is_not {a : CE} {p : Bool} (ha : Is gl cl fr g a (.bool p)) : Is gl cl fr g (.not a) (.bool (!p)) := by
  unfold Is at ha ⊢
  rw [y_not, ha, Rs.ok_bind, tru_bool]
theorem is_cmp {o : CmpO} {a b : CE} {p q : PyData} {r : Bool} (ha : Is gl cl fr g a p) (hb : Is gl cl fr g b q) (h : cmpD o p q = some r) : Is gl cl fr g (.cmp o a b) (.bool r) := by
  unfold Is at ha hb ⊢
  rw [y_cmp, ha, Rs.ok_bind, hb, Rs.ok_bind, cmp_dat, h]
  rfl
theorem is_chn {o p : CmpO} {a b c : CE} {x y z : PyData} {r s : Bool} (ha : Is gl cl fr g a x) (hb : Is gl cl fr g b y) (hc : Is gl cl fr g c z) (h : cmpD o x y = some r) (h2 : cmpD p y z = some s) : Is gl cl fr g (.chn o p a b c) (.bool (r && s)) := by
  unfold Is at ha hb hc ⊢
  rw [y_chn, ha, Rs.ok_bind, hb, Rs.ok_bind, cmp_dat, h, ofB_some, Rs.ok_bind, blOf_bool]
  cases r with
  | true =>
    dsimp only
    rw [hc, Rs.ok_bind, cmp_dat, h2]
    rfl
  | false => rfl
theorem is_bin {o : BinO} {a b : CE} {p q r : PyData} (ha : Is gl cl fr g a p) (hb : Is gl cl fr g b q) (h : binD o p q = some r) : Is gl cl fr g (.bin o a b) r := by
  unfold Is at ha hb ⊢
  rw [y_bin, ha, Rs.ok_bind, hb, Rs.ok_bind, bin_dat, h]
  rfl
theorem is_ix {a b : CE} {p q r : PyData} (ha : Is gl cl fr g a p) (hb : Is gl cl fr g b q) (h : ixD p q = some r) : Is gl cl fr g (.ix a b) r := by
  unfold Is at ha hb ⊢
  rw [y_ix, ha, Rs.ok_bind, hb, Rs.ok_bind, ix_dat, h]
  rfl
theorem is_bi {b : Bi} {a : CE} {p r : PyData} (ha : Is gl cl fr g a p) (h : biD b [p] = some r) : Is gl cl fr g (.bi b (.cons a .nil)) r := by
  unfold Is at ha ⊢
  rw [y_bi, ys_cons, ha, Rs.ok_bind, ys_nil, Rs.ok_bind, Rs.ok_bind, bi_dat, h]
  rfl
theorem is_bi2 {b : Bi} {a c : CE} {p q r : PyData} (ha : Is gl cl fr g a p) (hc : Is gl cl fr g c q) (h : biD b [p, q] = some r) : Is gl cl fr g (.bi b (.cons a (.cons c .nil))) r := by
  unfold Is at ha hc ⊢
  rw [y_bi, ys_cons, ha, Rs.ok_bind, ys_cons, hc, Rs.ok_bind, ys_nil, Rs.ok_bind, Rs.ok_bind, Rs.ok_bind, bi_dat2, h]
  rfl
theorem is_neg {a : CE} {i : Int} (ha : Is gl cl fr g a (.int i)) : Is gl cl fr g (.neg a) (.int (-i)) := by
  unfold Is at ha ⊢
  rw [y_neg, ha, Rs.ok_bind, intOf_int]
theorem is_ite {c a b : CE} {p : Bool} {r : PyData} (hc : Is gl cl fr g c (.bool p)) (ha : p = true → Is gl cl fr g a r) (hb : p = false → Is gl cl fr g b r) : Is gl cl fr g (.ite c a b) r := by
  unfold Is at hc ⊢
  rw [y_ite, hc, Rs.ok_bind, tru_bool]
  cases p with
  | true => exact ha rfl
  | false => exact hb rfl
abbrev Are (gl : Str → Option PyData) (cl : Nat → List D → Gh → Rs D) (fr : Fr) (g : Gh) (es : CEs) (ps : List PyData) : Prop := evs gl cl es fr g = .ok (ps.map .dat) g
theorem are_nil : Are gl cl fr g .nil [] := rfl
theorem are_cons {e : CE} {es : CEs} {p : PyData} {ps : List PyData} (h : Is gl cl fr g e p) (hs : Are gl cl fr g es ps) : Are gl cl fr g (.cons e es) (p :: ps) := by
  unfold Are Is at *
  rw [ys_cons, h, Rs.ok_bind, hs, Rs.ok_bind]
  rfl
theorem datsOf_map (ps : List PyData) : datsOf (ps.map .dat) = some ps := by
  induction ps with
  | nil => rfl
  | cons p ps ih =>
    show (datOf (.dat p)).bind (fun q => (datsOf (ps.map .dat)).map (q :: ·)) = _
    rw [ih]
    rfl
theorem is_tup {es : CEs} {ps : List PyData} (h : Are gl cl fr g es ps) (hz : ps.length ≤ line) : Is gl cl fr g (.tup es) (.tuple ps) := by
  unfold Are Is at *
  rw [y_tup, h, Rs.ok_bind, datsOf_map]
  dsimp only
  rw [if_pos hz]
theorem is_lst {es : CEs} {ps : List PyData} (h : Are gl cl fr g es ps) (hz : ps.length ≤ line) : Is gl cl fr g (.lst false es) (.list ps) := by
  unfold Are Is at *
  rw [y_lst, h, Rs.ok_bind, if_pos (by simpa using hz), if_neg (by decide), datsOf_map]
theorem is_call {f : Nat} {es : CEs} {ps : List PyData} {r : PyData} (h : Are gl cl fr g es ps) (hc : cl f (ps.map .dat) g = .ok (.dat r) g) : Is gl cl fr g (.call f es) r := by
  unfold Are Is at *
  rw [y_call, h, Rs.ok_bind, hc]
theorem if_of {c : CE} {a b : CSs} {p : Bool} (h : Is gl cl fr g c (.bool p)) : ex gl cl wf (.ife c a b) fr g = if p = true then exs gl cl wf a fr g else exs gl cl wf b fr g := by
  unfold Is at h
  rw [yx_ife, h, Rs.ok_bind, tru_bool]
  cases p <;> rfl
theorem ret_of {e : CE} {r : PyData} {ss : CSs} (h : Is gl cl fr g e r) : exs gl cl wf (.cons (.ret e) ss) fr g = .ok (.rt (.dat r)) g := by
  unfold Is at h
  rw [yxs_cons, yx_ret, h, Rs.ok_bind, Rs.ok_bind]
theorem set_of {e : CE} {i : Nat} {r : PyData} {ss : CSs} (h : Is gl cl fr g e r) : exs gl cl wf (.cons (.set (.nm i) e) ss) fr g = exs gl cl wf ss (fr.set i (some (.dat r))) g := by
  unfold Is at h
  rw [yxs_cons, yx_set, h, Rs.ok_bind]
  rfl
theorem guard_of {c e : CE} {p : Bool} {r : PyData} {ss : CSs} {res : Rs Fl} (h : Is gl cl fr g c (.bool p)) (hy : p = true → Is gl cl fr g e r ∧ res = .ok (.rt (.dat r)) g) (hn : p = false → exs gl cl wf ss fr g = res) : exs gl cl wf (.cons (.ife c (.cons (.ret e) .nil) .nil) ss) fr g = res := by
  rw [yxs_cons, if_of h]
  cases p with
  | true =>
    obtain ⟨h1, h2⟩ := hy rfl
    rw [if_pos rfl, ret_of h1, Rs.ok_bind, h2]
  | false =>
    rw [if_neg (by decide), yxs_nil, Rs.ok_bind]
    exact hn rfl
theorem le_int {i j : Int} : cmpD .le (.int i) (.int j) = some (decide (i ≤ j)) := by
  show (ltD (.int j) (.int i)).map not = _
  show some (!decide (j < i)) = _
  rw [← int_le_not]
theorem gt_int {i j : Int} : cmpD .gt (.int i) (.int j) = some (decide (j < i)) := rfl
theorem fin_dat (fz : Bool) (p : PyData) (g : Gh) : fin fz g.length (.dat p) g = .ok (.dat p) g := by
  unfold fin
  split <;> simp
theorem run_dat {Fs : List FDef} {n f : Nat} {d : FDef} {ds : List D} {p : PyData} (hd : Fs[f]? = some d) (hl : ds.length = d.np) (h : exs gl (Fw.run gl Fs wf n) wf d.body (ds.map some ++ List.replicate (d.ns - d.np) none) g = .ok (.rt (.dat p)) g) :
    Fw.run gl Fs wf (n + 1) f ds g = .ok (.dat p) g := by
  unfold Fw.run
  rw [hd]
  dsimp only
  rw [if_pos hl, h]
  exact fin_dat _ _ _
def Low (g : Gh) : Prop := g.all (belowO g.length) = true
theorem lcGo_pure {step : Itm → Gh → Rs Unit} {g : Gh} {f : Itm → Option D} : ∀ (its : List Itm) (ys : List D), (∀ it ∈ its, ∀ zs : List D, step it (g ++ [.lst zs]) = match f it with
    | some d => putL g.length d (g ++ [.lst zs])
    | none => .ok () (g ++ [.lst zs])) → ys.length + its.length ≤ line → lcGo step none its (g ++ [.lst ys]) = .ok () (g ++ [.lst (ys ++ its.filterMap f)])
  | [], ys, _, _ => by
    unfold lcGo
    rw [if_pos (show stillL none _ from True.intro)]
    simp
  | it :: its, ys, h, hz => by
    unfold lcGo
    rw [if_pos (show stillL none _ from True.intro), h it (List.mem_cons_self) ys]
    have hz' : ys.length + its.length + 1 ≤ line := by simpa [Nat.add_assoc] using hz
    cases q : f it with
    | none =>
      dsimp only
      rw [Rs.ok_bind, lcGo_pure its ys (fun i hi => h i (List.mem_cons_of_mem _ hi)) (by omega)]
      simp [List.filterMap_cons, q]
    | some d =>
      have e : putL g.length d (g ++ [.lst ys]) = .ok () (g ++ [.lst (ys ++ [d])]) := by
        unfold putL
        have z : getL (g ++ [Ob.lst ys]) g.length = some ys := by unfold getL; simp
        rw [z]
        dsimp only
        rw [if_pos (by omega)]
        unfold putO
        simp
      dsimp only
      rw [e, Rs.ok_bind, lcGo_pure its (ys ++ [d]) (fun i hi => h i (List.mem_cons_of_mem _ hi)) (by simp; omega)]
      simp [List.filterMap_cons, q]
theorem lcEnd_dat {g : Gh} {ds : List D} {ps : List PyData} (hg : Low g) (h : datsOf ds = some ps) : lcEnd false g.length (g ++ [.lst ds]) = .ok (.dat (.list ps)) g := by
  unfold lcEnd
  rw [if_neg (by decide), if_pos ⟨by simp, by unfold Low at hg; simpa using hg⟩]
  have z : getL (g ++ [Ob.lst ds]) g.length = some ds := by unfold getL; simp
  rw [z]
  dsimp only
  rw [h]
  simp
theorem is_lc {t : Tg} {s : CI} {wp : List Nat} {c : CO} {e : CE} {its : List Itm} (f : Itm → Option PyData) (hg : Low g) (hs : evi gl cl s fr g = .ok (its, none) g) (hz : its.length ≤ line)
    (h : ∀ it ∈ its, ∀ zs : List D, ∃ fr2, setI t it (wipeF fr wp) = some fr2 ∧ ((f it = none ∧ evc gl cl c fr2 (g ++ [.lst zs]) = .ok false (g ++ [.lst zs])) ∨
      ∃ p, f it = some p ∧ evc gl cl c fr2 (g ++ [.lst zs]) = .ok true (g ++ [.lst zs]) ∧ Is gl cl fr2 (g ++ [.lst zs]) e p)) :
    Is gl cl fr g (.lc false t s wp c e) (.list (its.filterMap f)) := by
  unfold Is ev
  rw [hs, Rs.ok_bind]
  dsimp only
  rw [lcGo_pure (f := fun it => (f it).map .dat) its [] ?_ (by simpa using hz), Rs.ok_bind, lcEnd_dat hg (ps := its.filterMap f)]
  · rfl
  · rw [List.nil_append, ← datsOf_map, List.map_filterMap]
  · intro it hi zs
    obtain ⟨fr2, h1, h2⟩ := h it hi zs
    rw [h1]
    dsimp only
    rcases h2 with ⟨h3, h4⟩ | ⟨p, h3, h4, h5⟩
    · rw [h4, h3]; rfl
    · unfold Is at h5
      rw [h4, h3, Rs.ok_bind]
      dsimp only
      rw [h5]
      rfl
end
end Fw
end
set_option Elab.async false
set_option linter.all false
set_option maxRecDepth 100000
set_option maxHeartbeats 4000000
noncomputable section
namespace Fw
open PySem PySem.Spec PyProof.Rows L2
section
variable {gl : Str → Option PyData} {cl : Nat → List D → Gh → Rs D} {wf : Nat} {fr : Fr} {g : Gh}
theorem lcGo_app {step : Itm → Gh → Rs Unit} {g : Gh} {f : Itm → List D} : ∀ (its : List Itm) (ys : List D), (∀ it ∈ its, ∀ zs : List D, zs.length + (f it).length ≤ line → step it (g ++ [.lst zs]) = .ok () (g ++ [.lst (zs ++ f it)])) → ys.length + (its.flatMap f).length ≤ line → lcGo step none its (g ++ [.lst ys]) = .ok () (g ++ [.lst (ys ++ its.flatMap f)])
  | [], ys, _, _ => by
    unfold lcGo
    rw [if_pos (show stillL none _ from True.intro)]
    simp
  | it :: its, ys, h, hz => by
    rw [List.flatMap_cons, List.length_append] at hz
    unfold lcGo
    rw [if_pos (show stillL none _ from True.intro), h it (List.mem_cons_self) ys (by omega), Rs.ok_bind, lcGo_app its (ys ++ f it) (fun i hi => h i (List.mem_cons_of_mem _ hi)) (by rw [List.length_append]; omega)]
    rw [List.flatMap_cons, List.append_assoc]
theorem is_lc2 {t t2 : Tg} {s s2 : CI} {wp wp2 : List Nat} {e : CE} {its : List Itm} (f : Itm → List PyData) (hg : Low g) (hs : evi gl cl s fr g = .ok (its, none) g) (hz : (its.flatMap f).length ≤ line)
    (h : ∀ it ∈ its, ∀ zs : List D, ∃ fr2 its2 f2, setI t it (wipeF fr wp) = some fr2 ∧ evi gl cl s2 fr2 (g ++ [.lst zs]) = .ok (its2, none) (g ++ [.lst zs]) ∧ f it = its2.map f2 ∧
      ∀ it2 ∈ its2, ∀ zs2 : List D, ∃ fr3, setI t2 it2 (wipeF fr2 wp2) = some fr3 ∧ Is gl cl fr3 (g ++ [.lst zs2]) e (f2 it2)) :
    Is gl cl fr g (.lc2 false t s .no t2 s2 .no wp wp2 e) (.list (its.flatMap f)) := by
  unfold Is ev
  rw [hs, Rs.ok_bind]
  dsimp only
  rw [lcGo_app (f := fun it => (f it).map .dat) its [] ?_ ?_, Rs.ok_bind, lcEnd_dat hg (ps := its.flatMap f)]
  · rfl
  · rw [List.nil_append, ← datsOf_map, List.map_flatMap]
  · intro it hi zs hzs
    obtain ⟨fr2, its2, f2, h1, h2, h3, h4⟩ := h it hi zs
    rw [h1]
    dsimp only
    rw [yc_no, Rs.ok_bind]
    dsimp only
    rw [h2, Rs.ok_bind]
    dsimp only
    rw [h3] at hzs ⊢
    rw [lcGo_pure (f := fun it => some (.dat (f2 it))) its2 zs ?_ (by simpa using hzs)]
    · have e : its2.filterMap (fun it => some (D.dat (f2 it))) = (its2.map f2).map D.dat := by
        rw [List.map_map]
        induction its2 with
        | nil => rfl
        | cons a l ih => rw [List.filterMap_cons, List.map_cons]; simp
      rw [e]
    · intro it2 hi2 zs2
      obtain ⟨fr3, k1, k2⟩ := h4 it2 hi2 zs2
      rw [k1]
      dsimp only
      rw [yc_no, Rs.ok_bind]
      dsimp only
      unfold Is at k2
      rw [k2]
      rfl
  · have : (its.flatMap fun it => (f it).map D.dat).length = (its.flatMap f).length := by rw [← List.map_flatMap, List.length_map]
    rw [this]
    simpa using hz
end
end Fw
end
set_option Elab.async false
set_option linter.all false
set_option maxRecDepth 100000
set_option maxHeartbeats 4000000
noncomputable section
namespace Fw
open PySem PySem.Spec PyProof.Rows L2
def ends {α : Type} (r : Rs α) (Q : α → Gh → Prop) (E : Xn → Gh → Prop) : Prop :=
  match r with
  | .ok a g => Q a g
  | .exc x g => E x g
  | .bad => False
structure W {α : Type} (r : Rs α) (Q : α → Gh → Prop) (E : Xn → Gh → Prop) : Prop where
  out_ : ends r Q E
abbrev E0 : Xn → Gh → Prop := fun _ _ => False
theorem W.okk {α : Type} {a : α} {g : Gh} {Q : α → Gh → Prop} {E : Xn → Gh → Prop} (h : Q a g) : W (.ok a g) Q E := ⟨h⟩
theorem W.exc {α : Type} {x : Xn} {g : Gh} {Q : α → Gh → Prop} {E : Xn → Gh → Prop} (h : E x g) : W (.exc x g) Q E := ⟨h⟩
theorem W.bind {α β : Type} {r : Rs α} {k : α → Gh → Rs β} {Q : β → Gh → Prop} {E : Xn → Gh → Prop} (h : W r (fun a g => W (k a g) Q E) E) : W (r.bind k) Q E := by
  cases r with
  | ok a g => exact h.out_
  | exc x g => exact ⟨h.out_⟩
  | bad => exact h.out_.elim
theorem W.mono {α : Type} {r : Rs α} {Q Q' : α → Gh → Prop} {E E' : Xn → Gh → Prop} (h : W r Q E) (hq : ∀ a g, Q a g → Q' a g) (he : ∀ x g, E x g → E' x g) : W r Q' E' := by
  cases r with
  | ok a g => exact ⟨hq a g h.out_⟩
  | exc x g => exact ⟨he x g h.out_⟩
  | bad => exact h.out_.elim
theorem W.of_eq {α : Type} {r : Rs α} {a : α} {g : Gh} {Q : α → Gh → Prop} {E : Xn → Gh → Prop} (h : r = .ok a g) (hq : Q a g) : W r Q E := by
  subst h
  exact ⟨hq⟩
theorem W.of {α : Type} {r : Rs α} {Q Q' : α → Gh → Prop} {E : Xn → Gh → Prop} (h : W r Q E0) (hq : ∀ a g, Q a g → Q' a g) : W r Q' E := h.mono hq fun _ _ e => e.elim
theorem W.out {α : Type} {r : Rs α} {Q : α → Gh → Prop} (h : W r Q E0) : ∃ a g, r = .ok a g ∧ Q a g := by
  cases r with
  | ok a g => exact ⟨a, g, rfl, h.out_⟩
  | exc x g => exact h.out_.elim
  | bad => exact h.out_.elim
section
variable {gl : Str → Option PyData} {cl : Nat → List D → Gh → Rs D} {wf : Nat} {fr : Fr} {g : Gh} {E : Xn → Gh → Prop}
section
variable {Q : D → Gh → Prop}
theorem w_is {e : CE} {p : PyData} (h : Is gl cl fr g e p) (hq : Q (.dat p) g) : W (ev gl cl e fr g) Q E := W.of_eq h hq
theorem w_var {i : Nat} {d : D} (h : fr[i]? = some (some d)) (hq : Q d g) : W (ev gl cl (.var i) fr g) Q E := W.of_eq (y_var h) hq
theorem w_call {f : Nat} {es : CEs} (h : W (evs gl cl es fr g) (fun ds g1 => W (cl f ds g1) Q E) E) : W (ev gl cl (.call f es) fr g) Q E := by rw [y_call]; exact W.bind h
theorem w_bin {o : BinO} {a b : CE} (h : W (ev gl cl a fr g) (fun x g1 => W (ev gl cl b fr g1) (fun y g2 => W (binV o x y g2) Q E) E) E) : W (ev gl cl (.bin o a b) fr g) Q E := by
  rw [y_bin]; exact W.bind (h.mono (fun _ _ h => W.bind h) fun _ _ e => e)
theorem w_cmp {o : CmpO} {a b : CE} (h : W (ev gl cl a fr g) (fun x g1 => W (ev gl cl b fr g1) (fun y g2 => W (cmpV o x y g2) Q E) E) E) : W (ev gl cl (.cmp o a b) fr g) Q E := by
  rw [y_cmp]; exact W.bind (h.mono (fun _ _ h => W.bind h) fun _ _ e => e)
theorem w_ix {a b : CE} (h : W (ev gl cl a fr g) (fun x g1 => W (ev gl cl b fr g1) (fun y g2 => W (ixV x y g2) Q E) E) E) : W (ev gl cl (.ix a b) fr g) Q E := by
  rw [y_ix]; exact W.bind (h.mono (fun _ _ h => W.bind h) fun _ _ e => e)
theorem w_bi {b : Bi} {es : CEs} (h : W (evs gl cl es fr g) (fun ds g1 => W (biV b ds g1) Q E) E) : W (ev gl cl (.bi b es) fr g) Q E := by rw [y_bi]; exact W.bind h
theorem w_tup {es : CEs} (h : W (evs gl cl es fr g) (fun ds g1 => ∃ ps, datsOf ds = some ps ∧ ps.length ≤ line ∧ Q (.dat (.tuple ps)) g1) E) : W (ev gl cl (.tup es) fr g) Q E := by
  rw [y_tup]
  exact W.bind (h.mono (fun ds g1 ⟨ps, h1, h2, h3⟩ => by rw [h1]; dsimp only; rw [if_pos h2]; exact ⟨h3⟩) fun _ _ e => e)
theorem w_lst {es : CEs} (h : W (evs gl cl es fr g) (fun ds g1 => ∃ ps, datsOf ds = some ps ∧ ds.length ≤ line ∧ Q (.dat (.list ps)) g1) E) : W (ev gl cl (.lst false es) fr g) Q E := by
  rw [y_lst]
  exact W.bind (h.mono (fun ds g1 ⟨ps, h1, h2, h3⟩ => by rw [if_pos h2, h1, if_neg (by decide)]; exact ⟨h3⟩) fun _ _ e => e)
theorem w_new {es : CEs} (h : W (evs gl cl es fr g) (fun ds g1 => ds.length ≤ line ∧ Q (.ref g1.length) (g1 ++ [.lst ds])) E) : W (ev gl cl (.lst true es) fr g) Q E := by
  rw [y_lst]
  exact W.bind (h.mono (fun ds g1 ⟨h2, h3⟩ => by rw [if_pos h2, if_pos rfl]; exact ⟨h3⟩) fun _ _ e => e)
theorem w_neg {a : CE} (h : W (ev gl cl a fr g) (fun x g1 => ∃ i, x = .dat (.int i) ∧ Q (.dat (.int (-i))) g1) E) : W (ev gl cl (.neg a) fr g) Q E := by
  rw [y_neg]
  exact W.bind (h.mono (fun x g1 ⟨i, h1, h2⟩ => by subst h1; exact ⟨h2⟩) fun _ _ e => e)
theorem w_not {a : CE} (h : W (ev gl cl a fr g) (fun x g1 => ∃ b, truV x g1 = some b ∧ Q (.dat (.bool (!b))) g1) E) : W (ev gl cl (.not a) fr g) Q E := by
  rw [y_not]
  exact W.bind (h.mono (fun x g1 ⟨i, h1, h2⟩ => by rw [h1]; exact ⟨h2⟩) fun _ _ e => e)
theorem w_and_ {a b : CE} (h : W (ev gl cl a fr g) (fun x g1 => ∃ p, x = .dat (.bool p) ∧ (p = true → W (ev gl cl b fr g1) Q E) ∧ (p = false → Q (.dat (.bool false)) g1)) E) : W (ev gl cl (.and a b) fr g) Q E := by
  rw [y_and]
  refine W.bind (h.mono (fun x g1 ⟨p, h1, h2, h3⟩ => ?_) fun _ _ e => e)
  subst h1
  cases p with
  | true => exact h2 rfl
  | false => exact ⟨h3 rfl⟩
theorem w_or_ {a b : CE} (h : W (ev gl cl a fr g) (fun x g1 => ∃ p, x = .dat (.bool p) ∧ (p = false → W (ev gl cl b fr g1) Q E) ∧ (p = true → Q (.dat (.bool true)) g1)) E) : W (ev gl cl (.or a b) fr g) Q E := by
  rw [y_or]
  refine W.bind (h.mono (fun x g1 ⟨p, h1, h2, h3⟩ => ?_) fun _ _ e => e)
  subst h1
  cases p with
  | true => exact ⟨h3 rfl⟩
  | false => exact h2 rfl
theorem w_ite {c a b : CE} (h : W (ev gl cl c fr g) (fun x g1 => ∃ p, truV x g1 = some p ∧ (p = true → W (ev gl cl a fr g1) Q E) ∧ (p = false → W (ev gl cl b fr g1) Q E)) E) : W (ev gl cl (.ite c a b) fr g) Q E := by
  rw [y_ite]
  refine W.bind (h.mono (fun x g1 ⟨p, h1, h2, h3⟩ => ?_) fun _ _ e => e)
  rw [h1]
  cases p with
  | true => exact h2 rfl
  | false => exact h3 rfl
theorem w_mth {m : Mt} {o : CE} {es : CEs} (h : W (ev gl cl o fr g) (fun x g1 => isL x g1 = true ∧ W (evs gl cl es fr g1) (fun ds g2 => W (mtd m x ds g2) Q E) E) E) : W (ev gl cl (.mth m o es) fr g) Q E := by
  rw [y_mth]
  exact W.bind (h.mono (fun x g1 ⟨h1, h2⟩ => by rw [if_pos h1]; exact W.bind h2) fun _ _ e => e)
theorem w_mlist {a : CE} (h : W (ev gl cl a fr g) (fun d g1 => ∃ ps, (viaL g1 d).bind lstOf = some ps ∧ Q (.ref g1.length) (g1 ++ [.lst (ps.map .dat)])) E) : W (ev gl cl (.mlist a) fr g) Q E := by
  rw [y_mlist]
  exact W.bind (h.mono (fun x g1 ⟨ps, h1, h2⟩ => by rw [h1]; exact ⟨h2⟩) fun _ _ e => e)
theorem v_bin {o : BinO} {p q r : PyData} (h : binD o p q = some r) (hq : Q (.dat r) g) : W (binV o (.dat p) (.dat q) g) Q E := by rw [bin_dat, h]; exact ⟨hq⟩
theorem v_ix {p q r : PyData} (h : ixD p q = some r) (hq : Q (.dat r) g) : W (ixV (.dat p) (.dat q) g) Q E := by rw [ix_dat, h]; exact ⟨hq⟩
theorem v_cmp {o : CmpO} {p q : PyData} {r : Bool} (h : cmpD o p q = some r) (hq : Q (.dat (.bool r)) g) : W (cmpV o (.dat p) (.dat q) g) Q E := by rw [cmp_dat, h]; exact ⟨hq⟩
theorem v_bi {b : Bi} {p r : PyData} (h : biD b [p] = some r) (hq : Q (.dat r) g) : W (biV b [.dat p] g) Q E := by rw [bi_dat, h]; exact ⟨hq⟩
theorem v_bi2 {b : Bi} {p q r : PyData} (h : biD b [p, q] = some r) (hq : Q (.dat r) g) : W (biV b [.dat p, .dat q] g) Q E := by rw [bi_dat2, h]; exact ⟨hq⟩
end
section
variable {Q : List D → Gh → Prop}
theorem ws_nil (hq : Q [] g) : W (evs gl cl .nil fr g) Q E := ⟨hq⟩
theorem ws_cons {e : CE} {es : CEs} (h : W (ev gl cl e fr g) (fun d g1 => W (evs gl cl es fr g1) (fun ds g2 => Q (d :: ds) g2) E) E) : W (evs gl cl (.cons e es) fr g) Q E := by
  rw [ys_cons]
  exact W.bind (h.mono (fun _ _ h => W.bind (h.mono (fun _ _ h => ⟨h⟩) fun _ _ e => e)) fun _ _ e => e)
theorem ws_are {es : CEs} {ps : List PyData} (h : Are gl cl fr g es ps) (hq : Q (ps.map .dat) g) : W (evs gl cl es fr g) Q E := W.of_eq h hq
end
section
variable {Q : Fl → Gh → Prop}
def nxt (gl : Str → Option PyData) (cl : Nat → List D → Gh → Rs D) (wf : Nat) (ss : CSs) (Q : Fl → Gh → Prop) (E : Xn → Gh → Prop) : Fl → Gh → Prop := fun f g1 =>
  match f with
  | .nx fr1 => W (exs gl cl wf ss fr1 g1) Q E
  | .rt d => Q (.rt d) g1
  | .bk fr1 => Q (.bk fr1) g1
  | .ct fr1 => Q (.ct fr1) g1
theorem x_cons {s : CS} {ss : CSs} (h : W (ex gl cl wf s fr g) (nxt gl cl wf ss Q E) E) : W (exs gl cl wf (.cons s ss) fr g) Q E := by
  rw [yxs_cons]
  refine W.bind (h.mono (fun f g1 h => ?_) fun _ _ e => e)
  cases f with
  | nx fr1 => exact h
  | rt d => exact ⟨h⟩
  | bk fr1 => exact ⟨h⟩
  | ct fr1 => exact ⟨h⟩
theorem x_nil (h : Q (.nx fr) g) : W (exs gl cl wf .nil fr g) Q E := ⟨h⟩
theorem x_nxt {ss : CSs} (h : W (exs gl cl wf ss fr g) Q E) : nxt gl cl wf ss Q E (.nx fr) g := h
theorem x_rt {ss : CSs} {d : D} (h : Q (.rt d) g) : nxt gl cl wf ss Q E (.rt d) g := h
theorem x_set {i : Nat} {e : CE} {ss : CSs} (h : W (ev gl cl e fr g) (fun d g1 => W (exs gl cl wf ss (fr.set i (some d)) g1) Q E) E) : W (exs gl cl wf (.cons (.set (.nm i) e) ss) fr g) Q E := by
  refine x_cons ?_
  rw [yx_set]
  exact W.bind (h.mono (fun _ _ h => ⟨h⟩) fun _ _ e => e)
theorem x_setT {t : Tg} {e : CE} {ss : CSs} (h : W (ev gl cl e fr g) (fun d g1 => ∃ fr1, setT t d fr = some fr1 ∧ W (exs gl cl wf ss fr1 g1) Q E) E) : W (exs gl cl wf (.cons (.set t e) ss) fr g) Q E := by
  refine x_cons ?_
  rw [yx_set]
  exact W.bind (h.mono (fun d g1 ⟨fr1, h1, h2⟩ => by rw [h1]; exact ⟨h2⟩) fun _ _ e => e)
theorem x_par {i j : Nat} {a b : CE} {ss : CSs} (h : W (ev gl cl a fr g) (fun x g1 => W (ev gl cl b fr g1) (fun y g2 => W (exs gl cl wf ss ((fr.set i (some x)).set j (some y)) g2) Q E) E) E) : W (exs gl cl wf (.cons (.par i j a b) ss) fr g) Q E := by
  refine x_cons ?_
  rw [yx_par]
  exact W.bind (h.mono (fun _ _ h => W.bind (h.mono (fun _ _ h => ⟨h⟩) fun _ _ e => e)) fun _ _ e => e)
theorem x_par3 {i j k : Nat} {a b c : CE} {ss : CSs} (h : W (ev gl cl a fr g) (fun x g1 => W (ev gl cl b fr g1) (fun y g2 => W (ev gl cl c fr g2) (fun z g3 => W (exs gl cl wf ss (((fr.set i (some x)).set j (some y)).set k (some z)) g3) Q E) E) E) E) : W (exs gl cl wf (.cons (.par3 i j k a b c) ss) fr g) Q E := by
  refine x_cons ?_
  rw [yx_par3]
  exact W.bind (h.mono (fun _ _ h => W.bind (h.mono (fun _ _ h => W.bind (h.mono (fun _ _ h => ⟨h⟩) fun _ _ e => e)) fun _ _ e => e)) fun _ _ e => e)
theorem x_expr {e : CE} {ss : CSs} (h : W (ev gl cl e fr g) (fun _ g1 => W (exs gl cl wf ss fr g1) Q E) E) : W (exs gl cl wf (.cons (.expr e) ss) fr g) Q E := by
  refine x_cons ?_
  rw [yx_expr]
  exact W.bind (h.mono (fun _ _ h => ⟨h⟩) fun _ _ e => e)
theorem x_ret {e : CE} {ss : CSs} (h : W (ev gl cl e fr g) (fun d g1 => Q (.rt d) g1) E) : W (exs gl cl wf (.cons (.ret e) ss) fr g) Q E := by
  refine x_cons ?_
  rw [yx_ret]
  exact W.bind (h.mono (fun _ _ h => ⟨h⟩) fun _ _ e => e)
theorem x_if {c : CE} {a b ss : CSs} (h : W (ev gl cl c fr g) (fun x g1 => ∃ p, truV x g1 = some p ∧ (p = true → W (exs gl cl wf a fr g1) (nxt gl cl wf ss Q E) E) ∧ (p = false → W (exs gl cl wf b fr g1) (nxt gl cl wf ss Q E) E)) E) : W (exs gl cl wf (.cons (.ife c a b) ss) fr g) Q E := by
  refine x_cons ?_
  rw [yx_ife]
  refine W.bind (h.mono (fun x g1 ⟨p, h1, h2, h3⟩ => ?_) fun _ _ e => e)
  rw [h1]
  cases p with
  | true => exact h2 rfl
  | false => exact h3 rfl
theorem x_ifp {c : CE} {p : Bool} {a b ss : CSs} (h : Is gl cl fr g c (.bool p)) (ht : p = true → W (exs gl cl wf a fr g) (nxt gl cl wf ss Q E) E) (hf : p = false → W (exs gl cl wf b fr g) (nxt gl cl wf ss Q E) E) : W (exs gl cl wf (.cons (.ife c a b) ss) fr g) Q E :=
  x_if (w_is h ⟨p, rfl, ht, hf⟩)
theorem x_sub {o i v : CE} {ss : CSs} (h : W (ev gl cl v fr g) (fun z g1 => W (ev gl cl o fr g1) (fun x g2 => W (ev gl cl i fr g2) (fun y g3 => W (setV x y z g3) (fun _ g4 => W (exs gl cl wf ss fr g4) Q E) E) E) E) E) : W (exs gl cl wf (.cons (.sub o i v) ss) fr g) Q E := by
  refine x_cons ?_
  rw [yx_sub]
  exact W.bind (h.mono (fun _ _ h => W.bind (h.mono (fun _ _ h => W.bind (h.mono (fun _ _ h => W.bind (h.mono (fun _ _ h => ⟨h⟩) fun _ _ e => e)) fun _ _ e => e)) fun _ _ e => e)) fun _ _ e => e)
theorem x_for {t : Tg} {s : CI} {b ss : CSs} (h : W (evi gl cl s fr g) (fun its g1 => W (forGo (fun fr g => exs gl cl wf b fr g) t its.2 its.1 fr g1) (nxt gl cl wf ss Q E) E) E) : W (exs gl cl wf (.cons (.for_ t s b) ss) fr g) Q E := by
  refine x_cons ?_
  rw [yx_for]
  exact W.bind h
end
theorem inB_nat {j : Nat} (h : j ≤ 1000000000) : inB (j : Int) = true := by
  unfold inB
  rw [decide_eq_true_eq]
  omega
section
variable {Q : List Itm × Wt → Gh → Prop}
theorem wi_seq {a : CE} (h : W (ev gl cl a fr g) (fun d g1 => ∃ z, itemsV d g1 = some z ∧ Q (z.1.map .one, z.2) g1) E) : W (evi gl cl (.seq a) fr g) Q E := by
  rw [yi_seq]
  exact W.bind (h.mono (fun d g1 ⟨z, h1, h2⟩ => by rw [h1]; exact ⟨h2⟩) fun _ _ e => e)
theorem wi_rng {a : CE} (h : W (ev gl cl a fr g) (fun d g1 => ∃ j : Nat, d = .dat (.int (j : Nat)) ∧ j ≤ 1000000000 ∧ Q ((List.range j).map fun (k : Nat) => Itm.one (.dat (.int (k : Nat))), none) g1) E) : W (evi gl cl (.rng1 a) fr g) Q E := by
  rw [yi_rng1]
  refine W.bind (h.mono (fun d g1 ⟨j, h1, h2, h3⟩ => ?_) fun _ _ e => e)
  subst h1
  rw [intOf_int]
  dsimp only
  rw [if_pos (inB_nat h2), Int.toNat_natCast]
  have e : (rngI 0 j).map Itm.one = (List.range j).map fun (k : Nat) => Itm.one (.dat (.int (k : Nat))) := by
    unfold rngI
    rw [List.map_map]
    congr 1
    funext k
    show Itm.one (.dat (.int (0 + (k : Nat)))) = _
    rw [Int.zero_add]
  rw [e]
  exact ⟨h3⟩
end
theorem w_for {body : Fr → Gh → Rs Fl} {t : Tg} {w : Wt} {Q : Fl → Gh → Prop} (I : List Itm → Fr → Gh → Prop)
    (hw : ∀ its fr g, I its fr g → stillL w g)
    (turn : ∀ it rest fr g, I (it :: rest) fr g → ∃ fr1, setI t it fr = some fr1 ∧ W (body fr1 g) (fun f g1 => match f with
      | .nx fr2 => I rest fr2 g1
      | .ct fr2 => I rest fr2 g1
      | .bk fr2 => Q (.nx fr2) g1
      | .rt d => Q (.rt d) g1) E)
    (done : ∀ fr g, I [] fr g → Q (.nx fr) g) : ∀ (its : List Itm) (fr : Fr) (g : Gh), I its fr g → W (forGo body t w its fr g) Q E
  | [], fr, g, h => by
    unfold forGo
    rw [if_pos (hw _ _ _ h)]
    exact ⟨done fr g h⟩
  | it :: its, fr, g, h => by
    unfold forGo
    rw [if_pos (hw _ _ _ h)]
    obtain ⟨fr1, h1, h2⟩ := turn it its fr g h
    rw [h1]
    refine W.bind (h2.mono (fun f g1 h3 => ?_) fun _ _ e => e)
    cases f with
    | nx fr2 => exact w_for I hw turn done its fr2 g1 h3
    | ct fr2 => exact w_for I hw turn done its fr2 g1 h3
    | bk fr2 => exact ⟨h3⟩
    | rt d => exact ⟨h3⟩
theorem w_lcGo {step : Itm → Gh → Rs Unit} {w : Wt} {Q : Unit → Gh → Prop} (I : List Itm → Gh → Prop)
    (hw : ∀ its g, I its g → stillL w g)
    (turn : ∀ it rest g, I (it :: rest) g → W (step it g) (fun _ g1 => I rest g1) E)
    (done : ∀ g, I [] g → Q () g) : ∀ (its : List Itm) (g : Gh), I its g → W (lcGo step w its g) Q E
  | [], g, h => by
    unfold lcGo
    rw [if_pos (hw _ _ h)]
    exact ⟨done g h⟩
  | it :: its, g, h => by
    unfold lcGo
    rw [if_pos (hw _ _ h)]
    exact W.bind ((turn it its g h).mono (fun _ g1 h3 => w_lcGo I hw turn done its g1 h3) fun _ _ e => e)
theorem w_run {Fs : List FDef} {n f : Nat} {d : FDef} {ds : List D} {Q : D → Gh → Prop} (hd : Fs[f]? = some d) (hl : ds.length = d.np)
    (h : W (exs gl (Fw.run gl Fs wf n) wf d.body (ds.map some ++ List.replicate (d.ns - d.np) none) g) (fun f g1 => match f with
      | .rt v => W (fin d.fz g.length v g1) Q E
      | .nx _ => W (fin d.fz g.length (.dat .none) g1) Q E
      | _ => False) (fun x g1 => E x (finX g.length g1))) : W (Fw.run gl Fs wf (n + 1) f ds g) Q E := by
  unfold Fw.run
  rw [hd]
  dsimp only
  rw [if_pos hl]
  generalize exs gl (Fw.run gl Fs wf n) wf d.body (ds.map some ++ List.replicate (d.ns - d.np) none) g = r at h ⊢
  cases r with
  | ok f g1 => cases f with
    | rt v => exact h.out_
    | nx fr => exact h.out_
    | bk fr => exact h.out_.elim
    | ct fr => exact h.out_.elim
  | exc x g1 => exact ⟨h.out_⟩
  | bad => exact h.out_.elim
end
end Fw
end
set_option Elab.async false
set_option linter.all false
set_option maxRecDepth 100000
set_option maxHeartbeats 4000000
noncomputable section
namespace Fw
open PySem PySem.Spec PyProof.Rows L2
abbrev dlo (ps : List PyData) : Ob := .lst (ps.map .dat)
theorem map_erase {α β : Type} (f : α → β) : ∀ (l : List α) (j : Nat), (l.eraseIdx j).map f = (l.map f).eraseIdx j
  | [], _ => rfl
  | _ :: _, 0 => rfl
  | a :: l, j + 1 => by
    rw [List.eraseIdx_cons_succ, List.map_cons, List.map_cons, List.eraseIdx_cons_succ, map_erase f l j]
theorem erase_perm {α : Type} : ∀ (l : List α) (j : Nat) (h : j < l.length), (l[j] :: l.eraseIdx j).Perm l
  | [], _, h => absurd h (Nat.not_lt_zero _)
  | _ :: _, 0, _ => .refl _
  | a :: l, j + 1, h => by
    rw [List.eraseIdx_cons_succ, List.getElem_cons_succ]
    exact (List.Perm.swap _ _ _).trans ((erase_perm l j (by simpa using h)).cons a)
theorem getL_lo {g : Gh} {r : Nat} {ps : List PyData} (h : g[r]? = some (dlo ps)) : getL g r = some (ps.map .dat) := by unfold getL; rw [h]
theorem viaL_lo {g : Gh} {r : Nat} {ps : List PyData} (h : g[r]? = some (dlo ps)) : viaL g (.ref r) = some (.list ps) := by
  show (getL g r).bind (fun xs => (datsOf xs).map PyData.list) = _
  rw [getL_lo h]
  show (datsOf (ps.map D.dat)).map PyData.list = _
  rw [datsOf_map]
  rfl
theorem putO_len {g : Gh} {r : Nat} {o : Ob} : (putO g r o).length = g.length := List.length_set ..
theorem put_at {g : Gh} {r : Nat} {o : Ob} (h : r < g.length) : (putO g r o)[r]? = some o := by
  unfold putO
  rw [List.getElem?_set_self h]
theorem put_ne {g : Gh} {r i : Nat} {o : Ob} (h : i ≠ r) : (putO g r o)[i]? = g[i]? := by
  unfold putO
  rw [List.getElem?_set_ne (Ne.symm h)]
theorem lt_of {g : Gh} {r : Nat} {o : Ob} (h : g[r]? = some o) : r < g.length := by
  rcases Nat.lt_or_ge r g.length with k | k
  · exact k
  · rw [List.getElem?_eq_none k] at h; cases h
theorem low_putLo {g : Gh} {r : Nat} {ps : List PyData} (hg : Low g) : Low (putO g r (dlo ps)) := by
  unfold Low putO at *
  rw [List.length_set]
  rw [List.all_eq_true] at *
  intro o ho
  rcases List.mem_or_eq_of_mem_set ho with h | rfl
  · exact hg o h
  · simp [dlo, belowO, belowD]
theorem belowO_mono {n m : Nat} (h : n ≤ m) : ∀ o : Ob, belowO n o = true → belowO m o = true := by
  have d : ∀ d : D, belowD n d = true → belowD m d = true := by
    intro d
    cases d with
    | ref r =>
      unfold belowD
      intro k
      rw [decide_eq_true_eq] at *
      omega
    | _ => intro _; rfl
  intro o
  cases o with
  | lst xs =>
    unfold belowO
    intro k
    rw [List.all_eq_true] at *
    exact fun x hx => d x (k x hx)
  | dct xs =>
    unfold belowO
    intro k
    rw [List.all_eq_true] at *
    exact fun x hx => d _ (k x hx)
  | ins c xs =>
    unfold belowO
    intro k
    rw [List.all_eq_true] at *
    exact fun x hx => d _ (k x hx)
theorem low_newLo {g : Gh} {ps : List PyData} (hg : Low g) : Low (g ++ [dlo ps]) := by
  unfold Low at *
  rw [List.all_append, List.length_append, Bool.and_eq_true]
  constructor
  · rw [List.all_eq_true] at *
    intro o ho
    exact belowO_mono (by simp) o (hg o ho)
  · simp [dlo, belowO, belowD]
def poolO (a b : Int) : Ob := dlo [.int a, .int b]
def Pool (g : Gh) (r : Nat) : Prop := ∃ a b : Int, g[r]? = some (poolO a b) ∧ 0 ≤ a ∧ 0 ≤ b ∧ b < 2147483647
structure Gr (r : Nat) (g h : Gh) : Prop where
  le : g.length ≤ h.length
  els : ∀ i, i < g.length → i ≠ r → h[i]? = g[i]?
  pool : Pool h r
  low : Low h
theorem Gr.refl {r : Nat} {g : Gh} (p : Pool g r) (l : Low g) : Gr r g g := ⟨Nat.le_refl _, fun _ _ _ => rfl, p, l⟩
theorem Gr.trans {r : Nat} {a b c : Gh} (h : Gr r a b) (k : Gr r b c) : Gr r a c := ⟨Nat.le_trans h.le k.le, fun i hi hr => (k.els i (Nat.lt_of_lt_of_le hi h.le) hr).trans (h.els i hi hr), k.pool, k.low⟩
theorem Pool.lt {g : Gh} {r : Nat} (h : Pool g r) : r < g.length := by
  obtain ⟨a, b, h, _⟩ := h
  exact lt_of h
theorem Gr.put {r : Nat} {g : Gh} {a b : Int} (p : Pool g r) (l : Low g) (h1 : 0 ≤ a) (h2 : 0 ≤ b) (h3 : b < 2147483647) : Gr r g (putO g r (poolO a b)) :=
  ⟨by rw [putO_len]; exact Nat.le_refl _, fun i _ hr => put_ne hr, ⟨a, b, put_at p.lt, h1, h2, h3⟩, low_putLo l⟩
theorem Gr.putB {r j : Nat} {g h : Gh} {ps : List PyData} (k : Gr r g h) (hj : g.length ≤ j) (hr : r < g.length) : Gr r g (putO h j (dlo ps)) := by
  obtain ⟨a, b, h1, h2, h3, h4⟩ := k.pool
  exact ⟨by rw [putO_len]; exact k.le, fun i hi hr => (put_ne (by omega)).trans (k.els i hi hr), ⟨a, b, (put_ne (by omega)).trans h1, h2, h3, h4⟩, low_putLo k.low⟩
theorem Gr.new {r : Nat} {g h : Gh} {ps : List PyData} (k : Gr r g h) : Gr r g (h ++ [dlo ps]) := by
  obtain ⟨a, b, h1, h2, h3, h4⟩ := k.pool
  have := lt_of h1
  have := k.le
  exact ⟨by simp; omega, fun i hi hr => (List.getElem?_append_left (by omega)).trans (k.els i hi hr), ⟨a, b, (List.getElem?_append_left (by omega)).trans h1, h2, h3, h4⟩, low_newLo k.low⟩
theorem new_at {h : Gh} {o : Ob} : (h ++ [o])[h.length]? = some o := by simp
theorem Gr.cut {r : Nat} {g h : Gh} (k : Gr r g h) (l : Low g) (hr : r < g.length) : Gr r g (h.take g.length) ∧ (h.take g.length).length = g.length ∧ (h.take g.length).all (belowO g.length) = true := by
  have e : (h.take g.length).length = g.length := by rw [List.length_take]; have := k.le; omega
  obtain ⟨a, b, h1, h2, h3, h4⟩ := k.pool
  have at_ : ∀ i, i < g.length → (h.take g.length)[i]? = h[i]? := fun i hi => by rw [List.getElem?_take, if_pos hi]
  have lw : (h.take g.length).all (belowO g.length) = true := by
    rw [List.all_eq_true]
    intro o ho
    obtain ⟨i, hi⟩ := List.mem_iff_getElem?.mp ho
    have lt := lt_of hi
    rw [e] at lt
    rw [at_ i lt] at hi
    by_cases z : i = r
    · subst z
      rw [h1] at hi
      cases hi
      simp [poolO, dlo, belowO, belowD]
    · rw [k.els i lt z] at hi
      unfold Low at l
      rw [List.all_eq_true] at l
      exact l o (List.mem_of_getElem? hi)
  refine ⟨⟨by omega, fun i hi hz => (at_ i hi).trans (k.els i hi hz), ⟨a, b, (at_ r hr).trans h1, h2, h3, h4⟩, ?_⟩, e, lw⟩
  unfold Low
  rw [e]
  exact lw
theorem fin_data {Q : D → Gh → Prop} {E : Xn → Gh → Prop} {fz : Bool} {r : Nat} {g h : Gh} {p : PyData} (k : Gr r g h) (l : Low g) (hr : r < g.length) (hq : ∀ h1, Gr r g h1 → h1.length = g.length → Q (.dat p) h1) : W (fin fz g.length (.dat p) h) Q E := by
  obtain ⟨a, b, c⟩ := k.cut l hr
  unfold fin
  rw [if_pos c]
  exact ⟨hq _ a b⟩
section
variable {gl : Str → Option PyData} {cl : Nat → List D → Gh → Rs D} {fr : Fr} {g : Gh} {r : Nat} {a b : Int}
theorem ix_lo {i : Nat} {e : CE} {ps : List PyData} {k : Int} {p : PyData} (hv : fr[i]? = some (some (.ref r))) (h : g[r]? = some (dlo ps)) (he : Is gl cl fr g e (.int k)) (hp : atI ps k = some p) : Is gl cl fr g (.ix (.var i) e) p := by
  unfold Is at he ⊢
  rw [y_ix, y_var hv, Rs.ok_bind, he, Rs.ok_bind]
  show Rs.of ((getL g r).bind fun xs => atI xs k) g = _
  rw [getL_lo h]
  show Rs.of (atI (ps.map D.dat) k) g = _
  have e : atI (ps.map D.dat) k = (atI ps k).map D.dat := by
    unfold atI
    rw [List.length_map]
    cases ixN ps.length k with
    | none => rfl
    | some j => show (ps.map D.dat)[j]? = (ps[j]?).map D.dat; rw [List.getElem?_map]
  rw [e, hp]
  rfl
theorem sub_lo {wf i : Nat} {e v : CE} {ps : List PyData} {k : Int} {j : Nat} {p : PyData} {ss : CSs} {Q : Fl → Gh → Prop} {E : Xn → Gh → Prop} (hv : fr[i]? = some (some (.ref r))) (h : g[r]? = some (dlo ps)) (he : Is gl cl fr g e (.int k)) (hp : Is gl cl fr g v p) (hj : ixN ps.length k = some j)
    (hq : W (exs gl cl wf ss fr (putO g r (dlo (ps.set j p)))) Q E) : W (exs gl cl wf (.cons (.sub (.var i) e v) ss) fr g) Q E := by
  refine x_sub (w_is hp (w_var hv (w_is he ?_)))
  show W (setV (.ref r) (.dat (.int k)) (.dat p) g) _ _
  unfold setV
  dsimp only
  rw [getL_lo h]
  dsimp only
  rw [List.length_map, hj]
  refine W.okk ?_
  show W (exs gl cl wf ss fr (putO g r (.lst ((ps.map D.dat).set j (.dat p))))) Q E
  rw [← List.map_set]
  exact hq
theorem mtd_app {ps : List PyData} {p : PyData} {Q : D → Gh → Prop} {E : Xn → Gh → Prop} (h : g[r]? = some (dlo ps)) (hz : ps.length < line) (hq : Q (.dat .none) (putO g r (dlo (ps ++ [p])))) : W (mtd .append (.ref r) [.dat p] g) Q E := by
  unfold mtd
  dsimp only
  rw [getL_lo h]
  dsimp only
  rw [if_pos (by rw [List.length_map]; exact hz)]
  refine W.okk ?_
  show Q (.dat .none) (putO g r (.lst (ps.map D.dat ++ [D.dat p])))
  rw [show ps.map D.dat ++ [D.dat p] = (ps ++ [p]).map D.dat by rw [List.map_append]; rfl]
  exact hq
theorem mtd_ext {ps qs : List PyData} {Q : D → Gh → Prop} {E : Xn → Gh → Prop} (h : g[r]? = some (dlo ps)) (hz : ps.length + qs.length ≤ line) (hq : Q (.dat .none) (putO g r (dlo (ps ++ qs)))) : W (mtd .extend (.ref r) [.dat (.list qs)] g) Q E := by
  unfold mtd
  dsimp only
  rw [getL_lo h]
  dsimp only
  rw [if_pos (by rw [List.length_map]; exact hz), ← List.map_append]
  exact ⟨hq⟩
theorem mtd_pop {ps : List PyData} {p : PyData} {Q : D → Gh → Prop} {E : Xn → Gh → Prop} (h : g[r]? = some (dlo (ps ++ [p]))) (hq : Q (.dat p) (putO g r (dlo ps))) : W (mtd .pop (.ref r) [] g) Q E := by
  unfold mtd
  dsimp only
  rw [getL_lo h]
  dsimp only
  rw [List.map_append]
  have e : (ps.map D.dat ++ [p].map D.dat)[(ps.map D.dat ++ [p].map D.dat).length - 1]? = some (.dat p) := by simp
  rw [e]
  dsimp only
  refine W.okk ?_
  show Q _ (putO g r (.lst (ps.map D.dat ++ [D.dat p]).dropLast))
  rw [List.dropLast_concat]
  exact hq
theorem mtd_popAt {ps : List PyData} {j : Nat} {p : PyData} {Q : D → Gh → Prop} {E : Xn → Gh → Prop} (h : g[r]? = some (dlo ps)) (hj : ps[j]? = some p) (hz : j < 9223372036854775808) (hq : Q (.dat p) (putO g r (dlo (ps.eraseIdx j)))) : W (mtd .popAt (.ref r) [.dat (.int (j : Nat))] g) Q E := by
  have lt := (List.getElem?_eq_some_iff.mp hj).1
  unfold mtd
  dsimp only
  rw [getL_lo h]
  dsimp only
  rw [if_pos ⟨by omega, by omega⟩, List.length_map]
  have n1 : ixN ps.length (j : Int) = some j := by
    unfold ixN
    rw [if_pos (by omega), if_pos (by omega), Int.toNat_natCast]
  rw [(ixN_seq n1).1]
  dsimp only
  rw [List.getElem?_map, hj]
  refine W.okk ?_
  show Q _ (putO g r (.lst ((ps.map D.dat).eraseIdx j)))
  rw [← map_erase]
  exact hq
theorem isL_lo {ps : List PyData} (h : g[r]? = some (dlo ps)) : isL (.ref r) g = true := by
  show (getL g r).isSome = true
  rw [getL_lo h]
  rfl
end
theorem mod_d {i j : Int} (h : 0 < j) : binD .mod (.int i) (.int j) = some (.int (i % j)) := if_pos h
theorem fdiv_d {i j : Int} (h : 0 < j ∧ j < 1073741824) : binD .fdiv (.int i) (.int j) = some (.int (i / j)) := if_pos h
theorem mul_d {i j : Int} (h : -(2 ^ 64) < j ∧ j < 2 ^ 64) : binD .mul (.int i) (.int j) = some (.int (i * j)) := if_pos (.inr h)
theorem mul_d1 {i j : Int} (h : -(2 ^ 64) < i ∧ i < 2 ^ 64) : binD .mul (.int i) (.int j) = some (.int (i * j)) := if_pos (.inl h)
theorem int_d {i : Int} : biD .int [.int i] = some (.int i) := rfl
def T_take : CSs := (.cons (.ife (.cmp .gt (.ix (.var 0) (.int 0)) (.int 0)) (.cons (.set (.nm 2) (.bin .mod (.bi .int (.cons (.ix (.var 0) (.int 0)) .nil)) (.var 1))) (.cons (.sub (.var 0) (.int 0) (.bin .fdiv (.ix (.var 0) (.int 0)) (.var 1))) (.cons (.ret (.var 2)) .nil))) .nil) (.cons (.sub (.var 0) (.int 1) (.bin .mod (.bi .int (.cons (.bin .add (.bin .mul (.ix (.var 0) (.int 1)) (.int 39373)) (.int 7)) .nil)) (.int 2147483647))) (.cons (.ret (.bin .mod (.bi .int (.cons (.bin .fdiv (.bin .mod (.bi .int (.cons (.bin .mul (.ix (.var 0) (.int 1)) (.ix (.var 0) (.int 1))) .nil)) (.int 2147483629)) (.int 32)) .nil)) (.var 1))) .nil)))
def T_one (t : Nat) : CSs := (.cons (.ret (.ix (.var 1) (.call t (.cons (.var 0) (.cons (.bi .len (.cons (.var 1) .nil)) .nil))))) .nil)
def B_mixed (t : Nat) : CSs := (.cons (.expr (.mth .append (.var 3) (.cons (.mth .popAt (.var 2) (.cons (.call t (.cons (.var 0) (.cons (.bi .len (.cons (.var 2) .nil)) .nil))) .nil)) .nil))) .nil)
def T_mixed (t : Nat) : CSs := (.cons (.par 2 3 (.mlist (.var 1)) (.lst true .nil)) (.cons (.for_ (.nm 4) (.rng1 (.bi .len (.cons (.var 1) .nil))) (B_mixed t)) (.cons (.ret (.var 3)) .nil)))
section
variable {gl : Str → Option PyData} {Fs : List FDef} {wf n f t : Nat} {nm1 nm2 nm3 : Str} {g : Gh} {r : Nat} {E : Xn → Gh → Prop} {Q : D → Gh → Prop}
theorem w_take {m : Int} (hf : Fs[f]? = some ⟨nm1, 2, 3, false, T_take⟩) (hp : Pool g r) (hg : Low g) (hm : 0 < m ∧ m < 1073741824) (hq : ∀ (t : Nat) h, (t : Int) < m → Gr r g h → h.length = g.length → Q (.dat (.int (t : Nat))) h) :
    W (Fw.run gl Fs wf (n + 1) f [.ref r, .dat (.int m)] g) Q E := by
  refine w_run hf rfl ?_
  obtain ⟨a, b, h, h1, h2, h3⟩ := hp
  have P : Pool g r := ⟨a, b, h, h1, h2, h3⟩
  show W (exs gl (Fw.run gl Fs wf n) wf T_take [some (.ref r), some (.dat (.int m)), none] g) _ _
  have C : Is gl (Fw.run gl Fs wf n) [some (.ref r), some (.dat (.int m)), none] g (.cmp .gt (.ix (.var 0) (.int 0)) (.int 0)) (.bool (decide (0 < a))) := is_cmp (p := .int a) (q := .int 0) (ix_lo rfl h is_int rfl) is_int gt_int
  have nn : ∀ {x : Int}, 0 ≤ x → x < m → ∃ t : Nat, x = (t : Int) ∧ (t : Int) < m := fun {x} u v => ⟨x.toNat, by omega, by omega⟩
  refine x_ifp C (fun k => ?_) fun k => ?_
  · rw [decide_eq_true_eq] at k
    refine x_set (w_is (is_bin (p := .int a) (q := .int m) (is_bi (ix_lo rfl h is_int rfl) int_d) (is_var rfl) (mod_d hm.1)) ?_)
    refine sub_lo (k := 0) (j := 0) (p := .int (a / m)) rfl h is_int (is_bin (p := .int a) (q := .int m) (ix_lo rfl h is_int rfl) (is_var rfl) (fdiv_d hm)) rfl ?_
    refine x_ret (w_is (is_var rfl) (x_rt ?_))
    have G := Gr.put P hg (a := a / m) (b := b) (Int.ediv_nonneg h1 (by omega)) h2 h3
    obtain ⟨t, e, lt⟩ := nn (Int.emod_nonneg a (by omega)) (Int.emod_lt_of_pos a hm.1)
    rw [e]
    exact fin_data G hg P.lt fun h1 k1 k2 => hq t h1 lt k1 k2
  · refine x_nil (x_nxt ?_)
    refine sub_lo (k := 1) (j := 1) (p := .int ((b * 39373 + 7) % 2147483647)) rfl h is_int (is_bin (p := .int (b * 39373 + 7)) (q := .int 2147483647) (is_bi (is_bin (p := .int (b * 39373)) (q := .int 7) (is_bin (p := .int b) (q := .int 39373) (ix_lo rfl h is_int rfl) is_int (mul_d (by omega))) is_int rfl) int_d) is_int (mod_d (by omega))) rfl ?_
    generalize hb : (b * 39373 + 7) % 2147483647 = q
    have q0 : 0 ≤ q := by rw [← hb]; exact Int.emod_nonneg _ (by omega)
    have q1 : q < 2147483647 := by rw [← hb]; exact Int.emod_lt_of_pos _ (by omega)
    have G := Gr.put P hg (a := a) (b := q) h1 q0 q1
    have h' : (putO g r (dlo [.int a, .int q]))[r]? = some (dlo [.int a, .int q]) := put_at P.lt
    refine x_ret (w_is (is_bin (p := .int (q * q % 2147483629 / 32)) (q := .int m) (is_bi (is_bin (p := .int (q * q % 2147483629)) (q := .int 32) (is_bin (p := .int (q * q)) (q := .int 2147483629) (is_bi (is_bin (p := .int q) (q := .int q) (ix_lo rfl h' is_int rfl) (ix_lo rfl h' is_int rfl) (mul_d (by omega))) int_d) is_int (mod_d (by omega))) is_int (fdiv_d (by omega))) int_d) (is_var rfl) (mod_d hm.1)) ?_)
    obtain ⟨t, e, lt⟩ := nn (Int.emod_nonneg (q * q % 2147483629 / 32) (by omega)) (Int.emod_lt_of_pos (q * q % 2147483629 / 32) hm.1)
    rw [e]
    exact fin_data G hg P.lt fun h1 k1 k2 => hq t h1 lt k1 k2
theorem w_one {p : PyData} {xs : List PyData} (hf : Fs[f]? = some ⟨nm2, 2, 2, false, T_one t⟩) (ht : Fs[t]? = some ⟨nm1, 2, 3, false, T_take⟩) (hs : p = .list xs ∨ p = .tuple xs) (h0 : xs ≠ []) (hz : xs.length < 1073741824) (hp : Pool g r) (hg : Low g)
    (hq : ∀ (q : PyData) h, q ∈ xs → Gr r g h → h.length = g.length → Q (.dat q) h) : W (Fw.run gl Fs wf (n + 2) f [.ref r, .dat p] g) Q E := by
  refine w_run hf rfl ?_
  show W (exs gl (Fw.run gl Fs wf (n + 1)) wf (T_one t) [some (.ref r), some (.dat p)] g) _ _
  have L : Is gl (Fw.run gl Fs wf (n + 1)) [some (.ref r), some (.dat p)] g (.bi .len (.cons (.var 1) .nil)) (.int xs.length) := by
    rcases hs with rfl | rfl <;> exact is_bi (is_var rfl) rfl
  have l0 : 0 < xs.length := List.length_pos_iff.mpr h0
  refine x_ret (w_ix (w_var rfl (w_call (ws_cons (w_var rfl (ws_cons (w_is L (ws_nil ?_))))))))
  refine w_take ht hp hg ⟨by omega, by omega⟩ fun j h hj k1 k2 => ?_
  have hj' : j < xs.length := by omega
  have X : ixD p (.int (j : Nat)) = some xs[j] := by
    rcases hs with rfl | rfl <;> exact L2.atI_nat (List.getElem?_eq_getElem hj')
  refine v_ix X ?_
  exact fin_data k1 hg hp.lt fun h1 k3 k4 => hq _ h1 (List.getElem_mem hj') k3 k4
theorem w_mixed {p : PyData} {xs : List PyData} (hf : Fs[f]? = some ⟨nm3, 2, 5, false, T_mixed t⟩) (ht : Fs[t]? = some ⟨nm1, 2, 3, false, T_take⟩) (hs : p = .list xs ∨ p = .tuple xs) (hz : xs.length < 1000000) (hp : Pool g r) (hg : Low g)
    (hq : ∀ (s : Nat) h ys, ys.Perm xs → g.length ≤ s → h[s]? = some (dlo ys) → Gr r g h → Q (.ref s) h) : W (Fw.run gl Fs wf (n + 2) f [.ref r, .dat p] g) Q E := by
  refine w_run hf rfl ?_
  show W (exs gl (Fw.run gl Fs wf (n + 1)) wf (T_mixed t) [some (.ref r), some (.dat p), none, none, none] g) _ _
  refine x_par (w_mlist (w_var rfl ⟨xs, ?_, w_new (ws_nil ⟨Nat.zero_le _, ?_⟩)⟩))
  · rcases hs with rfl | rfl <;> rfl
  have L : ∀ x y z h, Is gl (Fw.run gl Fs wf (n + 1)) [some (.ref r), some (.dat p), x, y, z] h (.bi .len (.cons (.var 1) .nil)) (.int xs.length) := by
    intro x y z h
    rcases hs with rfl | rfl <;> exact is_bi (is_var rfl) rfl
  have len1 : (g ++ [dlo xs]).length = g.length + 1 := by simp
  have G2 : Gr r g ((g ++ [dlo xs]) ++ [dlo []]) := ((Gr.refl hp hg).new (ps := xs)).new
  show W (exs gl (Fw.run gl Fs wf (n + 1)) wf _ [some (.ref r), some (.dat p), some (.ref g.length), some (.ref (g ++ [dlo xs]).length), none] ((g ++ [dlo xs]) ++ [dlo []])) _ _
  rw [len1]
  refine x_for (wi_rng (w_is (L _ _ _ _) ⟨xs.length, rfl, by omega, ?_⟩))
  refine w_for (w := none) (fun its fr h => ∃ ls fs x4, (ls ++ fs).Perm xs ∧ its.length = ls.length ∧ h[g.length]? = some (dlo ls) ∧ h[g.length + 1]? = some (dlo fs) ∧ Gr r g h ∧ (∃ ks : List Nat, its = ks.map fun (k : Nat) => Itm.one (.dat (.int (k : Nat)))) ∧ fr = [some (.ref r), some (.dat p), some (.ref g.length), some (.ref (g.length + 1)), x4]) (fun _ _ _ _ => True.intro) ?_ ?_ _ _ _ ?_
  · rintro it rest fr h ⟨ls, fs, x4, p1, p2, p3, p4, p5, ⟨ks, p6⟩, rfl⟩
    cases ks with
    | nil => cases p6
    | cons k ks =>
    cases p6
    refine ⟨[some (.ref r), some (.dat p), some (.ref g.length), some (.ref (g.length + 1)), some (.dat (.int (k : Nat)))], rfl, ?_⟩
    have l0 : 0 < ls.length := by rw [← p2]; simp
    have l1 : ls.length + fs.length = xs.length := by rw [← List.length_append]; exact p1.length_eq
    have ll : Is gl (Fw.run gl Fs wf (n + 1)) [some (.ref r), some (.dat p), some (.ref g.length), some (.ref (g.length + 1)), some (.dat (.int (k : Nat)))] h (.bi .len (.cons (.var 2) .nil)) (.int ls.length) := by
      unfold Is
      rw [y_bi, ys_cons, y_var (d := .ref g.length) rfl, Rs.ok_bind, ys_nil, Rs.ok_bind, Rs.ok_bind]
      show Rs.ofP ((viaLs h [.ref g.length]).bind fun ps => biD .len ps) h = _
      have e : viaLs h [.ref g.length] = some [.list ls] := by
        show (viaL h (.ref g.length)).bind (fun p => (viaLs h []).map (p :: ·)) = _
        rw [viaL_lo p3]
        rfl
      rw [e]
      rfl
    refine x_expr (w_mth (w_var rfl ⟨isL_lo p4, ws_cons (w_mth (w_var rfl ⟨isL_lo p3, ws_cons (w_call (ws_cons (w_var rfl (ws_cons (w_is ll (ws_nil ?_))))))⟩))⟩))
    refine w_take ht p5.pool p5.low ⟨by omega, by omega⟩ fun j h2 hj k1 k2 => ws_nil ?_
    have lt := p5.pool.lt
    have lr := hp.lt
    have e3 : h2[g.length]? = some (dlo ls) := (k1.els _ (lt_of p3) (by omega)).trans p3
    have e4 : h2[g.length + 1]? = some (dlo fs) := (k1.els _ (lt_of p4) (by omega)).trans p4
    have hj' : j < ls.length := by omega
    refine mtd_popAt (p := ls[j]) e3 (List.getElem?_eq_getElem hj') (by omega) (ws_nil ?_)
    refine mtd_app (ps := fs) ((put_ne (by omega)).trans e4) (by have : line = 16777216 := rfl; omega) (x_nil ?_)
    refine ⟨ls.eraseIdx j, fs ++ [ls[j]], some (.dat (.int (k : Nat))), ?_, ?_, ?_, ?_, ?_, ⟨ks, rfl⟩, rfl⟩
    · refine .trans ?_ p1
      have a1 : (ls[j] :: ls.eraseIdx j).Perm ls := erase_perm ls j hj'
      have a2 : (ls.eraseIdx j ++ (fs ++ [ls[j]])).Perm (ls[j] :: (ls.eraseIdx j ++ fs)) := by
        rw [← List.append_assoc]
        exact List.perm_append_singleton _ _
      exact a2.trans (a1.append_right fs)
    · rw [List.length_eraseIdx_of_lt hj']
      simp at p2
      simp
      omega
    · exact (put_ne (by omega)).trans (put_at (lt_of e3))
    · exact put_at (by rw [putO_len]; exact lt_of e4)
    · exact ((p5.trans k1).putB (Nat.le_refl _) lr).putB (Nat.le_succ _) lr
  · rintro fr h ⟨ls, fs, x4, p1, p2, p3, p4, p5, p6, rfl⟩
    have : ls = [] := List.length_eq_zero_iff.mp p2.symm
    subst this
    refine x_nxt (x_ret (w_var rfl ?_))
    show W (fin false g.length (.ref (g.length + 1)) h) Q E
    unfold fin
    have nlt : ¬ g.length + 1 < g.length := by omega
    split
    · dsimp only
      rw [if_neg nlt, if_neg (by decide)]
      exact ⟨hq _ h fs (by simpa using p1) (by omega) p4 p5⟩
    · exact ⟨hq _ h fs (by simpa using p1) (by omega) p4 p5⟩
  · refine ⟨xs, [], none, by simp, by simp, ?_, ?_, G2, ⟨List.range xs.length, rfl⟩, rfl⟩
    · rw [List.getElem?_append_left (by simp), new_at]
    · have := new_at (h := g ++ [dlo xs]) (o := dlo [])
      rw [len1] at this
      exact this
end
end Fw
end
set_option Elab.async false
set_option linter.all false
set_option maxRecDepth 100000
set_option maxHeartbeats 4000000
noncomputable section
namespace Fw
open PySem PySem.Spec PyProof.Rows L2
theorem lt_int {i j : Int} : cmpD .lt (.int i) (.int j) = some (decide (i < j)) := rfl
theorem ge_int {i j : Int} : cmpD .ge (.int i) (.int j) = some (decide (j ≤ i)) := by
  show (ltD (.int i) (.int j)).map not = _
  show some (!decide (i < j)) = _
  rw [← int_le_not]
theorem eq_int {i j : Int} : cmpD .eq (.int i) (.int j) = some (decide (i = j)) := by
  show some (i == j) = _
  by_cases h : i = j
  · subst h; simp
  · simp [h]
theorem ne_int {i j : Int} : cmpD .ne (.int i) (.int j) = some (!decide (i = j)) := by
  show (cmpD .eq (.int i) (.int j)).map not = _
  rw [eq_int]
  rfl
theorem add_tup {xs ys : List PyData} (h : xs.length + ys.length ≤ line) : binD .add (.tuple xs) (.tuple ys) = some (.tuple (xs ++ ys)) := if_pos h
theorem add_lst {xs ys : List PyData} (h : xs.length + ys.length ≤ line) : binD .add (.list xs) (.list ys) = some (.list (xs ++ ys)) := if_pos h
theorem line_is : line = 16777216 := rfl
section
variable {gl : Str → Option PyData} {cl : Nat → List D → Gh → Rs D} {wf : Nat} {fr : Fr} {g : Gh}
theorem is_ite2 {c a b : CE} {p : Bool} {r s : PyData} (hc : Is gl cl fr g c (.bool p)) (ha : p = true → Is gl cl fr g a r) (hb : p = false → Is gl cl fr g b s) : Is gl cl fr g (.ite c a b) (if p = true then r else s) := by
  unfold Is at hc ⊢
  rw [y_ite, hc, Rs.ok_bind, tru_bool]
  cases p with
  | true => exact ha rfl
  | false => exact hb rfl
theorem io_no : evo gl cl .no fr g = .ok none g := rfl
theorem io_so {e : CE} {i : Int} (h : Is gl cl fr g e (.int i)) : evo gl cl (.so e) fr g = .ok (some i) g := by
  unfold Is at h
  rw [yo_so, h, Rs.ok_bind, intOf_int]
theorem is_sl {a : CE} {dlo hi : CO} {p r : PyData} {l h : Option Int} (ha : Is gl cl fr g a p) (hl : evo gl cl dlo fr g = .ok l g) (hh : evo gl cl hi fr g = .ok h g) (hr : slD p l h = some r) : Is gl cl fr g (.sl a dlo hi) r := by
  unfold Is at ha ⊢
  rw [y_sl, ha, Rs.ok_bind, hl, Rs.ok_bind, hh, Rs.ok_bind]
  show Rs.ofP ((viaL g (.dat p)).bind fun p => slD p l h) g = _
  show Rs.ofP (slD p l h) g = _
  rw [hr]
  rfl
theorem it_tup {α : Type} {a : CE} {xs : List α} {enc : α → PyData} (ha : Is gl cl fr g a (.tuple (xs.map enc))) : evi gl cl (.seq a) fr g = .ok (xs.map fun x => Itm.one (.dat (enc x)), none) g := by
  unfold Is at ha
  rw [yi_seq, ha, Rs.ok_bind]
  show Rs.ok (((xs.map enc).map D.dat).map Itm.one, none) g = _
  rw [List.map_map, List.map_map]
  rfl
theorem it_lst {α : Type} {a : CE} {xs : List α} {enc : α → PyData} (ha : Is gl cl fr g a (.list (xs.map enc))) : evi gl cl (.seq a) fr g = .ok (xs.map fun x => Itm.one (.dat (enc x)), none) g := by
  unfold Is at ha
  rw [yi_seq, ha, Rs.ok_bind]
  show Rs.ok (((xs.map enc).map D.dat).map Itm.one, none) g = _
  rw [List.map_map, List.map_map]
  rfl
theorem it_tup0 {a : CE} {xs : List PyData} (ha : Is gl cl fr g a (.tuple xs)) : evi gl cl (.seq a) fr g = .ok (xs.map fun x => Itm.one (.dat x), none) g := by
  have := it_tup (enc := id) (xs := xs) (by rw [List.map_id]; exact ha)
  exact this
theorem it_lst0 {a : CE} {xs : List PyData} (ha : Is gl cl fr g a (.list xs)) : evi gl cl (.seq a) fr g = .ok (xs.map fun x => Itm.one (.dat x), none) g := by
  have := it_lst (enc := id) (xs := xs) (by rw [List.map_id]; exact ha)
  exact this
theorem it_rng {a : CE} {j : Nat} (ha : Is gl cl fr g a (.int (j : Nat))) (hj : j ≤ 1000000000) : evi gl cl (.rng1 a) fr g = .ok ((List.range j).map fun (k : Nat) => Itm.one (.dat (.int (k : Nat))), none) g := by
  unfold Is at ha
  rw [yi_rng1, ha, Rs.ok_bind, intOf_int]
  dsimp only
  rw [if_pos (inB_nat hj), Int.toNat_natCast]
  have e : (rngI 0 j).map Itm.one = (List.range j).map fun (k : Nat) => Itm.one (.dat (.int (k : Nat))) := by
    unfold rngI
    rw [List.map_map]
    congr 1
    funext k
    show Itm.one (.dat (.int (0 + (k : Nat)))) = _
    rw [Int.zero_add]
  rw [e]
theorem lcGo_mapE {α : Type} {step : Itm → Gh → Rs Unit} {g : Gh} {it : α → Itm} {f : α → List D} : ∀ (xs : List α) (ys : List D), (∀ x ∈ xs, ∀ zs : List D, zs.length + (f x).length ≤ line → step (it x) (g ++ [.lst zs]) = .ok () (g ++ [.lst (zs ++ f x)])) → ys.length + (xs.flatMap f).length ≤ line → lcGo step none (xs.map it) (g ++ [.lst ys]) = .ok () (g ++ [.lst (ys ++ xs.flatMap f)])
  | [], ys, _, _ => by
    rw [List.map_nil]
    unfold lcGo
    rw [if_pos (show stillL none _ from True.intro)]
    simp
  | x :: xs, ys, h, hz => by
    rw [List.flatMap_cons, List.length_append] at hz
    rw [List.map_cons]
    unfold lcGo
    rw [if_pos (show stillL none _ from True.intro), h x (List.mem_cons_self) ys (by omega), Rs.ok_bind, lcGo_mapE xs (ys ++ f x) (fun i hi => h i (List.mem_cons_of_mem _ hi)) (by rw [List.length_append]; omega)]
    rw [List.flatMap_cons, List.append_assoc]
theorem putL_one {g : Gh} {zs : List D} {d : D} (h : zs.length + 1 ≤ line) : putL g.length d (g ++ [.lst zs]) = .ok () (g ++ [.lst (zs ++ [d])]) := by
  unfold putL
  have z : getL (g ++ [Ob.lst zs]) g.length = some zs := by unfold getL; simp
  rw [z]
  dsimp only
  rw [if_pos (by omega)]
  unfold putO
  simp
theorem is_lcM {α : Type} {t : Tg} {s : CI} {wp : List Nat} {e : CE} {xs : List α} {it : α → Itm} (F : α → PyData) (hg : Low g) (hs : evi gl cl s fr g = .ok (xs.map it, none) g) (hz : xs.length ≤ line)
    (h : ∀ x ∈ xs, ∀ zs : List D, ∃ fr2, setI t (it x) (wipeF fr wp) = some fr2 ∧ Is gl cl fr2 (g ++ [.lst zs]) e (F x)) :
    Is gl cl fr g (.lc false t s wp .no e) (.list (xs.map F)) := by
  have e0 : xs.flatMap (fun x => [D.dat (F x)]) = (xs.map F).map D.dat := by
    clear h hz hs
    induction xs with
    | nil => rfl
    | cons x xs ih => rw [List.flatMap_cons, ih]; rfl
  unfold Is ev
  rw [hs, Rs.ok_bind]
  dsimp only
  rw [lcGo_mapE (f := fun x => [D.dat (F x)]) xs [] ?_ ?_, Rs.ok_bind, List.nil_append, e0, lcEnd_dat hg (datsOf_map _)]
  · rfl
  · intro x hx zs hz2
    obtain ⟨fr2, h1, h2⟩ := h x hx zs
    rw [h1]
    dsimp only
    rw [yc_no, Rs.ok_bind]
    dsimp only
    unfold Is at h2
    rw [h2, Rs.ok_bind]
    exact putL_one hz2
  · rw [e0]
    simpa using hz
theorem is_lcF {α : Type} {t : Tg} {s : CI} {wp : List Nat} {c e : CE} {xs : List α} {it : α → Itm} (P : α → Bool) (F : α → PyData) (hg : Low g) (hs : evi gl cl s fr g = .ok (xs.map it, none) g) (hz : xs.length ≤ line)
    (h : ∀ x ∈ xs, ∀ zs : List D, ∃ fr2, setI t (it x) (wipeF fr wp) = some fr2 ∧ Is gl cl fr2 (g ++ [.lst zs]) c (.bool (P x)) ∧ (P x = true → Is gl cl fr2 (g ++ [.lst zs]) e (F x))) :
    Is gl cl fr g (.lc false t s wp (.so c) e) (.list ((xs.filter P).map F)) := by
  have e0 : xs.flatMap (fun x => if P x = true then [D.dat (F x)] else []) = ((xs.filter P).map F).map D.dat := by
    clear h hz hs
    induction xs with
    | nil => rfl
    | cons x xs ih =>
      rw [List.flatMap_cons, ih, List.filter_cons]
      cases P x <;> rfl
  unfold Is ev
  rw [hs, Rs.ok_bind]
  dsimp only
  rw [lcGo_mapE (f := fun x => if P x = true then [D.dat (F x)] else []) xs [] ?_ ?_, Rs.ok_bind, List.nil_append, e0, lcEnd_dat hg (datsOf_map _)]
  · rfl
  · intro x hx zs hz2
    obtain ⟨fr2, h1, h2, h3⟩ := h x hx zs
    rw [h1]
    dsimp only
    unfold Is at h2
    rw [yc_so, h2, Rs.ok_bind, tru_bool]
    dsimp only
    rw [Rs.ok_bind]
    cases q : P x with
    | false => simp
    | true =>
      dsimp only
      have h3 := h3 q
      unfold Is at h3
      rw [h3, Rs.ok_bind, if_pos rfl]
      rw [q, if_pos rfl] at hz2
      exact putL_one hz2
  · rw [e0]
    have := List.length_filter_le P xs
    simp
    omega
end
def T_pool : CSs := (.cons (.set (.nm 2) (.int 0)) (.cons (.ife (.cmp .lt (.var 1) (.bi .len (.cons (.var 0) .nil))) (.cons (.set (.nm 2) (.ix (.var 0) (.var 1))) .nil) (.cons (.ife (.cmp .ne (.var 0) (.lst false .nil)) (.cons (.set (.nm 2) (.ix (.var 0) (.int 0))) .nil) .nil) .nil)) (.cons (.set (.nm 3) (.bi .max2 (.cons (.bi .int (.cons (.var 2) .nil)) (.cons (.bi .int (.cons (.bin .sub (.neg (.int 1)) (.var 2)) .nil)) .nil)))) (.cons (.set (.nm 4) (.bin .mod (.bi .int (.cons (.bin .mul (.bin .add (.bin .add (.bin .add (.bin .mod (.bi .int (.cons (.var 3) .nil)) (.int 2147483629)) (.bin .mul (.bin .mul (.int 7919) (.var 1)) (.var 1))) (.bin .mul (.int 31) (.var 1))) (.int 17)) (.int 48271)) .nil)) (.int 2147483647))) (.cons (.ret (.lst true (.cons (.bin .mul (.var 3) (.bi .int (.cons (.and (.cmp .ge (.var 3) (.bin .pow (.int 10) (.int 18))) (.cmp .lt (.var 1) (.bi .len (.cons (.var 0) .nil)))) .nil))) (.cons (.var 4) .nil)))) .nil)))))
section
variable {gl : Str → Option PyData} {Fs : List FDef} {wf n f t : Nat} {nm1 nm2 nm3 : Str} {g : Gh} {r : Nat} {E : Xn → Gh → Prop} {Q : D → Gh → Prop}
theorem shaped_ints (ns : List Int) : SeqAt.shaped (.list (ns.map .int)) = true := by
  have key : ∀ ns : List Int, PyData.canLayAll0 (ns.map .int) = true ∧ PyData.depthAll (ns.map .int) = 0 := by
    intro ns
    induction ns with
    | nil => exact ⟨by simp [PyData.canLayAll0], by simp [PyData.depthAll]⟩
    | cons i ns ih =>
      constructor
      · rw [List.map_cons, PyData.canLayAll0, PyData.canLay0, ih.1]; rfl
      · rw [List.map_cons, PyData.depthAll, PyData.depth, ih.2]; rfl
  unfold SeqAt.shaped
  rw [PyData.canLay0, (key ns).1, PyData.depth, (key ns).2]
  rfl
theorem atI_zero' {α : Type} (x : α) (xs : List α) : atI (x :: xs) 0 = some x := by
  have := L2.atI_nat (xs := x :: xs) (j := 0) (v := x) rfl
  exact this
theorem max_nn (c : Int) : ∃ b : Int, 0 ≤ b ∧ biD .max2 [.int c, .int (-1 - c)] = some (.int b) := by
  refine ⟨if -1 - c > c then -1 - c else c, ?_, rfl⟩
  split <;> omega
theorem pool_step {ns : List Int} {k : Nat} (hk : k ≤ 1000000) (hg : Low g) (hn : ns.length ≤ 63)
  (hq : ∀ h, Pool h g.length → Gr g.length (g ++ [poolO 0 0]) h → h.length = g.length + 1 → Q (.ref g.length) h) (c : Int) : W (exs gl (Fw.run gl Fs wf n) wf (.cons (.set (.nm 3) (.bi .max2 (.cons (.bi .int (.cons (.var 2) .nil)) (.cons (.bi .int (.cons (.bin .sub (.neg (.int 1)) (.var 2)) .nil)) .nil)))) (.cons (.set (.nm 4) (.bin .mod (.bi .int (.cons (.bin .mul (.bin .add (.bin .add (.bin .add (.bin .mod (.bi .int (.cons (.var 3) .nil)) (.int 2147483629)) (.bin .mul (.bin .mul (.int 7919) (.var 1)) (.var 1))) (.bin .mul (.int 31) (.var 1))) (.int 17)) (.int 48271)) .nil)) (.int 2147483647))) (.cons (.ret (.lst true (.cons (.bin .mul (.var 3) (.bi .int (.cons (.and (.cmp .ge (.var 3) (.bin .pow (.int 10) (.int 18))) (.cmp .lt (.var 1) (.bi .len (.cons (.var 0) .nil)))) .nil))) (.cons (.var 4) .nil)))) .nil)))
    [some (.dat (.list (ns.map .int))), some (.dat (.int (k : Nat))), some (.dat (.int c)), none, none] g) (fun f g1 => match f with
    | .rt v => W (fin false g.length v g1) Q E
    | .nx _ => W (fin false g.length (.dat .none) g1) Q E
    | _ => False) (fun x g1 => E x (finX g.length g1)) := by
  obtain ⟨b, b0, hb⟩ := max_nn c
  refine x_set (w_is (p := .int b) (is_bi2 (is_bi (is_var rfl) int_d) (is_bi (is_bin (p := .int (-1)) (q := .int c) (is_neg is_int) (is_var rfl) rfl) int_d) hb) ?_)
  show W (exs gl (Fw.run gl Fs wf n) wf _ [some (.dat (.list (ns.map .int))), some (.dat (.int (k : Nat))), some (.dat (.int c)), some (.dat (.int b)), none] g) _ _
  refine x_set (w_is (p := .int ((b % 2147483629 + 7919 * k * k + 31 * k + 17) * 48271 % 2147483647)) (is_bin (p := .int ((b % 2147483629 + 7919 * k * k + 31 * k + 17) * 48271)) (q := .int 2147483647) (is_bi (is_bin (p := .int (b % 2147483629 + 7919 * k * k + 31 * k + 17)) (q := .int 48271) (is_bin (p := .int (b % 2147483629 + 7919 * k * k + 31 * k)) (q := .int 17) (is_bin (p := .int (b % 2147483629 + 7919 * k * k)) (q := .int (31 * k)) (is_bin (p := .int (b % 2147483629)) (q := .int (7919 * k * k)) (is_bin (p := .int b) (q := .int 2147483629) (is_bi (is_var rfl) int_d) is_int (mod_d (by omega)))
    (is_bin (p := .int (7919 * k)) (q := .int k) (is_bin (p := .int 7919) (q := .int k) is_int (is_var rfl) (mul_d1 (by omega))) (is_var rfl) (mul_d (by omega))) rfl)
    (is_bin (p := .int 31) (q := .int k) is_int (is_var rfl) (mul_d1 (by omega))) rfl) is_int rfl) is_int (mul_d (by omega))) int_d) is_int (mod_d (by omega))) ?_)
  generalize hm : (b % 2147483629 + 7919 * (k : Int) * k + 31 * k + 17) * 48271 % 2147483647 = m
  have m0 : 0 ≤ m := by rw [← hm]; exact Int.emod_nonneg _ (by omega)
  have m1 : m < 2147483647 := by rw [← hm]; exact Int.emod_lt_of_pos _ (by omega)
  show W (exs gl (Fw.run gl Fs wf n) wf _ [some (.dat (.list (ns.map .int))), some (.dat (.int (k : Nat))), some (.dat (.int c)), some (.dat (.int b)), some (.dat (.int m))] g) _ _
  have fl : ∃ d : Bool, Is gl (Fw.run gl Fs wf n) [some (.dat (.list (ns.map .int))), some (.dat (.int (k : Nat))), some (.dat (.int c)), some (.dat (.int b)), some (.dat (.int m))] g (.and (.cmp .ge (.var 3) (.bin .pow (.int 10) (.int 18))) (.cmp .lt (.var 1) (.bi .len (.cons (.var 0) .nil)))) (.bool d) :=
    ⟨_, is_and (is_cmp (p := .int b) (q := .int (10 ^ 18)) (is_var rfl) (is_bin (p := .int 10) (q := .int 18) is_int is_int rfl) ge_int) fun _ => is_cmp (p := .int k) (q := .int (ns.map PyData.int).length) (is_var rfl) (is_bi (is_var rfl) rfl) lt_int⟩
  obtain ⟨d, fl⟩ := fl
  have p1 : Is gl (Fw.run gl Fs wf n) [some (.dat (.list (ns.map .int))), some (.dat (.int (k : Nat))), some (.dat (.int c)), some (.dat (.int b)), some (.dat (.int m))] g (.bin .mul (.var 3) (.bi .int (.cons (.and (.cmp .ge (.var 3) (.bin .pow (.int 10) (.int 18))) (.cmp .lt (.var 1) (.bi .len (.cons (.var 0) .nil)))) .nil))) (.int (b * (if d then 1 else 0))) :=
    is_bin (p := .int b) (q := .int (if d then 1 else 0)) (is_var rfl) (is_bi fl rfl) (mul_d (by cases d <;> decide))
  have a0 : 0 ≤ b * (if d then 1 else 0) := by cases d <;> simp <;> omega
  refine x_ret (w_new (ws_cons (w_is p1 (ws_cons (w_var rfl (ws_nil ⟨show 2 ≤ line by decide, ?_⟩))))))
  generalize b * (if d then 1 else 0) = a at a0
  show W (fin false g.length (.ref g.length) (g ++ [dlo [.int a, .int m]])) Q E
  have po : (g ++ [poolO a m])[g.length]? = some (poolO a m) := new_at
  have G : Gr g.length (g ++ [poolO 0 0]) (g ++ [poolO a m]) := ⟨by simp, fun i hi hr => by
    have : i < g.length := by simp at hi; omega
    rw [List.getElem?_append_left this, List.getElem?_append_left this], ⟨a, m, po, a0, m0, m1⟩, low_newLo hg⟩
  have e : fin false g.length (.ref g.length) (g ++ [dlo [.int a, .int m]]) = .ok (.ref g.length) (g ++ [poolO a m]) := by
    unfold fin
    split
    · dsimp only
      rw [if_neg (by omega), if_neg (by decide)]
      rfl
    · rfl
  rw [e]
  exact ⟨hq _ ⟨a, m, po, a0, m0, m1⟩ G (by simp)⟩
theorem w_pool {ns : List Int} {k : Nat} (hf : Fs[f]? = some ⟨nm1, 2, 5, false, T_pool⟩) (hk : k ≤ 1000000) (hg : Low g) (hn : ns.length ≤ 63)
    (hq : ∀ h, Pool h g.length → Gr g.length (g ++ [poolO 0 0]) h → h.length = g.length + 1 → Q (.ref g.length) h) : W (Fw.run gl Fs wf (n + 1) f [.dat (.list (ns.map .int)), .dat (.int (k : Nat))] g) Q E := by
  refine w_run hf rfl ?_
  show W (exs gl (Fw.run gl Fs wf n) wf T_pool [some (.dat (.list (ns.map .int))), some (.dat (.int (k : Nat))), none, none, none] g) _ _
  refine x_set (w_is is_int ?_)
  show W (exs gl (Fw.run gl Fs wf n) wf _ [some (.dat (.list (ns.map .int))), some (.dat (.int (k : Nat))), some (.dat (.int 0)), none, none] g) _ _
  refine x_ifp (is_cmp (p := .int k) (q := .int (ns.map PyData.int).length) (is_var rfl) (is_bi (is_var rfl) rfl) lt_int) (fun h => ?_) fun h => ?_
  · rw [decide_eq_true_eq, List.length_map] at h
    have hk' : k < ns.length := Int.ofNat_lt.mp h
    have X : ixD (.list (ns.map .int)) (.int (k : Nat)) = some (.int ns[k]) := L2.atI_nat (by rw [List.getElem?_map, List.getElem?_eq_getElem hk']; rfl)
    exact x_set (w_is (is_ix (is_var rfl) (is_var rfl) X) (x_nil (x_nxt (pool_step hk hg hn hq _))))
  · have ne : Is gl (Fw.run gl Fs wf n) [some (.dat (.list (ns.map .int))), some (.dat (.int (k : Nat))), some (.dat (.int 0)), none, none] g (.cmp .ne (.var 0) (.lst false .nil)) (.bool (!ns.isEmpty)) := by
      refine is_cmp (p := .list (ns.map .int)) (q := .list []) (is_var rfl) (is_lst are_nil (Nat.zero_le _)) ?_
      have z : eqD (.list (ns.map .int)) (.list []) = if SeqAt.shaped (.list (ns.map .int)) && SeqAt.shaped (.list []) then some (PyData.eqv (.list (ns.map .int)) (.list [])) else none := rfl
      show (eqD (.list (ns.map .int)) (.list [])).map not = _
      have y : SeqAt.shaped (.list []) = true := by decide
      rw [z, show SeqAt.shaped (.list (ns.map .int)) = true from shaped_ints ns, y]
      cases ns <;> rfl
    refine x_ifp ne (fun h => ?_) fun h => ?_
    · cases ns with
      | nil => cases h
      | cons i ns => exact x_set (w_is (is_ix (p := .list ((i :: ns).map .int)) (q := .int 0) (is_var rfl) is_int (atI_zero' _ _)) (x_nil (x_nxt (x_nil (x_nxt (pool_step hk hg hn hq _))))))
    · exact x_nil (x_nxt (x_nil (x_nxt (pool_step hk hg hn hq _))))
end
end Fw
end
set_option Elab.async false
set_option linter.all false
set_option maxRecDepth 100000
set_option maxHeartbeats 4000000
noncomputable section
namespace Fw
open PySem PySem.Spec PyProof.Rows L2
theorem W.still {α : Type} {r : Rs α} {Q : α → Gh → Prop} {E : Xn → Gh → Prop} (h : W r Q E0) : W r.still Q E := by
  cases r with
  | ok a g => exact ⟨h.out_⟩
  | exc x g => exact h.out_.elim
  | bad => exact h.out_.elim
section
variable {gl : Str → Option PyData} {cl : Nat → List D → Gh → Rs D} {fr : Fr} {g : Gh} {E : Xn → Gh → Prop} {Q : D → Gh → Prop}
theorem w_lcI {α : Type} {t : Tg} {s : CI} {wp : List Nat} {e : CE} {it : α → Itm} (I : List α → List PyData → Gh → Prop)
    (src : W (evi gl cl s fr g) (fun z g1 => ∃ xs : List α, z = (xs.map it, none) ∧ I xs [] g1) E)
    (low : ∀ rest zs h, I rest zs h → Low h ∧ zs.length + rest.length ≤ line)
    (turn : ∀ x rest zs h, I (x :: rest) zs h → ∃ fr2, setI t (it x) (wipeF fr wp) = some fr2 ∧ W (ev gl cl e fr2 (h ++ [dlo zs])) (fun d h2 => ∃ p h1, d = .dat p ∧ h2 = h1 ++ [dlo zs] ∧ h1.length = h.length ∧ I rest (zs ++ [p]) h1) E0)
    (done : ∀ zs h, I [] zs h → Q (.dat (.list zs)) h) : W (ev gl cl (.lc false t s wp .no e) fr g) Q E := by
  unfold ev
  refine W.bind (src.mono (fun z g1 ⟨xs, hz, h0⟩ => ?_) fun _ _ e => e)
  subst hz
  dsimp only
  refine W.still (W.bind ?_)
  refine w_lcGo (w := none) (fun its h2 => ∃ (rest : List α) (zs : List PyData) (h : Gh), its = rest.map it ∧ h2 = h ++ [dlo zs] ∧ h.length = g1.length ∧ I rest zs h) (fun _ _ _ => True.intro) ?_ ?_ _ _ ⟨xs, [], g1, rfl, rfl, rfl, h0⟩
  · rintro it2 rest2 h2 ⟨rest, zs, h, e1, rfl, e2, i⟩
    cases rest with
    | nil => cases e1
    | cons x rest =>
    cases e1
    obtain ⟨fr2, s1, w1⟩ := turn x rest zs h i
    obtain ⟨_, lz⟩ := low _ _ _ i
    rw [s1]
    dsimp only
    rw [yc_no]
    refine W.bind (W.okk ?_)
    dsimp only
    refine W.bind (w1.mono (fun d h3 ⟨p, h1, q1, q2, q3, q4⟩ => ?_) fun _ _ e => e)
    subst q1
    subst q2
    have e3 : putL g1.length (.dat p) (h1 ++ [dlo zs]) = .ok () (h1 ++ [dlo (zs ++ [p])]) := by
      rw [← e2, ← q3, putL_one (by simp at lz ⊢; omega)]
      unfold dlo
      rw [List.map_append]
      rfl
    rw [e3]
    exact W.okk ⟨rest, zs ++ [p], h1, rfl, rfl, by omega, q4⟩
  · rintro h2 ⟨rest, zs, h, e1, rfl, e2, i⟩
    cases rest with
    | cons x rest => cases e1
    | nil =>
    obtain ⟨l, _⟩ := low _ _ _ i
    rw [← e2, lcEnd_dat l (datsOf_map _)]
    exact W.okk (done zs h i)
theorem Gr.split {r : Nat} {h0 h : Gh} {o : Ob} (k : Gr r (h0 ++ [o]) h) (hl : h.length = h0.length + 1) (l : Low h0) (hr : r < h0.length) : ∃ h1, h = h1 ++ [o] ∧ Gr r h0 h1 ∧ h1.length = h0.length := by
  have z : h[h0.length]? = some o := by rw [k.els _ (by simp) (by omega), new_at]
  have k' : Gr r h0 h := by
    obtain ⟨a, b, h1, h2, h3, h4⟩ := k.pool
    exact ⟨by omega, fun i hi hr => (k.els i (by simp; omega) hr).trans (List.getElem?_append_left hi), k.pool, k.low⟩
  obtain ⟨c1, c2, _⟩ := k'.cut l hr
  refine ⟨h.take h0.length, ?_, c1, c2⟩
  apply List.ext_getElem?
  intro i
  rcases Nat.lt_trichotomy i h0.length with hi | hi | hi
  · rw [List.getElem?_append_left (by omega), List.getElem?_take, if_pos hi]
  · subst hi
    rw [z, List.getElem?_append_right (by omega), c2]
    simp
  · rw [List.getElem?_eq_none (by omega), List.getElem?_eq_none (by simp; omega)]
theorem w_lcD {α : Type} {t : Tg} {s : CI} {wp : List Nat} {e : CE} {xs : List α} {it : α → Itm} {r : Nat} (P : α → PyData → Prop)
    (hs : W (evi gl cl s fr g) (fun z g1 => z = (xs.map it, none) ∧ Gr r g g1 ∧ g1.length = g.length) E) (hz : xs.length ≤ line) (hp : Pool g r)
    (turn : ∀ x ∈ xs, ∀ h, Pool h r → Low h → ∃ fr2, setI t (it x) (wipeF fr wp) = some fr2 ∧ W (ev gl cl e fr2 h) (fun d h2 => ∃ p, d = .dat p ∧ P x p ∧ Gr r h h2 ∧ h2.length = h.length) E0)
    (hq : ∀ zs h, zs.length = xs.length → (∀ p ∈ zs, ∃ x ∈ xs, P x p) → Gr r g h → h.length = g.length → Q (.dat (.list zs)) h) : W (ev gl cl (.lc false t s wp .no e) fr g) Q E := by
  have lt := hp.lt
  refine w_lcI (it := it) (fun rest zs h => Gr r g h ∧ h.length = g.length ∧ (∀ p ∈ zs, ∃ x ∈ xs, P x p) ∧ (∀ x ∈ rest, x ∈ xs) ∧ zs.length + rest.length = xs.length) ?_ ?_ ?_ ?_
  · refine hs.mono (fun z g1 ⟨h1, h2, h3⟩ => ⟨xs, h1, h2, h3, ?_, fun x hx => hx, by simp⟩) fun _ _ e => e
    intro p hp; cases hp
  · rintro rest zs h ⟨h1, h2, h3, h4, h5⟩
    exact ⟨h1.low, by omega⟩
  · rintro x rest zs h ⟨h1, h2, h3, h4, h5⟩
    have hp2 : Pool (h ++ [dlo zs]) r := (h1.new (ps := zs)).pool
    obtain ⟨fr2, s1, w1⟩ := turn x (h4 x (List.mem_cons_self)) (h ++ [dlo zs]) hp2 (low_newLo h1.low)
    refine ⟨fr2, s1, w1.mono (fun d h3' ⟨p, q1, q2, q3, q4⟩ => ?_) fun _ _ e => e⟩
    obtain ⟨k1, k2, k3, k4⟩ := q3.split (by simpa using q4) h1.low (by omega)
    refine ⟨p, k1, q1, k2, k4, h1.trans k3, by omega, ?_, fun y hy => h4 y (List.mem_cons_of_mem _ hy), ?_⟩
    · intro y hy
      rcases List.mem_append.mp hy with hy | hy
      · exact h3 y hy
      · rcases List.mem_singleton.mp hy with rfl
        exact ⟨x, h4 x (List.mem_cons_self), q2⟩
    · simp at h5 ⊢
      omega
  · rintro zs h ⟨h1, h2, h3, h4, h5⟩
    exact hq zs h (by simpa using h5) h3 h1 h2
end
mutual
def szD : PyData → Nat
  | .none => 1
  | .bool _ => 1
  | .int _ => 1
  | .str x => x.length + 1
  | .list xs => szDs xs + 1
  | .tuple xs => szDs xs + 1
  | .dict _ => 0
def szDs : List PyData → Nat
  | [] => 0
  | x :: xs => szD x + szDs xs + 1
end
structure Sm (n d : Nat) (p : PyData) : Prop where
  lay : p.canLay0 = true
  show_ : p.showable = true
  small : szD p ≤ n
  deep : p.depth ≤ d
theorem Sm.mono {n d n2 d2 : Nat} {p : PyData} (h : Sm n d p) (hn : n ≤ n2) (hd : d ≤ d2) : Sm n2 d2 p := ⟨h.lay, h.show_, Nat.le_trans h.small hn, Nat.le_trans h.deep hd⟩
theorem Sm.all {n d : Nat} : ∀ {ps : List PyData}, (∀ p ∈ ps, Sm n d p) → PyData.canLayAll0 ps = true ∧ PyData.showableAll ps = true ∧ szDs ps ≤ (n + 1) * ps.length ∧ PyData.depthAll ps ≤ d
  | [], _ => ⟨by simp [PyData.canLayAll0], by simp [PyData.showableAll], by unfold szDs; omega, by simp [PyData.depthAll]⟩
  | p :: ps, h => by
    obtain ⟨i1, i2, i3, i4⟩ := Sm.all fun q hq => h q (List.mem_cons_of_mem _ hq)
    have hp := h p (List.mem_cons_self)
    refine ⟨by rw [PyData.canLayAll0, hp.lay, i1]; rfl, by rw [PyData.showableAll, hp.show_, i2]; rfl, ?_, ?_⟩
    · unfold szDs
      have := hp.small
      rw [List.length_cons, Nat.mul_succ]
      omega
    · rw [PyData.depthAll]
      have := hp.deep
      omega
theorem Sm.tup {n d m : Nat} {ps : List PyData} (h : ∀ p ∈ ps, Sm n d p) (hm : (n + 1) * ps.length + 1 ≤ m) : Sm m (d + 1) (.tuple ps) := by
  obtain ⟨i1, i2, i3, i4⟩ := Sm.all h
  exact ⟨by rw [PyData.canLay0]; exact i1, by rw [PyData.showable]; exact i2, by unfold szD; omega, by rw [PyData.depth]; omega⟩
theorem Sm.lst {n d m : Nat} {ps : List PyData} (h : ∀ p ∈ ps, Sm n d p) (hm : (n + 1) * ps.length + 1 ≤ m) : Sm m (d + 1) (.list ps) := by
  obtain ⟨i1, i2, i3, i4⟩ := Sm.all h
  exact ⟨by rw [PyData.canLay0]; exact i1, by rw [PyData.showable]; exact i2, by unfold szD; omega, by rw [PyData.depth]; omega⟩
theorem Sm.non {n d : Nat} (h : 1 ≤ n) : Sm n d .none := ⟨rfl, rfl, by unfold szD; exact h, by simp [PyData.depth]⟩
theorem Sm.bool {n d : Nat} {b : Bool} (h : 1 ≤ n) : Sm n d (.bool b) := ⟨rfl, rfl, by unfold szD; exact h, by simp [PyData.depth]⟩
theorem log2_lt {k : Nat} (h : k < 2 ^ 1900) : k.log2 < 1920 := by
  rcases Nat.eq_zero_or_pos k with rfl | p
  · decide
  · exact Nat.lt_of_lt_of_le ((Nat.log2_lt (by omega)).mpr h) (by decide)
theorem Sm.int {n d : Nat} {i : Int} (h : 1 ≤ n) (hi : i.natAbs ≤ 10 ^ 100) : Sm n d (.int i) := by
  refine ⟨rfl, ?_, by unfold szD; exact h, by simp [PyData.depth]⟩
  show decide (i.natAbs.log2 < 1920) = true
  rw [decide_eq_true_eq]
  exact log2_lt (Nat.lt_of_le_of_lt hi (by decide))
theorem Sm.str {n d : Nat} {x : Str} (h : x.cps.toList.all (fun c => decide (c < 0x110000)) = true) (hn : x.length + 1 ≤ n) : Sm n d (.str x) := by
  refine ⟨?_, rfl, by unfold szD; exact hn, by simp [PyData.depth]⟩
  have y : PyData.strOk x = true := by
    unfold PyData.strOk
    rw [← Array.all_toList]
    exact h
  simpa [PyData.canLay0] using y
theorem Sm.shaped {n d : Nat} {p : PyData} (h : Sm n d p) (hd : d ≤ 64) : SeqAt.shaped p = true := by
  have := h.deep
  unfold SeqAt.shaped
  rw [h.lay, decide_eq_true (by omega)]
  rfl
mutual
theorem wgt_szD : ∀ p : PyData, wgt p ≤ 2000 * szD p
  | .none => by decide
  | .bool _ => by unfold wgt szD; omega
  | .int _ => by unfold wgt szD; omega
  | .str x => by unfold wgt szD; omega
  | .list xs => by unfold wgt szD; have := wgts_szDs xs; omega
  | .tuple xs => by unfold wgt szD; have := wgts_szDs xs; omega
  | .dict _ => by unfold wgt; omega
theorem wgts_szDs : ∀ ps : List PyData, wgts ps ≤ 2000 * szDs ps
  | [] => by unfold wgts; omega
  | p :: ps => by unfold wgts szDs; have := wgt_szD p; have := wgts_szDs ps; omega
end
theorem Sm.repr {n d : Nat} {p : PyData} (h : Sm n d p) (hn : n ≤ 8000) (hd : d ≤ 64) : reprOk p = true := by
  unfold reprOk
  rw [h.shaped hd, h.show_]
  have := wgt_szD p
  have := h.small
  have l : line = 16777216 := rfl
  rw [decide_eq_true (by omega)]
  rfl
theorem repr_d {n d : Nat} {p : PyData} (h : Sm n d p) (hn : n ≤ 8000) (hd : d ≤ 64) : biD .repr [p] = some (.str p.shown) := if_pos (h.repr hn hd)
end Fw
end
set_option Elab.async false
set_option linter.all false
set_option maxRecDepth 100000
set_option maxHeartbeats 4000000
noncomputable section
namespace Fw
open PySem PySem.Spec PyProof.Rows L2
theorem cut_take {α : Type} (xs : List α) (t : Nat) : cutD xs none (some (t : Int)) = xs.take t := by
  unfold cutD
  rw [HT.sIx_none, HT.sIx_nat, List.drop_zero, Nat.sub_zero, ← List.take_take, List.take_length]
theorem cut_drop {α : Type} (xs : List α) (t : Nat) : cutD xs (some (t : Int)) none = xs.drop t := by
  unfold cutD
  rw [HT.sIx_none, HT.sIx_nat]
  rcases Nat.le_total t xs.length with h | h
  · rw [Nat.min_eq_left h]
    exact List.take_of_length_le (by simp)
  · rw [Nat.min_eq_right h, List.drop_eq_nil_of_le h]
    simp
theorem sl_take {xs : List PyData} {t : Nat} : slD (.tuple xs) none (some (t : Int)) = some (.tuple (xs.take t)) := by
  show some (PyData.tuple (cutD xs none (some (t : Int)))) = _
  rw [cut_take]
theorem sl_drop {xs : List PyData} {t : Nat} : slD (.tuple xs) (some (t : Int)) none = some (.tuple (xs.drop t)) := by
  show some (PyData.tuple (cutD xs (some (t : Int)) none)) = _
  rw [cut_drop]
theorem sl_takeL {xs : List PyData} {t : Nat} : slD (.list xs) none (some (t : Int)) = some (.list (xs.take t)) := by
  show some (PyData.list (cutD xs none (some (t : Int)))) = _
  rw [cut_take]
theorem sl_dropL {xs : List PyData} {t : Nat} : slD (.list xs) (some (t : Int)) none = some (.list (xs.drop t)) := by
  show some (PyData.list (cutD xs (some (t : Int)) none)) = _
  rw [cut_drop]
theorem ix_tup {xs : List PyData} {t : Nat} (h : t < xs.length) : ixD (.tuple xs) (.int (t : Nat)) = some xs[t] := L2.atI_nat (List.getElem?_eq_getElem h)
theorem ix_lst {xs : List PyData} {t : Nat} (h : t < xs.length) : ixD (.list xs) (.int (t : Nat)) = some xs[t] := L2.atI_nat (List.getElem?_eq_getElem h)
end Fw
end
set_option Elab.async false
set_option linter.all false
set_option maxRecDepth 100000
set_option maxHeartbeats 0
namespace Law
open PySem PySem.Spec PyProof.Rows L2 Fw
def top (i : Nat) : Stmt := PySem.Challenge.pw_lawsleft_k00_grounds_made_and_refused.main.body.getD i (.Pass ⟨0, 0, 0, 0⟩)
abbrev s_is_whole : Stmt := top 14
abbrev s_is_name : Stmt := top 15
abbrev s_is_priced : Stmt := top 16
abbrev s_first_bad : Stmt := top 17
abbrev s_many_of : Stmt := top 18
abbrev s_wrong_part : Stmt := top 19
abbrev s_is_triple : Stmt := top 20
abbrev s_made_ground : Stmt := top 21
abbrev s_is_ground : Stmt := top 22
abbrev s_all_states : Stmt := top 23
abbrev s_states : Stmt := top 24
abbrev s_many_states : Stmt := top 25
abbrev s_nought_of : Stmt := top 26
abbrev s_nought : Stmt := top 27
abbrev s__law_pool : Stmt := top 29
abbrev s__law_take : Stmt := top 30
abbrev s__law_one : Stmt := top 31
abbrev s__law_mixed : Stmt := top 32
abbrev s__law_states : Stmt := top 33
abbrev s__law_heard : Stmt := top 34
abbrev s__law_is_name : Stmt := top 35
abbrev s__law_is_number : Stmt := top 36
abbrev s__law_entry_name : Stmt := top 37
abbrev s__law_fault : Stmt := top 38
abbrev s__law_names : Stmt := top 39
abbrev s__law_drawn : Stmt := top 40
abbrev s__law_odd_entry : Stmt := top 41
abbrev s__law_spoilt : Stmt := top 42
abbrev s__law_thing_right : Stmt := top 43
abbrev s_law : Stmt := top 44
def d_is_whole : He.DefD := ⟨("is_whole", none), "is_whole", "is_whole", defArgs s_is_whole, defBody s_is_whole, defScope s_is_whole, [], []⟩
def d_is_name : He.DefD := ⟨("is_name", none), "is_name", "is_name", defArgs s_is_name, defBody s_is_name, defScope s_is_name, [], []⟩
def d_is_priced : He.DefD := ⟨("is_priced", none), "is_priced", "is_priced", defArgs s_is_priced, defBody s_is_priced, defScope s_is_priced, [], []⟩
def d_first_bad : He.DefD := ⟨("first_bad", none), "first_bad", "first_bad", defArgs s_first_bad, defBody s_first_bad, defScope s_first_bad, [], []⟩
def d_many_of : He.DefD := ⟨("many_of", none), "many_of", "many_of", defArgs s_many_of, defBody s_many_of, defScope s_many_of, [], []⟩
def d_wrong_part : He.DefD := ⟨("wrong_part", none), "wrong_part", "wrong_part", defArgs s_wrong_part, defBody s_wrong_part, defScope s_wrong_part, [], []⟩
def d_is_triple : He.DefD := ⟨("is_triple", none), "is_triple", "is_triple", defArgs s_is_triple, defBody s_is_triple, defScope s_is_triple, [], []⟩
def d_made_ground : He.DefD := ⟨("made_ground", none), "made_ground", "made_ground", defArgs s_made_ground, defBody s_made_ground, defScope s_made_ground, [], []⟩
def d_is_ground : He.DefD := ⟨("is_ground", none), "is_ground", "is_ground", defArgs s_is_ground, defBody s_is_ground, defScope s_is_ground, [], []⟩
def d_all_states : He.DefD := ⟨("all_states", none), "all_states", "all_states", defArgs s_all_states, defBody s_all_states, defScope s_all_states, [], []⟩
def d_states : He.DefD := ⟨("states", none), "states", "states", defArgs s_states, defBody s_states, defScope s_states, [], []⟩
def d_many_states : He.DefD := ⟨("many_states", none), "many_states", "many_states", defArgs s_many_states, defBody s_many_states, defScope s_many_states, [], []⟩
def d_nought_of : He.DefD := ⟨("nought_of", none), "nought_of", "nought_of", defArgs s_nought_of, defBody s_nought_of, defScope s_nought_of, [], []⟩
def d_nought : He.DefD := ⟨("nought", none), "nought", "nought", defArgs s_nought, defBody s_nought, defScope s_nought, [], []⟩
def d__law_pool : He.DefD := ⟨("_law_pool", none), "_law_pool", "_law_pool", defArgs s__law_pool, defBody s__law_pool, defScope s__law_pool, [], []⟩
def d__law_take : He.DefD := ⟨("_law_take", none), "_law_take", "_law_take", defArgs s__law_take, defBody s__law_take, defScope s__law_take, [], []⟩
def d__law_one : He.DefD := ⟨("_law_one", none), "_law_one", "_law_one", defArgs s__law_one, defBody s__law_one, defScope s__law_one, [], []⟩
def d__law_mixed : He.DefD := ⟨("_law_mixed", none), "_law_mixed", "_law_mixed", defArgs s__law_mixed, defBody s__law_mixed, defScope s__law_mixed, [], []⟩
def d__law_states : He.DefD := ⟨("_law_states", none), "_law_states", "_law_states", defArgs s__law_states, defBody s__law_states, defScope s__law_states, [], []⟩
def d__law_heard : He.DefD := ⟨("_law_heard", none), "_law_heard", "_law_heard", defArgs s__law_heard, defBody s__law_heard, defScope s__law_heard, [], []⟩
def d__law_is_name : He.DefD := ⟨("_law_is_name", none), "_law_is_name", "_law_is_name", defArgs s__law_is_name, defBody s__law_is_name, defScope s__law_is_name, [], []⟩
def d__law_is_number : He.DefD := ⟨("_law_is_number", none), "_law_is_number", "_law_is_number", defArgs s__law_is_number, defBody s__law_is_number, defScope s__law_is_number, [], []⟩
def d__law_entry_name : He.DefD := ⟨("_law_entry_name", none), "_law_entry_name", "_law_entry_name", defArgs s__law_entry_name, defBody s__law_entry_name, defScope s__law_entry_name, [], []⟩
def d__law_fault : He.DefD := ⟨("_law_fault", none), "_law_fault", "_law_fault", defArgs s__law_fault, defBody s__law_fault, defScope s__law_fault, [], []⟩
def d__law_names : He.DefD := ⟨("_law_names", none), "_law_names", "_law_names", defArgs s__law_names, defBody s__law_names, defScope s__law_names, [], []⟩
def d__law_drawn : He.DefD := ⟨("_law_drawn", none), "_law_drawn", "_law_drawn", defArgs s__law_drawn, defBody s__law_drawn, defScope s__law_drawn, [], []⟩
def d__law_odd_entry : He.DefD := ⟨("_law_odd_entry", none), "_law_odd_entry", "_law_odd_entry", defArgs s__law_odd_entry, defBody s__law_odd_entry, defScope s__law_odd_entry, [], []⟩
def d__law_spoilt : He.DefD := ⟨("_law_spoilt", none), "_law_spoilt", "_law_spoilt", defArgs s__law_spoilt, defBody s__law_spoilt, defScope s__law_spoilt, [], []⟩
def d__law_thing_right : He.DefD := ⟨("_law_thing_right", none), "_law_thing_right", "_law_thing_right", defArgs s__law_thing_right, defBody s__law_thing_right, defScope s__law_thing_right, [], []⟩
def d_law : He.DefD := ⟨("law", none), "law", "law", defArgs s_law, defBody s_law, defScope s_law, [], []⟩
def fn : List He.DefD := [d_is_whole, d_is_name, d_is_priced, d_first_bad, d_many_of, d_wrong_part, d_is_triple, d_made_ground, d_is_ground, d_all_states, d_states, d_many_states, d_nought_of, d_nought, d__law_pool, d__law_take, d__law_one, d__law_mixed, d__law_states, d__law_heard, d__law_is_name, d__law_is_number, d__law_entry_name, d__law_fault, d__law_names, d__law_drawn, d__law_odd_entry, d__law_spoilt, d__law_thing_right, d_law]
def cbody (s : Stmt) : List Stmt := match s with
  | .ClassDef _ _ _ b _ _ _ _ _ _ _ => b
  | _ => []
abbrev s_init_Refused : Stmt := (cbody (top 1)).getD 0 (.Pass ⟨0, 0, 0, 0⟩)
def i_Refused : HdI := ⟨("Refused", some "__init__"), "__init__", "Refused.__init__", defArgs s_init_Refused, defBody s_init_Refused, defScope s_init_Refused⟩
def fi : List HdI := [i_Refused]
def c_LETTERS : PyData := .str (Str.ofString "abcdefghijklmnopqrstuvwxyz")
def c_FIGURES : PyData := .str (Str.ofString "0123456789")
def c_RESERVED : PyData := .tuple [.str (Str.ofString "cells"), .str (Str.ofString "deeds"), .str (Str.ofString "exits"), .str (Str.ofString "if"), .str (Str.ofString "else"), .str (Str.ofString "while"), .str (Str.ofString "catch"), .str (Str.ofString "exit"), .str (Str.ofString "and"), .str (Str.ofString "or"), .str (Str.ofString "not"), .str (Str.ofString "law")]
def c_MOST_NAME : PyData := .int 12
def c_MOST_CELLS : PyData := .int 4
def c_MOST_SIZE : PyData := .int 8
def c_MOST_STATES : PyData := .int 64
def c_MOST_KINDS : PyData := .int 3
def c_MOST_PRICE : PyData := .int 99
def c_MOST_EXITS : PyData := .int 4
def loose0 : List Str := ["Refused", "BadGround", "LETTERS", "FIGURES", "RESERVED", "MOST_NAME", "MOST_CELLS", "MOST_SIZE", "MOST_STATES", "MOST_KINDS", "MOST_PRICE", "MOST_EXITS", "is_whole", "is_name", "is_priced", "first_bad", "many_of", "wrong_part", "is_triple", "made_ground", "is_ground", "all_states", "states", "many_states", "nought_of"]
def loose1 : List Str := ["nought", "_law_pool", "_law_take", "_law_one", "_law_mixed", "_law_states", "_law_heard", "_law_is_name", "_law_is_number", "_law_entry_name", "_law_fault", "_law_names", "_law_drawn", "_law_odd_entry", "_law_spoilt", "_law_thing_right"]
def loose : List Str := loose0 ++ loose1
def lawAt : Nat := 44
end Law
set_option Elab.async false
set_option linter.all false
set_option maxRecDepth 100000
set_option maxHeartbeats 4000000
noncomputable section
namespace Law
open PySem PySem.Spec PyProof.Rows L2 Fw
def ti_BadGround : List (Str × Bool) := [((Str.ofString "Refused"), false), ((Str.ofString "BadGround"), true)]
def ti_ValueError : List (Str × Bool) := [((Str.ofString "Refused"), true), ((Str.ofString "BadGround"), true)]
def tm_Refused : List (Str × Bool) := [((Str.ofString "Refused"), true), ((Str.ofString "BadGround"), true)]
def xcls : List Str := [(Str.ofString "Refused"), (Str.ofString "BadGround")]
theorem tm_Refused_in : ∀ x b, tm_Refused.lookup x = some b → x ∈ xcls := fun x b h => by
  have z := lookup_all h
  simp only [tm_Refused, List.mem_cons, List.not_mem_nil, or_false, Prod.mk.injEq] at z
  rcases z with ⟨rfl, _⟩ | ⟨rfl, _⟩ <;> simp [xcls]
def F_is_whole : FDef := ⟨"is_whole", 1, 1, false, (.cons (.ret (.and (.bi (.isi (Str.ofString "int")) (.cons (.var 0) .nil)) (.not (.bi (.isi (Str.ofString "bool")) (.cons (.var 0) .nil))))) .nil)⟩
def F_is_name : FDef := ⟨"is_name", 1, 2, false, (.cons (.ife (.or (.not (.bi (.isi (Str.ofString "str")) (.cons (.var 0) .nil))) (.or (.not (.chn .le .le (.int 1) (.bi .len (.cons (.var 0) .nil)) (.gl "MOST_NAME"))) (.cmp .isIn (.var 0) (.gl "RESERVED")))) (.cons (.ret (.bl false)) .nil) .nil) (.cons (.ret (.and (.cmp .isIn (.ix (.var 0) (.int 0)) (.gl "LETTERS")) (.bi .all (.cons (.lc false (.nm 1) (.seq (.var 0)) [1] .no (.or (.cmp .isIn (.var 1) (.gl "LETTERS")) (.cmp .isIn (.var 1) (.gl "FIGURES")))) .nil)))) .nil))⟩
def F_is_priced : FDef := ⟨"is_priced", 2, 2, false, (.cons (.ife (.or (.not (.bi (.isi (Str.ofString "tuple")) (.cons (.var 0) .nil))) (.cmp .ne (.bi .len (.cons (.var 0) .nil)) (.int 2))) (.cons (.ret (.bl false)) .nil) .nil) (.cons (.ret (.and (.call 1 (.cons (.ix (.var 0) (.int 0)) .nil)) (.and (.call 0 (.cons (.ix (.var 0) (.int 1)) .nil)) (.chn .le .le (.int 1) (.ix (.var 0) (.int 1)) (.var 1))))) .nil))⟩
def F_first_bad : FDef := ⟨"first_bad", 3, 6, false, (.cons (.for_ (.tp [(.nm 3), (.nm 4)]) (.enum (.var 1)) (.cons (.ife (.not (.ite (.cmp .is_ (.var 2) .non) (.call 1 (.cons (.var 4) .nil)) (.call 2 (.cons (.var 4) (.cons (.var 2) .nil))))) (.cons (.ret (.var 3)) .nil) .nil) (.cons (.set (.nm 5) (.ite (.cmp .is_ (.var 2) .non) (.var 4) (.ix (.var 4) (.int 0)))) (.cons (.ife (.cmp .isIn (.var 5) (.var 0)) (.cons (.ret (.var 3)) .nil) .nil) (.cons (.expr (.mth .append (.var 0) (.cons (.var 5) .nil))) .nil))))) (.cons (.ret .non) .nil))⟩
def F_many_of : FDef := ⟨"many_of", 1, 4, false, (.cons (.set (.nm 1) (.int 1)) (.cons (.for_ (.tp [(.nm 2), (.nm 3)]) (.seq (.var 0)) (.cons (.set (.nm 1) (.bin .mul (.var 1) (.var 3))) .nil)) (.cons (.ret (.var 1)) .nil)))⟩
def F_wrong_part : FDef := ⟨"wrong_part", 1, 8, false, (.cons (.set (.nm 1) (.lst true .nil)) (.cons (.set (.nm 2) (.lst false (.cons (.tup (.cons (.gl "MOST_SIZE") (.cons (.int 0) (.cons (.gl "MOST_CELLS") .nil)))) (.cons (.tup (.cons (.gl "MOST_PRICE") (.cons (.int 0) (.cons (.gl "MOST_KINDS") .nil)))) (.cons (.tup (.cons .non (.cons (.int 1) (.cons (.gl "MOST_EXITS") .nil)))) .nil))))) (.cons (.for_ (.tp [(.nm 3), (.tp [(.nm 4), (.nm 5), (.nm 6)])]) (.enum (.var 2)) (.cons (.ife (.not (.chn .le .le (.var 5) (.bi .len (.cons (.ix (.var 0) (.var 3)) .nil)) (.var 6))) (.cons (.ret (.tup (.cons (.var 3) (.cons (.neg (.int 1)) .nil)))) .nil) .nil) (.cons (.set (.nm 7) (.call 3 (.cons (.var 1) (.cons (.ix (.var 0) (.var 3)) (.cons (.var 4) .nil))))) (.cons (.ife (.cmp .isNot (.var 7) .non) (.cons (.ret (.tup (.cons (.var 3) (.cons (.var 7) .nil)))) .nil) .nil) (.cons (.ife (.and (.cmp .eq (.var 3) (.int 0)) (.cmp .gt (.call 4 (.cons (.ix (.var 0) (.int 0)) .nil)) (.gl "MOST_STATES"))) (.cons (.ret (.tup (.cons (.int 0) (.cons (.neg (.int 1)) .nil)))) .nil) .nil) .nil))))) (.cons (.ret .non) .nil))))⟩
def F_is_triple : FDef := ⟨"is_triple", 1, 2, false, (.cons (.ret (.and (.bi (.isi (Str.ofString "tuple")) (.cons (.var 0) .nil)) (.and (.cmp .eq (.bi .len (.cons (.var 0) .nil)) (.int 3)) (.bi .all (.cons (.lc false (.nm 1) (.seq (.var 0)) [1] .no (.bi (.isi (Str.ofString "tuple")) (.cons (.var 1) .nil))) .nil))))) .nil)⟩
def F_made_ground : FDef := ⟨"made_ground", 1, 2, false, (.cons (.ife (.not (.call 6 (.cons (.var 0) .nil))) (.cons (.raise "BadGround" (.neg (.int 1))) .nil) .nil) (.cons (.set (.nm 1) (.call 5 (.cons (.var 0) .nil))) (.cons (.ife (.cmp .isNot (.var 1) .non) (.cons (.raise "BadGround" (.var 1)) .nil) .nil) (.cons (.ret (.var 0)) .nil))))⟩
def F_is_ground : FDef := ⟨"is_ground", 1, 1, false, (.cons (.ret (.and (.call 6 (.cons (.var 0) .nil)) (.cmp .is_ (.call 5 (.cons (.var 0) .nil)) .non))) .nil)⟩
def F_all_states : FDef := ⟨"all_states", 1, 6, false, (.cons (.set (.nm 1) (.lst false (.cons (.tup .nil) .nil))) (.cons (.for_ (.tp [(.nm 2), (.nm 3)]) (.seq (.ix (.var 0) (.int 0))) (.cons (.set (.nm 1) (.lc2 false (.nm 4) (.seq (.var 1)) .no (.nm 5) (.rng1 (.var 3)) .no [4, 5] [5] (.bin .add (.var 4) (.tup (.cons (.var 5) .nil))))) .nil)) (.cons (.ret (.bi .tuple (.cons (.var 1) .nil))) .nil)))⟩
def F_states : FDef := ⟨"states", 1, 1, false, (.cons (.ret (.call 9 (.cons (.call 7 (.cons (.var 0) .nil)) .nil))) .nil)⟩
def F_many_states : FDef := ⟨"many_states", 1, 1, false, (.cons (.ret (.call 4 (.cons (.ix (.call 7 (.cons (.var 0) .nil)) (.int 0)) .nil))) .nil)⟩
def F_nought_of : FDef := ⟨"nought_of", 1, 2, false, (.cons (.ret (.bi .tuple (.cons (.lc false (.nm 1) (.seq (.ix (.var 0) (.int 1))) [1] .no (.int 0)) .nil))) .nil)⟩
def F_nought : FDef := ⟨"nought", 1, 1, false, (.cons (.ret (.call 12 (.cons (.call 7 (.cons (.var 0) .nil)) .nil))) .nil)⟩
def F__law_pool : FDef := ⟨"_law_pool", 2, 5, false, (.cons (.set (.nm 2) (.int 0)) (.cons (.ife (.cmp .lt (.var 1) (.bi .len (.cons (.var 0) .nil))) (.cons (.set (.nm 2) (.ix (.var 0) (.var 1))) .nil) (.cons (.ife (.cmp .ne (.var 0) (.lst false .nil)) (.cons (.set (.nm 2) (.ix (.var 0) (.int 0))) .nil) .nil) .nil)) (.cons (.set (.nm 3) (.bi .max2 (.cons (.bi .int (.cons (.var 2) .nil)) (.cons (.bi .int (.cons (.bin .sub (.neg (.int 1)) (.var 2)) .nil)) .nil)))) (.cons (.set (.nm 4) (.bin .mod (.bi .int (.cons (.bin .mul (.bin .add (.bin .add (.bin .add (.bin .mod (.bi .int (.cons (.var 3) .nil)) (.int 2147483629)) (.bin .mul (.bin .mul (.int 7919) (.var 1)) (.var 1))) (.bin .mul (.int 31) (.var 1))) (.int 17)) (.int 48271)) .nil)) (.int 2147483647))) (.cons (.ret (.lst true (.cons (.bin .mul (.var 3) (.bi .int (.cons (.and (.cmp .ge (.var 3) (.bin .pow (.int 10) (.int 18))) (.cmp .lt (.var 1) (.bi .len (.cons (.var 0) .nil)))) .nil))) (.cons (.var 4) .nil)))) .nil)))))⟩
def F__law_take : FDef := ⟨"_law_take", 2, 3, false, (.cons (.ife (.cmp .gt (.ix (.var 0) (.int 0)) (.int 0)) (.cons (.set (.nm 2) (.bin .mod (.bi .int (.cons (.ix (.var 0) (.int 0)) .nil)) (.var 1))) (.cons (.sub (.var 0) (.int 0) (.bin .fdiv (.ix (.var 0) (.int 0)) (.var 1))) (.cons (.ret (.var 2)) .nil))) .nil) (.cons (.sub (.var 0) (.int 1) (.bin .mod (.bi .int (.cons (.bin .add (.bin .mul (.ix (.var 0) (.int 1)) (.int 39373)) (.int 7)) .nil)) (.int 2147483647))) (.cons (.ret (.bin .mod (.bi .int (.cons (.bin .fdiv (.bin .mod (.bi .int (.cons (.bin .mul (.ix (.var 0) (.int 1)) (.ix (.var 0) (.int 1))) .nil)) (.int 2147483629)) (.int 32)) .nil)) (.var 1))) .nil)))⟩
def F__law_one : FDef := ⟨"_law_one", 2, 2, false, (.cons (.ret (.ix (.var 1) (.call 15 (.cons (.var 0) (.cons (.bi .len (.cons (.var 1) .nil)) .nil))))) .nil)⟩
def F__law_mixed : FDef := ⟨"_law_mixed", 2, 5, false, (.cons (.par 2 3 (.mlist (.var 1)) (.lst true .nil)) (.cons (.for_ (.nm 4) (.rng1 (.bi .len (.cons (.var 1) .nil))) (.cons (.expr (.mth .append (.var 3) (.cons (.mth .popAt (.var 2) (.cons (.call 15 (.cons (.var 0) (.cons (.bi .len (.cons (.var 2) .nil)) .nil))) .nil)) .nil))) .nil)) (.cons (.ret (.var 3)) .nil)))⟩
def F__law_states : FDef := ⟨"_law_states", 1, 6, true, (.cons (.set (.nm 1) (.lst false (.cons (.tup .nil) .nil))) (.cons (.for_ (.nm 2) (.seq (.ix (.var 0) (.int 0))) (.cons (.set (.nm 3) (.lst true .nil)) (.cons (.for_ (.nm 4) (.seq (.var 1)) (.cons (.expr (.mth .extend (.var 3) (.cons (.lc false (.nm 5) (.rng1 (.ix (.var 2) (.int 1))) [5] .no (.bin .add (.var 4) (.tup (.cons (.var 5) .nil)))) .nil))) .nil)) (.cons (.set (.nm 1) (.var 3)) .nil)))) (.cons (.ret (.var 1)) .nil)))⟩
def F__law_heard : FDef := ⟨"_law_heard", 1, 2, false, (.cons (.tryx true (.tup (.cons (.str (Str.ofString "told")) (.cons (.call 7 (.cons (.var 0) .nil)) .nil))) 1 [⟨tm_Refused, (.tp (.c (.str (Str.ofString "refused"))) (.tp .what (.tp (.and (.isi ti_BadGround) (.isi ti_ValueError)) .tp0)))⟩]) .nil)⟩
def F__law_is_name : FDef := ⟨"_law_is_name", 1, 4, false, (.cons (.ife (.or (.not (.bi (.isi (Str.ofString "str")) (.cons (.var 0) .nil))) (.not (.chn .le .le (.int 1) (.bi .len (.cons (.var 0) .nil)) (.int 12)))) (.cons (.ret (.bl false)) .nil) .nil) (.cons (.set (.nm 1) (.str (Str.ofString "abcdefghijklmnopqrstuvwxyz"))) (.cons (.ife (.or (.cmp .notIn (.ix (.var 0) (.int 0)) (.var 1)) (.cmp .ne (.lc false (.nm 2) (.seq (.var 0)) [2] (.so (.cmp .notIn (.var 2) (.bin .add (.var 1) (.str (Str.ofString "0123456789"))))) (.var 2)) (.lst false .nil))) (.cons (.ret (.bl false)) .nil) .nil) (.cons (.set (.nm 3) (.lst false (.cons (.str (Str.ofString "cells")) (.cons (.str (Str.ofString "deeds")) (.cons (.str (Str.ofString "exits")) (.cons (.str (Str.ofString "if")) (.cons (.str (Str.ofString "else")) (.cons (.str (Str.ofString "while")) (.cons (.str (Str.ofString "catch")) (.cons (.str (Str.ofString "exit")) (.cons (.str (Str.ofString "and")) (.cons (.str (Str.ofString "or")) (.cons (.str (Str.ofString "not")) (.cons (.str (Str.ofString "law")) .nil)))))))))))))) (.cons (.ret (.cmp .notIn (.var 0) (.var 3))) .nil)))))⟩
def F__law_is_number : FDef := ⟨"_law_is_number", 3, 3, false, (.cons (.ret (.and (.bi (.isi (Str.ofString "int")) (.cons (.var 0) .nil)) (.and (.not (.bi (.isi (Str.ofString "bool")) (.cons (.var 0) .nil))) (.chn .le .le (.var 1) (.var 0) (.var 2))))) .nil)⟩
def F__law_entry_name : FDef := ⟨"_law_entry_name", 2, 2, false, (.cons (.ife (.cmp .eq (.var 0) (.int 2)) (.cons (.ret (.ite (.call 20 (.cons (.var 1) .nil)) (.var 1) .non)) .nil) .nil) (.cons (.ife (.or (.not (.bi (.isi (Str.ofString "tuple")) (.cons (.var 1) .nil))) (.or (.cmp .ne (.bi .len (.cons (.var 1) .nil)) (.int 2)) (.not (.call 20 (.cons (.ix (.var 1) (.int 0)) .nil))))) (.cons (.ret .non) .nil) .nil) (.cons (.ret (.ite (.call 21 (.cons (.ix (.var 1) (.int 1)) (.cons (.int 1) (.cons (.ix (.lst false (.cons (.int 8) (.cons (.int 99) .nil))) (.var 0)) .nil)))) (.ix (.var 1) (.int 0)) .non)) .nil)))⟩
def F__law_fault : FDef := ⟨"_law_fault", 1, 6, false, (.cons (.ife (.or (.not (.bi (.isi (Str.ofString "tuple")) (.cons (.var 0) .nil))) (.or (.cmp .ne (.bi .len (.cons (.var 0) .nil)) (.int 3)) (.cmp .ne (.lc false (.nm 1) (.seq (.var 0)) [1] (.so (.not (.bi (.isi (Str.ofString "tuple")) (.cons (.var 1) .nil)))) (.var 1)) (.lst false .nil)))) (.cons (.ret (.neg (.int 1))) .nil) .nil) (.cons (.set (.nm 2) (.lst true .nil)) (.cons (.for_ (.nm 1) (.rng1 (.int 3)) (.cons (.ife (.or (.cmp .gt (.bi .len (.cons (.ix (.var 0) (.var 1)) .nil)) (.ix (.lst false (.cons (.int 4) (.cons (.int 3) (.cons (.int 4) .nil)))) (.var 1))) (.and (.cmp .eq (.var 1) (.int 2)) (.cmp .eq (.ix (.var 0) (.var 1)) (.tup .nil)))) (.cons (.ret (.tup (.cons (.var 1) (.cons (.neg (.int 1)) .nil)))) .nil) .nil) (.cons (.set (.nm 3) (.int 1)) (.cons (.for_ (.nm 4) (.rng1 (.bi .len (.cons (.ix (.var 0) (.var 1)) .nil))) (.cons (.set (.nm 5) (.call 22 (.cons (.var 1) (.cons (.ix (.ix (.var 0) (.var 1)) (.var 4)) .nil)))) (.cons (.ife (.or (.cmp .is_ (.var 5) .non) (.cmp .isIn (.var 5) (.var 2))) (.cons (.ret (.tup (.cons (.var 1) (.cons (.var 4) .nil)))) .nil) .nil) (.cons (.expr (.mth .append (.var 2) (.cons (.var 5) .nil))) (.cons (.set (.nm 3) (.bin .mul (.var 3) (.ite (.cmp .eq (.var 1) (.int 0)) (.ix (.ix (.ix (.var 0) (.var 1)) (.var 4)) (.int 1)) (.int 1)))) .nil))))) (.cons (.ife (.cmp .gt (.var 3) (.int 64)) (.cons (.ret (.tup (.cons (.var 1) (.cons (.neg (.int 1)) .nil)))) .nil) .nil) .nil))))) (.cons (.ret .non) .nil))))⟩
def F__law_names : FDef := ⟨"_law_names", 1, 2, false, (.cons (.set (.nm 1) (.lst false (.cons (.str (Str.ofString "a")) (.cons (.str (Str.ofString "z9")) (.cons (.str (Str.ofString "send")) (.cons (.str (Str.ofString "c")) (.cons (.str (Str.ofString "abcdefghijkl")) (.cons (.str (Str.ofString "abcdefghijkm")) (.cons (.str (Str.ofString "law1")) (.cons (.str (Str.ofString "ex")) (.cons (.str (Str.ofString "iff")) (.cons (.str (Str.ofString "b")) (.cons (.str (Str.ofString "n0")) (.cons (.str (Str.ofString "exits2")) (.cons (.str (Str.ofString "q")) (.cons (.str (Str.ofString "while9")) .nil)))))))))))))))) (.cons (.ret (.call 17 (.cons (.var 0) (.cons (.var 1) .nil)))) .nil))⟩
def F__law_drawn : FDef := ⟨"_law_drawn", 1, 7, false, (.cons (.par3 1 2 3 (.call 24 (.cons (.var 0) .nil)) (.lst true .nil) (.int 64)) (.cons (.for_ (.nm 4) (.rng1 (.call 15 (.cons (.var 0) (.cons (.int 5) .nil)))) (.cons (.set (.nm 5) (.call 16 (.cons (.var 0) (.cons (.lst false (.cons (.int 1) (.cons (.int 2) (.cons (.bi .min2 (.cons (.int 8) (.cons (.var 3) .nil))) (.cons (.bin .add (.int 1) (.call 15 (.cons (.var 0) (.cons (.bi .min2 (.cons (.int 8) (.cons (.var 3) .nil))) .nil)))) .nil))))) .nil)))) (.cons (.set (.nm 5) (.bi .min2 (.cons (.var 5) (.cons (.var 3) .nil)))) (.cons (.expr (.mth .append (.var 2) (.cons (.tup (.cons (.mth .pop (.var 1) .nil) (.cons (.var 5) .nil))) .nil))) (.cons (.set (.nm 3) (.bin .fdiv (.var 3) (.var 5))) .nil))))) (.cons (.set (.nm 6) (.lst true .nil)) (.cons (.for_ (.nm 4) (.rng1 (.call 15 (.cons (.var 0) (.cons (.int 4) .nil)))) (.cons (.expr (.mth .append (.var 6) (.cons (.tup (.cons (.mth .pop (.var 1) .nil) (.cons (.call 16 (.cons (.var 0) (.cons (.lst false (.cons (.int 1) (.cons (.int 99) (.cons (.bin .add (.int 1) (.call 15 (.cons (.var 0) (.cons (.int 99) .nil)))) .nil)))) .nil))) .nil))) .nil))) .nil)) (.cons (.ret (.tup (.cons (.bi .tuple (.cons (.var 2) .nil)) (.cons (.bi .tuple (.cons (.var 6) .nil)) (.cons (.bi .tuple (.cons (.lc false (.nm 4) (.rng1 (.bin .add (.int 1) (.call 15 (.cons (.var 0) (.cons (.int 4) .nil))))) [4] .no (.mth .pop (.var 1) .nil)) .nil)) .nil))))) .nil)))))⟩
def F__law_odd_entry : FDef := ⟨"_law_odd_entry", 3, 6, false, (.cons (.set (.nm 3) (.bin .add (.lc false (.nm 2) (.seq (.bin .add (.ix (.var 1) (.int 0)) (.ix (.var 1) (.int 1)))) [2] .no (.ix (.var 2) (.int 0))) (.bi .list (.cons (.ix (.var 1) (.int 2)) .nil)))) (.cons (.set (.nm 4) (.call 16 (.cons (.var 0) (.cons (.bin .add (.lst false (.cons (.str (Str.ofString "")) (.cons (.str (Str.ofString "A")) (.cons (.str (Str.ofString "9a")) (.cons (.str (Str.ofString "a b")) (.cons (.str (Str.ofString "abcdefghijklm")) (.cons (.str (Str.ofString "if")) (.cons (.str (Str.ofString "law")) (.cons (.str (Str.ofString "cells")) (.cons (.str (Str.ofString "good")) (.cons .non (.cons (.int 7) .nil)))))))))))) (.var 3)) .nil)))) (.cons (.ife (.cmp .eq (.var 2) (.int 2)) (.cons (.ret (.call 16 (.cons (.var 0) (.cons (.lst false (.cons (.var 4) (.cons (.var 4) (.cons (.tup (.cons (.str (Str.ofString "good")) (.cons (.int 1) .nil))) .nil)))) .nil)))) .nil) .nil) (.cons (.set (.nm 5) (.call 16 (.cons (.var 0) (.cons (.lst false (.cons (.int 0) (.cons (.neg (.int 1)) (.cons (.int 9) (.cons (.int 8) (.cons (.int 100) (.cons (.int 99) (.cons (.bin .pow (.int 10) (.int 30)) (.cons .non (.cons (.str (Str.ofString "1")) (.cons (.bl true) (.cons (.int 1) .nil)))))))))))) .nil)))) (.cons (.ret (.call 16 (.cons (.var 0) (.cons (.lst false (.cons (.tup (.cons (.var 4) (.cons (.int 1) .nil))) (.cons (.tup (.cons (.str (Str.ofString "good")) (.cons (.var 5) .nil))) (.cons (.tup (.cons (.str (Str.ofString "good")) .nil)) (.cons (.tup (.cons (.str (Str.ofString "good")) (.cons (.int 1) (.cons (.int 1) .nil)))) (.cons (.str (Str.ofString "good")) (.cons .non (.cons (.tup (.cons (.var 4) (.cons (.var 5) .nil))) .nil)))))))) .nil)))) .nil)))))⟩
def F__law_spoilt : FDef := ⟨"_law_spoilt", 3, 7, false, (.cons (.par 3 4 (.call 15 (.cons (.var 0) (.cons (.int 3) .nil))) (.call 15 (.cons (.var 0) (.cons (.int 8) .nil)))) (.cons (.set (.nm 5) (.ix (.var 2) (.var 3))) (.cons (.ife (.cmp .eq (.var 4) (.int 0)) (.cons (.set (.nm 5) (.bin .add (.var 5) (.bi .tuple (.cons (.lc false (.nm 6) (.rng1 (.int 5)) [6] .no (.call 16 (.cons (.var 0) (.cons (.lst false (.cons (.str (Str.ofString "m1")) (.cons (.tup (.cons (.str (Str.ofString "m1")) (.cons (.int 1) .nil))) .nil))) .nil)))) .nil)))) .nil) (.cons (.ife (.cmp .eq (.var 4) (.int 1)) (.cons (.set (.nm 5) (.tup .nil)) .nil) (.cons (.ife (.and (.cmp .eq (.var 4) (.int 2)) (.cmp .eq (.var 3) (.int 0))) (.cons (.set (.nm 5) (.tup (.cons (.tup (.cons (.str (Str.ofString "m1")) (.cons (.int 8) .nil))) (.cons (.tup (.cons (.str (Str.ofString "m2")) (.cons (.int 8) .nil))) (.cons (.tup (.cons (.str (Str.ofString "m3")) (.cons (.call 16 (.cons (.var 0) (.cons (.lst false (.cons (.int 1) (.cons (.int 2) .nil))) .nil))) .nil))) .nil))))) .nil) (.cons (.ife (.cmp .eq (.var 4) (.int 3)) (.cons (.set (.nm 5) (.call 16 (.cons (.var 0) (.cons (.lst false (.cons .non (.cons (.str (Str.ofString "a")) (.cons (.int 7) (.cons (.var 5) .nil))))) .nil)))) .nil) (.cons (.set (.nm 6) (.call 15 (.cons (.var 0) (.cons (.bin .add (.bi .len (.cons (.var 5) .nil)) (.int 1)) .nil)))) (.cons (.set (.nm 5) (.bin .add (.bin .add (.sl (.var 5) .no (.so (.var 6))) (.tup (.cons (.call 26 (.cons (.var 0) (.cons (.var 1) (.cons (.var 3) .nil)))) .nil))) (.sl (.var 5) (.so (.bin .add (.var 6) (.bi .int (.cons (.cmp .gt (.var 4) (.int 5)) .nil)))) .no))) .nil))) .nil)) .nil)) .nil)) (.cons (.ret (.bin .add (.bin .add (.sl (.var 2) .no (.so (.var 3))) (.tup (.cons (.var 5) .nil))) (.sl (.var 2) (.so (.bin .add (.var 3) (.int 1))) .no))) .nil))))⟩
def F__law_thing_right : FDef := ⟨"_law_thing_right", 1, 3, false, (.cons (.set (.nm 1) (.call 23 (.cons (.var 0) .nil))) (.cons (.set (.nm 2) (.ite (.cmp .is_ (.var 1) .non) (.tup (.cons (.str (Str.ofString "told")) (.cons (.var 0) .nil))) (.tup (.cons (.str (Str.ofString "refused")) (.cons (.var 1) (.cons (.bl true) .nil)))))) (.cons (.ret (.and (.cmp .eq (.bi .repr (.cons (.call 19 (.cons (.var 0) .nil)) .nil)) (.bi .repr (.cons (.var 2) .nil))) (.cmp .eq (.bi .repr (.cons (.call 8 (.cons (.var 0) .nil)) .nil)) (.bi .repr (.cons (.cmp .is_ (.var 1) .non) .nil))))) .nil)))⟩
def F_law : FDef := ⟨"law", 1, 8, false, (.cons (.set (.nm 1) (.call 14 (.cons (.var 0) (.cons (.int 0) .nil)))) (.cons (.set (.nm 2) (.call 25 (.cons (.var 1) .nil))) (.cons (.set (.nm 3) (.call 18 (.cons (.var 2) .nil))) (.cons (.ife (.or (.cmp .isNot (.call 23 (.cons (.var 2) .nil)) .non) (.or (.not (.call 28 (.cons (.var 2) .nil))) (.cmp .ne (.bi .repr (.cons (.call 10 (.cons (.var 2) .nil)) .nil)) (.bi .repr (.cons (.bi .tuple (.cons (.var 3) .nil)) .nil))))) (.cons (.ret (.bl false)) .nil) .nil) (.cons (.ife (.or (.cmp .ne (.bi .repr (.cons (.call 11 (.cons (.var 2) .nil)) .nil)) (.bi .repr (.cons (.bi .len (.cons (.var 3) .nil)) .nil))) (.cmp .ne (.bi .repr (.cons (.call 13 (.cons (.var 2) .nil)) .nil)) (.bi .repr (.cons (.bin .mul (.tup (.cons (.int 0) .nil)) (.bi .len (.cons (.ix (.var 2) (.int 1)) .nil))) .nil)))) (.cons (.ret (.bl false)) .nil) .nil) (.cons (.for_ (.nm 4) (.rng1 (.int 6)) (.cons (.set (.nm 5) (.call 27 (.cons (.var 1) (.cons (.var 2) (.cons (.var 2) .nil))))) (.cons (.ife (.not (.call 28 (.cons (.var 5) .nil))) (.cons (.ret (.bl false)) .nil) .nil) (.cons (.ife (.and (.bi (.isi (Str.ofString "tuple")) (.cons (.var 5) .nil)) (.cmp .eq (.lc false (.nm 6) (.seq (.var 5)) [6] (.so (.not (.bi (.isi (Str.ofString "tuple")) (.cons (.var 6) .nil)))) (.var 6)) (.lst false .nil))) (.cons (.ife (.not (.call 28 (.cons (.call 27 (.cons (.var 1) (.cons (.var 2) (.cons (.bin .add (.sl (.var 2) .no (.so (.int 1))) (.sl (.var 5) (.so (.int 1)) .no)) .nil)))) .nil))) (.cons (.ret (.bl false)) .nil) .nil) .nil) .nil) .nil)))) (.cons (.for_ (.nm 7) (.seq (.lst false (.cons .non (.cons (.tup .nil) (.cons (.sl (.var 2) .no (.so (.int 2))) (.cons (.bin .add (.var 2) (.tup (.cons (.tup .nil) .nil))) (.cons (.int 7) (.cons (.str (Str.ofString "ground")) (.cons (.tup (.cons (.var 2) .nil)) .nil))))))))) (.cons (.ife (.not (.call 28 (.cons (.var 7) .nil))) (.cons (.ret (.bl false)) .nil) .nil) .nil)) (.cons (.ret (.call 28 (.cons (.var 2) .nil))) .nil))))))))⟩
def Fs : List FDef := [F_is_whole, F_is_name, F_is_priced, F_first_bad, F_many_of, F_wrong_part, F_is_triple, F_made_ground, F_is_ground, F_all_states, F_states, F_many_states, F_nought_of, F_nought, F__law_pool, F__law_take, F__law_one, F__law_mixed, F__law_states, F__law_heard, F__law_is_name, F__law_is_number, F__law_entry_name, F__law_fault, F__law_names, F__law_drawn, F__law_odd_entry, F__law_spoilt, F__law_thing_right, F_law]
def glTab : List (Str × PyData) := [("FIGURES", c_FIGURES), ("LETTERS", c_LETTERS), ("MOST_CELLS", c_MOST_CELLS), ("MOST_EXITS", c_MOST_EXITS), ("MOST_KINDS", c_MOST_KINDS), ("MOST_NAME", c_MOST_NAME), ("MOST_PRICE", c_MOST_PRICE), ("MOST_SIZE", c_MOST_SIZE), ("MOST_STATES", c_MOST_STATES), ("RESERVED", c_RESERVED)]
def gl (x : Str) : Option PyData := glTab.lookup x
structure Facts (P : Program) (K : PySem.W.Frag) (mg : Str → Option Value) : Prop where
  m_ValueError : mg "ValueError" = none
  m_all : mg "all" = none
  m_bool : mg "bool" = none
  m_enumerate : mg "enumerate" = none
  m_int : mg "int" = none
  m_isinstance : mg "isinstance" = none
  m_len : mg "len" = none
  m_list : mg "list" = none
  m_max : mg "max" = none
  m_min : mg "min" = none
  m_range : mg "range" = none
  m_repr : mg "repr" = none
  m_str : mg "str" = none
  m_super : mg "super" = none
  m_tuple : mg "tuple" = none
  k_FIGURES : GlK K mg "FIGURES" c_FIGURES
  k_LETTERS : GlK K mg "LETTERS" c_LETTERS
  k_MOST_CELLS : GlK K mg "MOST_CELLS" c_MOST_CELLS
  k_MOST_EXITS : GlK K mg "MOST_EXITS" c_MOST_EXITS
  k_MOST_KINDS : GlK K mg "MOST_KINDS" c_MOST_KINDS
  k_MOST_NAME : GlK K mg "MOST_NAME" c_MOST_NAME
  k_MOST_PRICE : GlK K mg "MOST_PRICE" c_MOST_PRICE
  k_MOST_SIZE : GlK K mg "MOST_SIZE" c_MOST_SIZE
  k_MOST_STATES : GlK K mg "MOST_STATES" c_MOST_STATES
  k_RESERVED : GlK K mg "RESERVED" c_RESERVED
  g_Refused : mg "Refused" = some (.ref (He.ga K "Refused"))
  s_Refused : SupCls K (He.ga K "Refused") (He.ga K "Refused") (He.fAd K ("Refused", some "__init__"))
  g_BadGround : mg "BadGround" = some (.ref (He.ga K "BadGround"))
  s_BadGround : SupCls K (He.ga K "BadGround") (He.ga K "Refused") (He.fAd K ("Refused", some "__init__"))
  ini : SupInit P K (He.fAd K ("Refused", some "__init__")) (He.ga K "Refused")
  exi : ∀ x ∈ xcls, ExI K (He.ga K x)
  ti_BadGround : TabI K Law.ti_BadGround (.ref (He.ga K "BadGround"))
  ti_ValueError : TabI K Law.ti_ValueError (.type "ValueError")
  tm_Refused : TabM K Law.tm_Refused (.ref (He.ga K "Refused"))
def b0 : PySem.W.Frag → Bool := gloB "is_whole"
def b1 : PySem.W.Frag → Bool := gloB "is_name"
def b2 : PySem.W.Frag → Bool := gloB "is_priced"
def b3 : PySem.W.Frag → Bool := gloB "first_bad"
def b4 : PySem.W.Frag → Bool := gloB "many_of"
def b5 : PySem.W.Frag → Bool := gloB "wrong_part"
def b6 : PySem.W.Frag → Bool := gloB "is_triple"
def b7 : PySem.W.Frag → Bool := gloB "made_ground"
def b8 : PySem.W.Frag → Bool := gloB "is_ground"
def b9 : PySem.W.Frag → Bool := gloB "all_states"
def b10 : PySem.W.Frag → Bool := gloB "states"
def b11 : PySem.W.Frag → Bool := gloB "many_states"
def b12 : PySem.W.Frag → Bool := gloB "nought_of"
def b13 : PySem.W.Frag → Bool := gloB "nought"
def b14 : PySem.W.Frag → Bool := gloB "_law_pool"
def b15 : PySem.W.Frag → Bool := gloB "_law_take"
def b16 : PySem.W.Frag → Bool := gloB "_law_one"
def b17 : PySem.W.Frag → Bool := gloB "_law_mixed"
def b18 : PySem.W.Frag → Bool := gloB "_law_states"
def b19 : PySem.W.Frag → Bool := gloB "_law_heard"
def b20 : PySem.W.Frag → Bool := gloB "_law_is_name"
def b21 : PySem.W.Frag → Bool := gloB "_law_is_number"
def b22 : PySem.W.Frag → Bool := gloB "_law_entry_name"
def b23 : PySem.W.Frag → Bool := gloB "_law_fault"
def b24 : PySem.W.Frag → Bool := gloB "_law_names"
def b25 : PySem.W.Frag → Bool := gloB "_law_drawn"
def b26 : PySem.W.Frag → Bool := gloB "_law_odd_entry"
def b27 : PySem.W.Frag → Bool := gloB "_law_spoilt"
def b28 : PySem.W.Frag → Bool := gloB "_law_thing_right"
def b29 : PySem.W.Frag → Bool := gloB "law"
def b30 : PySem.W.Frag → Bool := gloB "Refused"
def b31 : PySem.W.Frag → Bool := gloB "BadGround"
def b32 : PySem.W.Frag → Bool := freeB "ValueError"
def b33 : PySem.W.Frag → Bool := freeB "all"
def b34 : PySem.W.Frag → Bool := freeB "bool"
def b35 : PySem.W.Frag → Bool := freeB "enumerate"
def b36 : PySem.W.Frag → Bool := freeB "int"
def b37 : PySem.W.Frag → Bool := freeB "isinstance"
def b38 : PySem.W.Frag → Bool := freeB "len"
def b39 : PySem.W.Frag → Bool := freeB "list"
def b40 : PySem.W.Frag → Bool := freeB "max"
def b41 : PySem.W.Frag → Bool := freeB "min"
def b42 : PySem.W.Frag → Bool := freeB "range"
def b43 : PySem.W.Frag → Bool := freeB "repr"
def b44 : PySem.W.Frag → Bool := freeB "str"
def b45 : PySem.W.Frag → Bool := freeB "super"
def b46 : PySem.W.Frag → Bool := freeB "tuple"
def b47 : PySem.W.Frag → Bool := glB "FIGURES" c_FIGURES
def b48 : PySem.W.Frag → Bool := glB "LETTERS" c_LETTERS
def b49 : PySem.W.Frag → Bool := glB "MOST_CELLS" c_MOST_CELLS
def b50 : PySem.W.Frag → Bool := glB "MOST_EXITS" c_MOST_EXITS
def b51 : PySem.W.Frag → Bool := glB "MOST_KINDS" c_MOST_KINDS
def b52 : PySem.W.Frag → Bool := glB "MOST_NAME" c_MOST_NAME
def b53 : PySem.W.Frag → Bool := glB "MOST_PRICE" c_MOST_PRICE
def b54 : PySem.W.Frag → Bool := glB "MOST_SIZE" c_MOST_SIZE
def b55 : PySem.W.Frag → Bool := glB "MOST_STATES" c_MOST_STATES
def b56 : PySem.W.Frag → Bool := glB "RESERVED" c_RESERVED
def b57 : PySem.W.Frag → Bool := fun K => supB (He.ga K "Refused") (He.ga K "Refused") (He.fAd K ("Refused", some "__init__")) K
def b58 : PySem.W.Frag → Bool := fun K => supB (He.ga K "BadGround") (He.ga K "Refused") (He.fAd K ("Refused", some "__init__")) K
def b59 : PySem.W.Frag → Bool := initB ("Refused", some "__init__") "Refused.__init__" PySem.Challenge.pw_lawsleft_k00_grounds_made_and_refused.main.file (fun K => He.ga K "Refused")
def b60 : PySem.W.Frag → Bool := fun K => exiB (He.ga K "Refused") K
def b61 : PySem.W.Frag → Bool := fun K => exiB (He.ga K "BadGround") K
def b62 : PySem.W.Frag → Bool := tabIB Law.ti_BadGround (fun K => .ref (He.ga K "BadGround"))
def b63 : PySem.W.Frag → Bool := tabIB Law.ti_ValueError (fun _ => .type "ValueError")
def b64 : PySem.W.Frag → Bool := tabMB Law.tm_Refused (fun K => .ref (He.ga K "Refused"))
def bs : List (PySem.W.Frag → Bool) := [b0, b1, b2, b3, b4, b5, b6, b7, b8, b9, b10, b11, b12, b13, b14, b15, b16, b17, b18, b19, b20, b21, b22, b23, b24, b25, b26, b27, b28, b29, b30, b31, b32, b33, b34, b35, b36, b37, b38, b39, b40, b41, b42, b43, b44, b45, b46, b47, b48, b49, b50, b51, b52, b53, b54, b55, b56, b57, b58, b59, b60, b61, b62, b63, b64]
theorem ini_of {K : PySem.W.Frag} (e : fnI K i_Refused.at_ = i_Refused.val) (c : initB ("Refused", some "__init__") "Refused.__init__" PySem.Challenge.pw_lawsleft_k00_grounds_made_and_refused.main.file (fun K => He.ga K "Refused") K = true) : SupInit PySem.Challenge.pw_lawsleft_k00_grounds_made_and_refused K (He.fAd K ("Refused", some "__init__")) (He.ga K "Refused") := by
  obtain ⟨kV, doc, pm, ct, oc, ccl, cl, an, od, cdd, cld, osl, ccs, csl, cda, cc, vs, tf, cdD, h1, h2, h3, h4, h5, h6⟩ := init_ok (d := i_Refused) e c
  exact ⟨⟨"__init__", "Refused.__init__", defArgs s_init_Refused, defScope s_init_Refused, .none, kV, doc, pm, ct, oc, ccl, cl, an, od, cdd, cld, osl, ccs, csl, cda, cc, vs, PySem.Challenge.pw_lawsleft_k00_grounds_made_and_refused.main.file, tf, _, cdD, "self", "what", _, _, _, _, _, _, _, _, _, _, _,
    h1, h2, h3, h4, by decide +kernel, by decide +kernel, h5, h6, rfl, rfl, fun us hl => (match us, hl with | [_, _], _ => rfl), rfl, rfl, rfl, rfl, by decide +kernel, rfl, rfl, rfl, by decide, by decide, by decide,
    fun _ => rfl, fun _ => rfl, fun _ => rfl, fun _ => rfl, fun _ => rfl, fun _ => rfl⟩⟩
def Says (K : PySem.W.Frag) : Prop := SaysX bs fn fi K
theorem Says.b {K : PySem.W.Frag} (c : Says K) (i : Nat) {b : PySem.W.Frag → Bool} (h : bs[i]? = some b) : b K = true := SaysX.fact c (List.mem_of_getElem? h)
theorem facts_of {K : PySem.W.Frag} {h : Heap} {mg : Str → Option Value} (X : K.In h) (G : h.Ns mainGlobals mg) (c : Says K) : Facts PySem.Challenge.pw_lawsleft_k00_grounds_made_and_refused K mg where
  m_ValueError := freeB_ok X G (c.b 32 (b := b32) rfl)
  m_all := freeB_ok X G (c.b 33 (b := b33) rfl)
  m_bool := freeB_ok X G (c.b 34 (b := b34) rfl)
  m_enumerate := freeB_ok X G (c.b 35 (b := b35) rfl)
  m_int := freeB_ok X G (c.b 36 (b := b36) rfl)
  m_isinstance := freeB_ok X G (c.b 37 (b := b37) rfl)
  m_len := freeB_ok X G (c.b 38 (b := b38) rfl)
  m_list := freeB_ok X G (c.b 39 (b := b39) rfl)
  m_max := freeB_ok X G (c.b 40 (b := b40) rfl)
  m_min := freeB_ok X G (c.b 41 (b := b41) rfl)
  m_range := freeB_ok X G (c.b 42 (b := b42) rfl)
  m_repr := freeB_ok X G (c.b 43 (b := b43) rfl)
  m_str := freeB_ok X G (c.b 44 (b := b44) rfl)
  m_super := freeB_ok X G (c.b 45 (b := b45) rfl)
  m_tuple := freeB_ok X G (c.b 46 (b := b46) rfl)
  k_FIGURES := glB_ok X G (c.b 47 (b := b47) rfl)
  k_LETTERS := glB_ok X G (c.b 48 (b := b48) rfl)
  k_MOST_CELLS := glB_ok X G (c.b 49 (b := b49) rfl)
  k_MOST_EXITS := glB_ok X G (c.b 50 (b := b50) rfl)
  k_MOST_KINDS := glB_ok X G (c.b 51 (b := b51) rfl)
  k_MOST_NAME := glB_ok X G (c.b 52 (b := b52) rfl)
  k_MOST_PRICE := glB_ok X G (c.b 53 (b := b53) rfl)
  k_MOST_SIZE := glB_ok X G (c.b 54 (b := b54) rfl)
  k_MOST_STATES := glB_ok X G (c.b 55 (b := b55) rfl)
  k_RESERVED := glB_ok X G (c.b 56 (b := b56) rfl)
  g_Refused := gloB_ok X G (c.b 30 (b := b30) rfl)
  s_Refused := supB_ok (c.b 57 (b := b57) rfl)
  g_BadGround := gloB_ok X G (c.b 31 (b := b31) rfl)
  s_BadGround := supB_ok (c.b 58 (b := b58) rfl)
  ini := ini_of (SaysX.ini c 0 rfl) (c.b 59 (b := b59) rfl)
  exi := fun x h => by
    simp only [xcls, List.mem_cons, List.not_mem_nil, or_false] at h
    rcases h with rfl | rfl
    · exact exiB_ok (c.b 60 (b := b60) rfl)
    · exact exiB_ok (c.b 61 (b := b61) rfl)
  ti_BadGround := tabIB_ok (c.b 62 (b := b62) rfl)
  ti_ValueError := tabIB_ok (c.b 63 (b := b63) rfl)
  tm_Refused := tabMB_ok (c.b 64 (b := b64) rfl)
theorem glo_is_whole {K : PySem.W.Frag} {h : Heap} {mg : Str → Option Value} (X : K.In h) (G : h.Ns mainGlobals mg) (c : Says K) : mg "is_whole" = some (.ref (He.ga K "is_whole")) := gloB_ok X G (c.b 0 (b := b0) rfl)
theorem glo_is_name {K : PySem.W.Frag} {h : Heap} {mg : Str → Option Value} (X : K.In h) (G : h.Ns mainGlobals mg) (c : Says K) : mg "is_name" = some (.ref (He.ga K "is_name")) := gloB_ok X G (c.b 1 (b := b1) rfl)
theorem glo_is_priced {K : PySem.W.Frag} {h : Heap} {mg : Str → Option Value} (X : K.In h) (G : h.Ns mainGlobals mg) (c : Says K) : mg "is_priced" = some (.ref (He.ga K "is_priced")) := gloB_ok X G (c.b 2 (b := b2) rfl)
theorem glo_first_bad {K : PySem.W.Frag} {h : Heap} {mg : Str → Option Value} (X : K.In h) (G : h.Ns mainGlobals mg) (c : Says K) : mg "first_bad" = some (.ref (He.ga K "first_bad")) := gloB_ok X G (c.b 3 (b := b3) rfl)
theorem glo_many_of {K : PySem.W.Frag} {h : Heap} {mg : Str → Option Value} (X : K.In h) (G : h.Ns mainGlobals mg) (c : Says K) : mg "many_of" = some (.ref (He.ga K "many_of")) := gloB_ok X G (c.b 4 (b := b4) rfl)
theorem glo_wrong_part {K : PySem.W.Frag} {h : Heap} {mg : Str → Option Value} (X : K.In h) (G : h.Ns mainGlobals mg) (c : Says K) : mg "wrong_part" = some (.ref (He.ga K "wrong_part")) := gloB_ok X G (c.b 5 (b := b5) rfl)
theorem glo_is_triple {K : PySem.W.Frag} {h : Heap} {mg : Str → Option Value} (X : K.In h) (G : h.Ns mainGlobals mg) (c : Says K) : mg "is_triple" = some (.ref (He.ga K "is_triple")) := gloB_ok X G (c.b 6 (b := b6) rfl)
theorem glo_made_ground {K : PySem.W.Frag} {h : Heap} {mg : Str → Option Value} (X : K.In h) (G : h.Ns mainGlobals mg) (c : Says K) : mg "made_ground" = some (.ref (He.ga K "made_ground")) := gloB_ok X G (c.b 7 (b := b7) rfl)
theorem glo_is_ground {K : PySem.W.Frag} {h : Heap} {mg : Str → Option Value} (X : K.In h) (G : h.Ns mainGlobals mg) (c : Says K) : mg "is_ground" = some (.ref (He.ga K "is_ground")) := gloB_ok X G (c.b 8 (b := b8) rfl)
theorem glo_all_states {K : PySem.W.Frag} {h : Heap} {mg : Str → Option Value} (X : K.In h) (G : h.Ns mainGlobals mg) (c : Says K) : mg "all_states" = some (.ref (He.ga K "all_states")) := gloB_ok X G (c.b 9 (b := b9) rfl)
theorem glo_states {K : PySem.W.Frag} {h : Heap} {mg : Str → Option Value} (X : K.In h) (G : h.Ns mainGlobals mg) (c : Says K) : mg "states" = some (.ref (He.ga K "states")) := gloB_ok X G (c.b 10 (b := b10) rfl)
theorem glo_many_states {K : PySem.W.Frag} {h : Heap} {mg : Str → Option Value} (X : K.In h) (G : h.Ns mainGlobals mg) (c : Says K) : mg "many_states" = some (.ref (He.ga K "many_states")) := gloB_ok X G (c.b 11 (b := b11) rfl)
theorem glo_nought_of {K : PySem.W.Frag} {h : Heap} {mg : Str → Option Value} (X : K.In h) (G : h.Ns mainGlobals mg) (c : Says K) : mg "nought_of" = some (.ref (He.ga K "nought_of")) := gloB_ok X G (c.b 12 (b := b12) rfl)
theorem glo_nought {K : PySem.W.Frag} {h : Heap} {mg : Str → Option Value} (X : K.In h) (G : h.Ns mainGlobals mg) (c : Says K) : mg "nought" = some (.ref (He.ga K "nought")) := gloB_ok X G (c.b 13 (b := b13) rfl)
theorem glo__law_pool {K : PySem.W.Frag} {h : Heap} {mg : Str → Option Value} (X : K.In h) (G : h.Ns mainGlobals mg) (c : Says K) : mg "_law_pool" = some (.ref (He.ga K "_law_pool")) := gloB_ok X G (c.b 14 (b := b14) rfl)
theorem glo__law_take {K : PySem.W.Frag} {h : Heap} {mg : Str → Option Value} (X : K.In h) (G : h.Ns mainGlobals mg) (c : Says K) : mg "_law_take" = some (.ref (He.ga K "_law_take")) := gloB_ok X G (c.b 15 (b := b15) rfl)
theorem glo__law_one {K : PySem.W.Frag} {h : Heap} {mg : Str → Option Value} (X : K.In h) (G : h.Ns mainGlobals mg) (c : Says K) : mg "_law_one" = some (.ref (He.ga K "_law_one")) := gloB_ok X G (c.b 16 (b := b16) rfl)
theorem glo__law_mixed {K : PySem.W.Frag} {h : Heap} {mg : Str → Option Value} (X : K.In h) (G : h.Ns mainGlobals mg) (c : Says K) : mg "_law_mixed" = some (.ref (He.ga K "_law_mixed")) := gloB_ok X G (c.b 17 (b := b17) rfl)
theorem glo__law_states {K : PySem.W.Frag} {h : Heap} {mg : Str → Option Value} (X : K.In h) (G : h.Ns mainGlobals mg) (c : Says K) : mg "_law_states" = some (.ref (He.ga K "_law_states")) := gloB_ok X G (c.b 18 (b := b18) rfl)
theorem glo__law_heard {K : PySem.W.Frag} {h : Heap} {mg : Str → Option Value} (X : K.In h) (G : h.Ns mainGlobals mg) (c : Says K) : mg "_law_heard" = some (.ref (He.ga K "_law_heard")) := gloB_ok X G (c.b 19 (b := b19) rfl)
theorem glo__law_is_name {K : PySem.W.Frag} {h : Heap} {mg : Str → Option Value} (X : K.In h) (G : h.Ns mainGlobals mg) (c : Says K) : mg "_law_is_name" = some (.ref (He.ga K "_law_is_name")) := gloB_ok X G (c.b 20 (b := b20) rfl)
theorem glo__law_is_number {K : PySem.W.Frag} {h : Heap} {mg : Str → Option Value} (X : K.In h) (G : h.Ns mainGlobals mg) (c : Says K) : mg "_law_is_number" = some (.ref (He.ga K "_law_is_number")) := gloB_ok X G (c.b 21 (b := b21) rfl)
theorem glo__law_entry_name {K : PySem.W.Frag} {h : Heap} {mg : Str → Option Value} (X : K.In h) (G : h.Ns mainGlobals mg) (c : Says K) : mg "_law_entry_name" = some (.ref (He.ga K "_law_entry_name")) := gloB_ok X G (c.b 22 (b := b22) rfl)
theorem glo__law_fault {K : PySem.W.Frag} {h : Heap} {mg : Str → Option Value} (X : K.In h) (G : h.Ns mainGlobals mg) (c : Says K) : mg "_law_fault" = some (.ref (He.ga K "_law_fault")) := gloB_ok X G (c.b 23 (b := b23) rfl)
theorem glo__law_names {K : PySem.W.Frag} {h : Heap} {mg : Str → Option Value} (X : K.In h) (G : h.Ns mainGlobals mg) (c : Says K) : mg "_law_names" = some (.ref (He.ga K "_law_names")) := gloB_ok X G (c.b 24 (b := b24) rfl)
theorem glo__law_drawn {K : PySem.W.Frag} {h : Heap} {mg : Str → Option Value} (X : K.In h) (G : h.Ns mainGlobals mg) (c : Says K) : mg "_law_drawn" = some (.ref (He.ga K "_law_drawn")) := gloB_ok X G (c.b 25 (b := b25) rfl)
theorem glo__law_odd_entry {K : PySem.W.Frag} {h : Heap} {mg : Str → Option Value} (X : K.In h) (G : h.Ns mainGlobals mg) (c : Says K) : mg "_law_odd_entry" = some (.ref (He.ga K "_law_odd_entry")) := gloB_ok X G (c.b 26 (b := b26) rfl)
theorem glo__law_spoilt {K : PySem.W.Frag} {h : Heap} {mg : Str → Option Value} (X : K.In h) (G : h.Ns mainGlobals mg) (c : Says K) : mg "_law_spoilt" = some (.ref (He.ga K "_law_spoilt")) := gloB_ok X G (c.b 27 (b := b27) rfl)
theorem glo__law_thing_right {K : PySem.W.Frag} {h : Heap} {mg : Str → Option Value} (X : K.In h) (G : h.Ns mainGlobals mg) (c : Says K) : mg "_law_thing_right" = some (.ref (He.ga K "_law_thing_right")) := gloB_ok X G (c.b 28 (b := b28) rfl)
theorem glo_law {K : PySem.W.Frag} {h : Heap} {mg : Str → Option Value} (X : K.In h) (G : h.Ns mainGlobals mg) (c : Says K) : mg "law" = some (.ref (He.ga K "law")) := gloB_ok X G (c.b 29 (b := b29) rfl)
abbrev R : PySem.W.OpenRow := PySem.W.OpenLaw.row PySem.Challenge.rw_lawsleft_k00_grounds_made_and_refused
abbrev hk : PySem.W.Hook := hookX 4 bs fn fi
def ob (s : PySem.W.SharedT) : AlX := obsXG 4 bs fn fi (HandSHeadRun.getT s)
theorem ob_eq (s : PySem.W.SharedT) : ob s = hk.obs s.abs := obsXG_eq (HandSHeadRun.getT_eq s)
theorem run (w : World) : HandSHeadRun.RunEq R (PySem.W.view R.prog [lawAt]) hk ob 3000 loose w := by
  intro os
  kernel_rfl
theorem room1 {P : Program} {w : World} {K : PySem.W.Frag} {mg : Str → Option Value} {base : Heap} {N : List Str} {qual : Str} {sco : Scope} {f : Addr} {cdv : Value} {A : Around} {outer : List Env} {s : Shared} {H : Hp} {E : XK} {n : Nat} (G : Gs (XOf P w K mg base N qual sco f cdv A outer s H E) (WOf E) (n + 1)) : Room 1 (XOf P w K mg base N qual sco f cdv A outer s H E).A := G.room.mono (by omega)
end Law
end
set_option Elab.async false
set_option linter.all false
set_option maxRecDepth 100000
set_option maxHeartbeats 4000000
noncomputable section
namespace Law
open PySem PySem.Spec PyProof.Rows L2 Fw
section
variable {P : Program} {w : World} {K : PySem.W.Frag} {mg : Str → Option Value} {wf : Nat}
theorem ok_is_whole (F : Facts P K mg) (f : Addr) (cdv : Value) (base : Heap) (A : Around) (outer : List Env) (s : Shared) (H : Hp) (E : XK) (n : Nat) (cl : Nat → List D → Gh → Rs D) (GS : Gs (XOf P w K mg base ["thing"] "is_whole" (defScope s_is_whole) f cdv A outer s H E) (WOf E) (n + 1))
    (C : ∀ (f : Nat) (d : FDef), Fs[f]? = some d → CallOk P w K mg base (n + 1) d.nm d.np (cl f)) : SSs (XOf P w K mg base ["thing"] "is_whole" (defScope s_is_whole) f cdv A outer s H E) (WOf E) gl cl wf (defBody s_is_whole) F_is_whole.body := by
  have G := GS.toGd
  exact (sss_cons (s_ret (e_and (e_isi "int" (e_var 0) F.m_isinstance F.m_int bo_int) (e_one (e_not (e_isi "bool" (e_var 0) F.m_isinstance F.m_bool bo_bool)))))
 sss_nil)
theorem ok_is_name (F : Facts P K mg) (f : Addr) (cdv : Value) (base : Heap) (A : Around) (outer : List Env) (s : Shared) (H : Hp) (E : XK) (n : Nat) (cl : Nat → List D → Gh → Rs D) (GS : Gs (XOf P w K mg base ["thing", "sign"] "is_name" (defScope s_is_name) f cdv A outer s H E) (WOf E) (n + 1))
    (C : ∀ (f : Nat) (d : FDef), Fs[f]? = some d → CallOk P w K mg base (n + 1) d.nm d.np (cl f)) : SSs (XOf P w K mg base ["thing", "sign"] "is_name" (defScope s_is_name) f cdv A outer s H E) (WOf E) gl cl wf (defBody s_is_name) F_is_name.body := by
  have G := GS.toGd
  exact (sss_cons (s_if (t_sw (w_or (t_not (t_val (e_isi "str" (e_var 0) F.m_isinstance F.m_str bo_str))) (w_or (t_not (t_chn G .le .le e_int (e_biB G .len F.m_len bo_len (a_cons (e_var 0) a_nil)) (e_gl F.k_MOST_NAME))) (w_or1 (t_cmp G .isIn (e_var 0) (e_gl F.k_RESERVED))))))
 (sss_cons (s_ret e_bl)
 sss_nil)
 sss_nil)
 (sss_cons (s_ret (e_and (e_cmp G .isIn (e_ix (e_var 0) e_int) (e_gl F.k_LETTERS)) (e_one (e_biB G .all F.m_all bo_all (a_cons (e_lc G false [("sign", 1)] (q_seq (e_var 0)) (fun _ _ _ _ _ G => (i_nm G.hN 1)) (fun _ _ _ _ _ G => c_no) (fun _ _ _ _ _ G => (e_or (e_cmp G .isIn (e_var 1) (e_gl F.k_LETTERS)) (e_one (e_cmp G .isIn (e_var 1) (e_gl F.k_FIGURES)))))) a_nil)))))
 sss_nil))
theorem ok_is_priced (F : Facts P K mg) (f : Addr) (cdv : Value) (base : Heap) (A : Around) (outer : List Env) (s : Shared) (H : Hp) (E : XK) (n : Nat) (cl : Nat → List D → Gh → Rs D) (GS : Gs (XOf P w K mg base ["thing", "most"] "is_priced" (defScope s_is_priced) f cdv A outer s H E) (WOf E) (n + 1))
    (C : ∀ (f : Nat) (d : FDef), Fs[f]? = some d → CallOk P w K mg base (n + 1) d.nm d.np (cl f)) : SSs (XOf P w K mg base ["thing", "most"] "is_priced" (defScope s_is_priced) f cdv A outer s H E) (WOf E) gl cl wf (defBody s_is_priced) F_is_priced.body := by
  have G := GS.toGd
  exact (sss_cons (s_if (t_sw (w_or (t_not (t_val (e_isi "tuple" (e_var 0) F.m_isinstance F.m_tuple bo_tuple))) (w_or1 (t_cmp G .ne (e_biB G .len F.m_len bo_len (a_cons (e_var 0) a_nil)) e_int))))
 (sss_cons (s_ret e_bl)
 sss_nil)
 sss_nil)
 (sss_cons (s_ret (e_and (e_call G (C 1 F_is_name rfl) (a_cons (e_ix (e_var 0) e_int) a_nil)) (e_and (e_call G (C 0 F_is_whole rfl) (a_cons (e_ix (e_var 0) e_int) a_nil)) (e_one (e_chn G .le .le e_int (e_ix (e_var 0) e_int) (e_var 1))))))
 sss_nil))
theorem ok_first_bad (F : Facts P K mg) (f : Addr) (cdv : Value) (base : Heap) (A : Around) (outer : List Env) (s : Shared) (H : Hp) (E : XK) (n : Nat) (cl : Nat → List D → Gh → Rs D) (GS : Gs (XOf P w K mg base ["met", "entries", "most", "index", "entry", "name"] "first_bad" (defScope s_first_bad) f cdv A outer s H E) (WOf E) (n + 1))
    (C : ∀ (f : Nat) (d : FDef), Fs[f]? = some d → CallOk P w K mg base (n + 1) d.nm d.np (cl f)) : SSs (XOf P w K mg base ["met", "entries", "most", "index", "entry", "name"] "first_bad" (defScope s_first_bad) f cdv A outer s H E) (WOf E) gl cl wf (defBody s_first_bad) F_first_bad.body := by
  have G := GS.toGd
  exact (sss_cons (s_for GS (q_enum F.m_enumerate (e_var 1)) (i_tp G.calm (gs_cons (g_nm G.hN 3) (gs_cons (g_nm G.hN 4) gs_nil)))
 (sss_cons (s_if (t_not (t_ite (t_cmp G .is_ (e_var 2) e_non) (t_val (e_call G (C 1 F_is_name rfl) (a_cons (e_var 4) a_nil))) (t_val (e_call G (C 2 F_is_priced rfl) (a_cons (e_var 4) (a_cons (e_var 2) a_nil))))))
 (sss_cons (s_ret (e_var 3))
 sss_nil)
 sss_nil)
 (sss_cons (s_name G 5 (e_ite (t_cmp G .is_ (e_var 2) e_non) (e_var 4) (e_ix (e_var 4) e_int)))
 (sss_cons (s_if (t_cmp G .isIn (e_var 5) (e_var 0))
 (sss_cons (s_ret (e_var 3))
 sss_nil)
 sss_nil)
 (sss_cons (s_expr (e_mth .append PySem.F.slot_list_append PySem.F.type_list_append (e_var 0) (a_cons (e_var 5) a_nil)))
 sss_nil)))))
 (sss_cons (s_ret e_non)
 sss_nil))
theorem ok_many_of (F : Facts P K mg) (f : Addr) (cdv : Value) (base : Heap) (A : Around) (outer : List Env) (s : Shared) (H : Hp) (E : XK) (n : Nat) (cl : Nat → List D → Gh → Rs D) (GS : Gs (XOf P w K mg base ["cells", "many", "_", "size"] "many_of" (defScope s_many_of) f cdv A outer s H E) (WOf E) (n + 1))
    (C : ∀ (f : Nat) (d : FDef), Fs[f]? = some d → CallOk P w K mg base (n + 1) d.nm d.np (cl f)) : SSs (XOf P w K mg base ["cells", "many", "_", "size"] "many_of" (defScope s_many_of) f cdv A outer s H E) (WOf E) gl cl wf (defBody s_many_of) F_many_of.body := by
  have G := GS.toGd
  exact (sss_cons (s_name G 1 e_int)
 (sss_cons (s_for GS (q_seq (e_var 0)) (i_tp G.calm (gs_cons (g_nm G.hN 2) (gs_cons (g_nm G.hN 3) gs_nil)))
 (sss_cons (s_name G 1 (e_bin .mul (e_var 1) (e_var 3)))
 sss_nil))
 (sss_cons (s_ret (e_var 1))
 sss_nil)))
theorem ok_wrong_part (F : Facts P K mg) (f : Addr) (cdv : Value) (base : Heap) (A : Around) (outer : List Env) (s : Shared) (H : Hp) (E : XK) (n : Nat) (cl : Nat → List D → Gh → Rs D) (GS : Gs (XOf P w K mg base ["thing", "met", "bounds", "part", "most", "least", "many", "index"] "wrong_part" (defScope s_wrong_part) f cdv A outer s H E) (WOf E) (n + 1))
    (C : ∀ (f : Nat) (d : FDef), Fs[f]? = some d → CallOk P w K mg base (n + 1) d.nm d.np (cl f)) : SSs (XOf P w K mg base ["thing", "met", "bounds", "part", "most", "least", "many", "index"] "wrong_part" (defScope s_wrong_part) f cdv A outer s H E) (WOf E) gl cl wf (defBody s_wrong_part) F_wrong_part.body := by
  have G := GS.toGd
  exact (sss_cons (s_name G 1 (e_lst a_nil))
 (sss_cons (s_name G 2 (e_lst (a_cons (e_tup (a_cons (e_gl F.k_MOST_SIZE) (a_cons e_int (a_cons (e_gl F.k_MOST_CELLS) a_nil)))) (a_cons (e_tup (a_cons (e_gl F.k_MOST_PRICE) (a_cons e_int (a_cons (e_gl F.k_MOST_KINDS) a_nil)))) (a_cons (e_tup (a_cons e_non (a_cons e_int (a_cons (e_gl F.k_MOST_EXITS) a_nil)))) a_nil)))))
 (sss_cons (s_for GS (q_enum F.m_enumerate (e_var 2)) (i_tp G.calm (gs_cons (g_nm G.hN 3) (gs_cons (g_tp G.calm (gs_cons (g_nm G.hN 4) (gs_cons (g_nm G.hN 5) (gs_cons (g_nm G.hN 6) gs_nil)))) gs_nil)))
 (sss_cons (s_if (t_not (t_chn G .le .le (e_var 5) (e_biB G .len F.m_len bo_len (a_cons (e_ix (e_var 0) (e_var 3)) a_nil)) (e_var 6)))
 (sss_cons (s_ret (e_tup (a_cons (e_var 3) (a_cons (e_neg e_int) a_nil))))
 sss_nil)
 sss_nil)
 (sss_cons (s_name G 7 (e_call G (C 3 F_first_bad rfl) (a_cons (e_var 1) (a_cons (e_ix (e_var 0) (e_var 3)) (a_cons (e_var 4) a_nil)))))
 (sss_cons (s_if (t_cmp G .isNot (e_var 7) e_non)
 (sss_cons (s_ret (e_tup (a_cons (e_var 3) (a_cons (e_var 7) a_nil))))
 sss_nil)
 sss_nil)
 (sss_cons (s_if (t_sw (w_and (t_cmp G .eq (e_var 3) e_int) (w_and1 (t_cmp G .gt (e_call G (C 4 F_many_of rfl) (a_cons (e_ix (e_var 0) e_int) a_nil)) (e_gl F.k_MOST_STATES)))))
 (sss_cons (s_ret (e_tup (a_cons e_int (a_cons (e_neg e_int) a_nil))))
 sss_nil)
 sss_nil)
 sss_nil)))))
 (sss_cons (s_ret e_non)
 sss_nil))))
theorem ok_is_triple (F : Facts P K mg) (f : Addr) (cdv : Value) (base : Heap) (A : Around) (outer : List Env) (s : Shared) (H : Hp) (E : XK) (n : Nat) (cl : Nat → List D → Gh → Rs D) (GS : Gs (XOf P w K mg base ["thing", "part"] "is_triple" (defScope s_is_triple) f cdv A outer s H E) (WOf E) (n + 1))
    (C : ∀ (f : Nat) (d : FDef), Fs[f]? = some d → CallOk P w K mg base (n + 1) d.nm d.np (cl f)) : SSs (XOf P w K mg base ["thing", "part"] "is_triple" (defScope s_is_triple) f cdv A outer s H E) (WOf E) gl cl wf (defBody s_is_triple) F_is_triple.body := by
  have G := GS.toGd
  exact (sss_cons (s_ret (e_and (e_isi "tuple" (e_var 0) F.m_isinstance F.m_tuple bo_tuple) (e_and (e_cmp G .eq (e_biB G .len F.m_len bo_len (a_cons (e_var 0) a_nil)) e_int) (e_one (e_biB G .all F.m_all bo_all (a_cons (e_lc G false [("part", 1)] (q_seq (e_var 0)) (fun _ _ _ _ _ G => (i_nm G.hN 1)) (fun _ _ _ _ _ G => c_no) (fun _ _ _ _ _ G => (e_isi "tuple" (e_var 1) F.m_isinstance F.m_tuple bo_tuple))) a_nil))))))
 sss_nil)
theorem ok_made_ground (F : Facts P K mg) (f : Addr) (cdv : Value) (base : Heap) (A : Around) (outer : List Env) (s : Shared) (H : Hp) (E : XK) (n : Nat) (cl : Nat → List D → Gh → Rs D) (GS : Gs (XOf P w K mg base ["thing", "where"] "made_ground" (defScope s_made_ground) f cdv A outer s H E) (WOf E) (n + 1))
    (C : ∀ (f : Nat) (d : FDef), Fs[f]? = some d → CallOk P w K mg base (n + 1) d.nm d.np (cl f)) : SSs (XOf P w K mg base ["thing", "where"] "made_ground" (defScope s_made_ground) f cdv A outer s H E) (WOf E) gl cl wf (defBody s_made_ground) F_made_ground.body := by
  have G := GS.toGd
  exact (sss_cons (s_if (t_not (t_val (e_call G (C 6 F_is_triple rfl) (a_cons (e_var 0) a_nil))))
 (sss_cons (s_raise GS (room1 GS) F.ini F.s_BadGround F.m_super F.g_BadGround (e_neg e_int))
 sss_nil)
 sss_nil)
 (sss_cons (s_name G 1 (e_call G (C 5 F_wrong_part rfl) (a_cons (e_var 0) a_nil)))
 (sss_cons (s_if (t_cmp G .isNot (e_var 1) e_non)
 (sss_cons (s_raise GS (room1 GS) F.ini F.s_BadGround F.m_super F.g_BadGround (e_var 1))
 sss_nil)
 sss_nil)
 (sss_cons (s_ret (e_var 0))
 sss_nil))))
theorem ok_is_ground (F : Facts P K mg) (f : Addr) (cdv : Value) (base : Heap) (A : Around) (outer : List Env) (s : Shared) (H : Hp) (E : XK) (n : Nat) (cl : Nat → List D → Gh → Rs D) (GS : Gs (XOf P w K mg base ["thing"] "is_ground" (defScope s_is_ground) f cdv A outer s H E) (WOf E) (n + 1))
    (C : ∀ (f : Nat) (d : FDef), Fs[f]? = some d → CallOk P w K mg base (n + 1) d.nm d.np (cl f)) : SSs (XOf P w K mg base ["thing"] "is_ground" (defScope s_is_ground) f cdv A outer s H E) (WOf E) gl cl wf (defBody s_is_ground) F_is_ground.body := by
  have G := GS.toGd
  exact (sss_cons (s_ret (e_and (e_call G (C 6 F_is_triple rfl) (a_cons (e_var 0) a_nil)) (e_one (e_cmp G .is_ (e_call G (C 5 F_wrong_part rfl) (a_cons (e_var 0) a_nil)) e_non))))
 sss_nil)
theorem ok_all_states (F : Facts P K mg) (f : Addr) (cdv : Value) (base : Heap) (A : Around) (outer : List Env) (s : Shared) (H : Hp) (E : XK) (n : Nat) (cl : Nat → List D → Gh → Rs D) (GS : Gs (XOf P w K mg base ["ground", "found", "_", "size", "state", "value"] "all_states" (defScope s_all_states) f cdv A outer s H E) (WOf E) (n + 1))
    (C : ∀ (f : Nat) (d : FDef), Fs[f]? = some d → CallOk P w K mg base (n + 1) d.nm d.np (cl f)) : SSs (XOf P w K mg base ["ground", "found", "_", "size", "state", "value"] "all_states" (defScope s_all_states) f cdv A outer s H E) (WOf E) gl cl wf (defBody s_all_states) F_all_states.body := by
  have G := GS.toGd
  exact (sss_cons (s_name G 1 (e_lst (a_cons (e_tup a_nil) a_nil)))
 (sss_cons (s_for GS (q_seq (e_ix (e_var 0) e_int)) (i_tp G.calm (gs_cons (g_nm G.hN 2) (gs_cons (g_nm G.hN 3) gs_nil)))
 (sss_cons (s_lc2 G 1 false [("state", 4), ("value", 5)] [5] (q_seq (e_var 1)) (fun _ _ _ _ _ G => (i_nm G.hN 4)) (fun _ _ _ _ _ G => c_no) (fun _ _ _ _ _ G => (q_rng1 F.m_range (e_var 3))) (fun _ _ _ _ _ G => (i_nm G.hN 5)) (fun _ _ _ _ _ G => c_no) (fun _ _ _ _ _ G => (e_bin .add (e_var 4) (e_tup (a_cons (e_var 5) a_nil)))))
 sss_nil))
 (sss_cons (s_ret (e_biT G .tuple F.m_tuple bo_tuple (a_cons (e_var 1) a_nil)))
 sss_nil)))
theorem ok_states (F : Facts P K mg) (f : Addr) (cdv : Value) (base : Heap) (A : Around) (outer : List Env) (s : Shared) (H : Hp) (E : XK) (n : Nat) (cl : Nat → List D → Gh → Rs D) (GS : Gs (XOf P w K mg base ["ground"] "states" (defScope s_states) f cdv A outer s H E) (WOf E) (n + 1))
    (C : ∀ (f : Nat) (d : FDef), Fs[f]? = some d → CallOk P w K mg base (n + 1) d.nm d.np (cl f)) : SSs (XOf P w K mg base ["ground"] "states" (defScope s_states) f cdv A outer s H E) (WOf E) gl cl wf (defBody s_states) F_states.body := by
  have G := GS.toGd
  exact (sss_cons (s_ret (e_call G (C 9 F_all_states rfl) (a_cons (e_call G (C 7 F_made_ground rfl) (a_cons (e_var 0) a_nil)) a_nil)))
 sss_nil)
theorem ok_many_states (F : Facts P K mg) (f : Addr) (cdv : Value) (base : Heap) (A : Around) (outer : List Env) (s : Shared) (H : Hp) (E : XK) (n : Nat) (cl : Nat → List D → Gh → Rs D) (GS : Gs (XOf P w K mg base ["ground"] "many_states" (defScope s_many_states) f cdv A outer s H E) (WOf E) (n + 1))
    (C : ∀ (f : Nat) (d : FDef), Fs[f]? = some d → CallOk P w K mg base (n + 1) d.nm d.np (cl f)) : SSs (XOf P w K mg base ["ground"] "many_states" (defScope s_many_states) f cdv A outer s H E) (WOf E) gl cl wf (defBody s_many_states) F_many_states.body := by
  have G := GS.toGd
  exact (sss_cons (s_ret (e_call G (C 4 F_many_of rfl) (a_cons (e_ix (e_call G (C 7 F_made_ground rfl) (a_cons (e_var 0) a_nil)) e_int) a_nil)))
 sss_nil)
theorem ok_nought_of (F : Facts P K mg) (f : Addr) (cdv : Value) (base : Heap) (A : Around) (outer : List Env) (s : Shared) (H : Hp) (E : XK) (n : Nat) (cl : Nat → List D → Gh → Rs D) (GS : Gs (XOf P w K mg base ["ground", "_"] "nought_of" (defScope s_nought_of) f cdv A outer s H E) (WOf E) (n + 1))
    (C : ∀ (f : Nat) (d : FDef), Fs[f]? = some d → CallOk P w K mg base (n + 1) d.nm d.np (cl f)) : SSs (XOf P w K mg base ["ground", "_"] "nought_of" (defScope s_nought_of) f cdv A outer s H E) (WOf E) gl cl wf (defBody s_nought_of) F_nought_of.body := by
  have G := GS.toGd
  exact (sss_cons (s_ret (e_biT G .tuple F.m_tuple bo_tuple (a_cons (e_lc G false [("_", 1)] (q_seq (e_ix (e_var 0) e_int)) (fun _ _ _ _ _ G => (i_nm G.hN 1)) (fun _ _ _ _ _ G => c_no) (fun _ _ _ _ _ G => e_int)) a_nil)))
 sss_nil)
theorem ok_nought (F : Facts P K mg) (f : Addr) (cdv : Value) (base : Heap) (A : Around) (outer : List Env) (s : Shared) (H : Hp) (E : XK) (n : Nat) (cl : Nat → List D → Gh → Rs D) (GS : Gs (XOf P w K mg base ["ground"] "nought" (defScope s_nought) f cdv A outer s H E) (WOf E) (n + 1))
    (C : ∀ (f : Nat) (d : FDef), Fs[f]? = some d → CallOk P w K mg base (n + 1) d.nm d.np (cl f)) : SSs (XOf P w K mg base ["ground"] "nought" (defScope s_nought) f cdv A outer s H E) (WOf E) gl cl wf (defBody s_nought) F_nought.body := by
  have G := GS.toGd
  exact (sss_cons (s_ret (e_call G (C 12 F_nought_of rfl) (a_cons (e_call G (C 7 F_made_ground rfl) (a_cons (e_var 0) a_nil)) a_nil)))
 sss_nil)
theorem ok__law_pool (F : Facts P K mg) (f : Addr) (cdv : Value) (base : Heap) (A : Around) (outer : List Env) (s : Shared) (H : Hp) (E : XK) (n : Nat) (cl : Nat → List D → Gh → Rs D) (GS : Gs (XOf P w K mg base ["_law_script", "_law_k", "_law_cell", "_law_big", "_law_mixed_here"] "_law_pool" (defScope s__law_pool) f cdv A outer s H E) (WOf E) (n + 1))
    (C : ∀ (f : Nat) (d : FDef), Fs[f]? = some d → CallOk P w K mg base (n + 1) d.nm d.np (cl f)) : SSs (XOf P w K mg base ["_law_script", "_law_k", "_law_cell", "_law_big", "_law_mixed_here"] "_law_pool" (defScope s__law_pool) f cdv A outer s H E) (WOf E) gl cl wf (defBody s__law_pool) F__law_pool.body := by
  have G := GS.toGd
  exact (sss_cons (s_name G 2 e_int)
 (sss_cons (s_if (t_cmp G .lt (e_var 1) (e_biB G .len F.m_len bo_len (a_cons (e_var 0) a_nil)))
 (sss_cons (s_name G 2 (e_ix (e_var 0) (e_var 1)))
 sss_nil)
 (sss_cons (s_if (t_cmp G .ne (e_var 0) (e_lst a_nil))
 (sss_cons (s_name G 2 (e_ix (e_var 0) e_int))
 sss_nil)
 sss_nil)
 sss_nil))
 (sss_cons (s_name G 3 (e_biB G .max2 F.m_max bo_max (a_cons (e_biT G .int F.m_int bo_int (a_cons (e_var 2) a_nil)) (a_cons (e_biT G .int F.m_int bo_int (a_cons (e_bin .sub (e_neg e_int) (e_var 2)) a_nil)) a_nil))))
 (sss_cons (s_name G 4 (e_bin .mod (e_biT G .int F.m_int bo_int (a_cons (e_bin .mul (e_bin .add (e_bin .add (e_bin .add (e_bin .mod (e_biT G .int F.m_int bo_int (a_cons (e_var 3) a_nil)) e_int) (e_bin .mul (e_bin .mul e_int (e_var 1)) (e_var 1))) (e_bin .mul e_int (e_var 1))) e_int) e_int) a_nil)) e_int))
 (sss_cons (s_ret (e_lst (a_cons (e_bin .mul (e_var 3) (e_biT G .int F.m_int bo_int (a_cons (e_and (e_cmp G .ge (e_var 3) (e_bin .pow e_int e_int)) (e_one (e_cmp G .lt (e_var 1) (e_biB G .len F.m_len bo_len (a_cons (e_var 0) a_nil))))) a_nil))) (a_cons (e_var 4) a_nil))))
 sss_nil)))))
theorem ok__law_take (F : Facts P K mg) (f : Addr) (cdv : Value) (base : Heap) (A : Around) (outer : List Env) (s : Shared) (H : Hp) (E : XK) (n : Nat) (cl : Nat → List D → Gh → Rs D) (GS : Gs (XOf P w K mg base ["_law_source", "_law_top", "_law_drawn_here"] "_law_take" (defScope s__law_take) f cdv A outer s H E) (WOf E) (n + 1))
    (C : ∀ (f : Nat) (d : FDef), Fs[f]? = some d → CallOk P w K mg base (n + 1) d.nm d.np (cl f)) : SSs (XOf P w K mg base ["_law_source", "_law_top", "_law_drawn_here"] "_law_take" (defScope s__law_take) f cdv A outer s H E) (WOf E) gl cl wf (defBody s__law_take) F__law_take.body := by
  have G := GS.toGd
  exact (sss_cons (s_if (t_cmp G .gt (e_ix (e_var 0) e_int) e_int)
 (sss_cons (s_name G 2 (e_bin .mod (e_biT G .int F.m_int bo_int (a_cons (e_ix (e_var 0) e_int) a_nil)) (e_var 1)))
 (sss_cons (s_sub (e_var 0) e_int (e_bin .fdiv (e_ix (e_var 0) e_int) (e_var 1)))
 (sss_cons (s_ret (e_var 2))
 sss_nil)))
 sss_nil)
 (sss_cons (s_sub (e_var 0) e_int (e_bin .mod (e_biT G .int F.m_int bo_int (a_cons (e_bin .add (e_bin .mul (e_ix (e_var 0) e_int) e_int) e_int) a_nil)) e_int))
 (sss_cons (s_ret (e_bin .mod (e_biT G .int F.m_int bo_int (a_cons (e_bin .fdiv (e_bin .mod (e_biT G .int F.m_int bo_int (a_cons (e_bin .mul (e_ix (e_var 0) e_int) (e_ix (e_var 0) e_int)) a_nil)) e_int) e_int) a_nil)) (e_var 1)))
 sss_nil)))
theorem ok__law_one (F : Facts P K mg) (f : Addr) (cdv : Value) (base : Heap) (A : Around) (outer : List Env) (s : Shared) (H : Hp) (E : XK) (n : Nat) (cl : Nat → List D → Gh → Rs D) (GS : Gs (XOf P w K mg base ["_law_source", "_law_things"] "_law_one" (defScope s__law_one) f cdv A outer s H E) (WOf E) (n + 1))
    (C : ∀ (f : Nat) (d : FDef), Fs[f]? = some d → CallOk P w K mg base (n + 1) d.nm d.np (cl f)) : SSs (XOf P w K mg base ["_law_source", "_law_things"] "_law_one" (defScope s__law_one) f cdv A outer s H E) (WOf E) gl cl wf (defBody s__law_one) F__law_one.body := by
  have G := GS.toGd
  exact (sss_cons (s_ret (e_ix (e_var 1) (e_call G (C 15 F__law_take rfl) (a_cons (e_var 0) (a_cons (e_biB G .len F.m_len bo_len (a_cons (e_var 1) a_nil)) a_nil)))))
 sss_nil)
theorem ok__law_mixed (F : Facts P K mg) (f : Addr) (cdv : Value) (base : Heap) (A : Around) (outer : List Env) (s : Shared) (H : Hp) (E : XK) (n : Nat) (cl : Nat → List D → Gh → Rs D) (GS : Gs (XOf P w K mg base ["_law_source", "_law_things", "_law_left", "_law_found", "_law_turn"] "_law_mixed" (defScope s__law_mixed) f cdv A outer s H E) (WOf E) (n + 1))
    (C : ∀ (f : Nat) (d : FDef), Fs[f]? = some d → CallOk P w K mg base (n + 1) d.nm d.np (cl f)) : SSs (XOf P w K mg base ["_law_source", "_law_things", "_law_left", "_law_found", "_law_turn"] "_law_mixed" (defScope s__law_mixed) f cdv A outer s H E) (WOf E) gl cl wf (defBody s__law_mixed) F__law_mixed.body := by
  have G := GS.toGd
  exact (sss_cons (s_par G 2 3 (e_mlist G F.m_list (e_var 1)) (e_lst a_nil))
 (sss_cons (s_for GS (q_rng1 F.m_range (e_biB G .len F.m_len bo_len (a_cons (e_var 1) a_nil))) (i_nm G.hN 4)
 (sss_cons (s_expr (e_mth .append PySem.F.slot_list_append PySem.F.type_list_append (e_var 3) (a_cons (e_mth .popAt PySem.F.slot_list_pop PySem.F.type_list_pop (e_var 2) (a_cons (e_call G (C 15 F__law_take rfl) (a_cons (e_var 0) (a_cons (e_biB G .len F.m_len bo_len (a_cons (e_var 2) a_nil)) a_nil))) a_nil)) a_nil)))
 sss_nil))
 (sss_cons (s_ret (e_var 3))
 sss_nil)))
theorem ok__law_states (F : Facts P K mg) (f : Addr) (cdv : Value) (base : Heap) (A : Around) (outer : List Env) (s : Shared) (H : Hp) (E : XK) (n : Nat) (cl : Nat → List D → Gh → Rs D) (GS : Gs (XOf P w K mg base ["_law_ground", "_law_found", "_law_cell", "_law_longer", "_law_state", "_law_value"] "_law_states" (defScope s__law_states) f cdv A outer s H E) (WOf E) (n + 1))
    (C : ∀ (f : Nat) (d : FDef), Fs[f]? = some d → CallOk P w K mg base (n + 1) d.nm d.np (cl f)) : SSs (XOf P w K mg base ["_law_ground", "_law_found", "_law_cell", "_law_longer", "_law_state", "_law_value"] "_law_states" (defScope s__law_states) f cdv A outer s H E) (WOf E) gl cl wf (defBody s__law_states) F__law_states.body := by
  have G := GS.toGd
  exact (sss_cons (s_name G 1 (e_lst (a_cons (e_tup a_nil) a_nil)))
 (sss_cons (s_for GS (q_seq (e_ix (e_var 0) e_int)) (i_nm G.hN 2)
 (sss_cons (s_name G 3 (e_lst a_nil))
 (sss_cons (s_for GS (q_seq (e_var 1)) (i_nm G.hN 4)
 (sss_cons (s_expr (e_mth .extend PySem.F.slot_list_extend PySem.F.type_list_extend (e_var 3) (a_cons (e_lc G false [("_law_value", 5)] (q_rng1 F.m_range (e_ix (e_var 2) e_int)) (fun _ _ _ _ _ G => (i_nm G.hN 5)) (fun _ _ _ _ _ G => c_no) (fun _ _ _ _ _ G => (e_bin .add (e_var 4) (e_tup (a_cons (e_var 5) a_nil))))) a_nil)))
 sss_nil))
 (sss_cons (s_name G 1 (e_var 3))
 sss_nil))))
 (sss_cons (s_ret (e_var 1))
 sss_nil)))
theorem ok__law_heard (F : Facts P K mg) (f : Addr) (cdv : Value) (base : Heap) (A : Around) (outer : List Env) (s : Shared) (H : Hp) (E : XK) (n : Nat) (cl : Nat → List D → Gh → Rs D) (GS : Gs (XOf P w K mg base ["_law_thing", "error"] "_law_heard" (defScope s__law_heard) f cdv A outer s H E) (WOf E) (n + 1))
    (C : ∀ (f : Nat) (d : FDef), Fs[f]? = some d → CallOk P w K mg base (n + 1) d.nm d.np (cl f)) : SSs (XOf P w K mg base ["_law_thing", "error"] "_law_heard" (defScope s__law_heard) f cdv A outer s H E) (WOf E) gl cl wf (defBody s__law_heard) F__law_heard.body := by
  have G := GS.toGd
  exact (sss_cons (s_tryR GS 1 (cs := xcls) F.g_Refused F.tm_Refused tm_Refused_in (fun _ _ _ G => (e_tup (a_cons e_str (a_cons (e_call G (C 7 F_made_ground rfl) (a_cons (e_var 0) a_nil)) a_nil)))) (fun _ _ _ _ _ hz hf => (h_tup (ha_cons (h_c e_str) (ha_cons (h_what hz hf F.exi) (ha_cons (h_and (h_isO hz hf F.m_isinstance F.g_BadGround F.ti_BadGround) (h_one (h_isB "ValueError" hz hf F.m_isinstance F.m_ValueError bo_ValueError F.ti_ValueError))) ha_nil))))))
 sss_nil)
theorem ok__law_is_name (F : Facts P K mg) (f : Addr) (cdv : Value) (base : Heap) (A : Around) (outer : List Env) (s : Shared) (H : Hp) (E : XK) (n : Nat) (cl : Nat → List D → Gh → Rs D) (GS : Gs (XOf P w K mg base ["_law_name", "_law_letters", "_law_sign", "_law_words"] "_law_is_name" (defScope s__law_is_name) f cdv A outer s H E) (WOf E) (n + 1))
    (C : ∀ (f : Nat) (d : FDef), Fs[f]? = some d → CallOk P w K mg base (n + 1) d.nm d.np (cl f)) : SSs (XOf P w K mg base ["_law_name", "_law_letters", "_law_sign", "_law_words"] "_law_is_name" (defScope s__law_is_name) f cdv A outer s H E) (WOf E) gl cl wf (defBody s__law_is_name) F__law_is_name.body := by
  have G := GS.toGd
  exact (sss_cons (s_if (t_sw (w_or (t_not (t_val (e_isi "str" (e_var 0) F.m_isinstance F.m_str bo_str))) (w_or1 (t_not (t_chn G .le .le e_int (e_biB G .len F.m_len bo_len (a_cons (e_var 0) a_nil)) e_int)))))
 (sss_cons (s_ret e_bl)
 sss_nil)
 sss_nil)
 (sss_cons (s_name G 1 e_str)
 (sss_cons (s_if (t_sw (w_or (t_cmp G .notIn (e_ix (e_var 0) e_int) (e_var 1)) (w_or1 (t_cmp G .ne (e_lc G false [("_law_sign", 2)] (q_seq (e_var 0)) (fun _ _ _ _ _ G => (i_nm G.hN 2)) (fun _ _ _ _ _ G => (c_so (t_cmp G .notIn (e_var 2) (e_bin .add (e_var 1) e_str)))) (fun _ _ _ _ _ G => (e_var 2))) (e_lst a_nil)))))
 (sss_cons (s_ret e_bl)
 sss_nil)
 sss_nil)
 (sss_cons (s_name G 3 (e_lst (a_cons e_str (a_cons e_str (a_cons e_str (a_cons e_str (a_cons e_str (a_cons e_str (a_cons e_str (a_cons e_str (a_cons e_str (a_cons e_str (a_cons e_str (a_cons e_str a_nil))))))))))))))
 (sss_cons (s_ret (e_cmp G .notIn (e_var 0) (e_var 3)))
 sss_nil)))))
theorem ok__law_is_number (F : Facts P K mg) (f : Addr) (cdv : Value) (base : Heap) (A : Around) (outer : List Env) (s : Shared) (H : Hp) (E : XK) (n : Nat) (cl : Nat → List D → Gh → Rs D) (GS : Gs (XOf P w K mg base ["_law_thing", "_law_low", "_law_high"] "_law_is_number" (defScope s__law_is_number) f cdv A outer s H E) (WOf E) (n + 1))
    (C : ∀ (f : Nat) (d : FDef), Fs[f]? = some d → CallOk P w K mg base (n + 1) d.nm d.np (cl f)) : SSs (XOf P w K mg base ["_law_thing", "_law_low", "_law_high"] "_law_is_number" (defScope s__law_is_number) f cdv A outer s H E) (WOf E) gl cl wf (defBody s__law_is_number) F__law_is_number.body := by
  have G := GS.toGd
  exact (sss_cons (s_ret (e_and (e_isi "int" (e_var 0) F.m_isinstance F.m_int bo_int) (e_and (e_not (e_isi "bool" (e_var 0) F.m_isinstance F.m_bool bo_bool)) (e_one (e_chn G .le .le (e_var 1) (e_var 0) (e_var 2))))))
 sss_nil)
theorem ok__law_entry_name (F : Facts P K mg) (f : Addr) (cdv : Value) (base : Heap) (A : Around) (outer : List Env) (s : Shared) (H : Hp) (E : XK) (n : Nat) (cl : Nat → List D → Gh → Rs D) (GS : Gs (XOf P w K mg base ["_law_part", "_law_entry"] "_law_entry_name" (defScope s__law_entry_name) f cdv A outer s H E) (WOf E) (n + 1))
    (C : ∀ (f : Nat) (d : FDef), Fs[f]? = some d → CallOk P w K mg base (n + 1) d.nm d.np (cl f)) : SSs (XOf P w K mg base ["_law_part", "_law_entry"] "_law_entry_name" (defScope s__law_entry_name) f cdv A outer s H E) (WOf E) gl cl wf (defBody s__law_entry_name) F__law_entry_name.body := by
  have G := GS.toGd
  exact (sss_cons (s_if (t_cmp G .eq (e_var 0) e_int)
 (sss_cons (s_ret (e_ite (t_val (e_call G (C 20 F__law_is_name rfl) (a_cons (e_var 1) a_nil))) (e_var 1) e_non))
 sss_nil)
 sss_nil)
 (sss_cons (s_if (t_sw (w_or (t_not (t_val (e_isi "tuple" (e_var 1) F.m_isinstance F.m_tuple bo_tuple))) (w_or (t_cmp G .ne (e_biB G .len F.m_len bo_len (a_cons (e_var 1) a_nil)) e_int) (w_or1 (t_not (t_val (e_call G (C 20 F__law_is_name rfl) (a_cons (e_ix (e_var 1) e_int) a_nil))))))))
 (sss_cons (s_ret e_non)
 sss_nil)
 sss_nil)
 (sss_cons (s_ret (e_ite (t_val (e_call G (C 21 F__law_is_number rfl) (a_cons (e_ix (e_var 1) e_int) (a_cons e_int (a_cons (e_ix (e_lst (a_cons e_int (a_cons e_int a_nil))) (e_var 0)) a_nil))))) (e_ix (e_var 1) e_int) e_non))
 sss_nil)))
theorem ok__law_fault (F : Facts P K mg) (f : Addr) (cdv : Value) (base : Heap) (A : Around) (outer : List Env) (s : Shared) (H : Hp) (E : XK) (n : Nat) (cl : Nat → List D → Gh → Rs D) (GS : Gs (XOf P w K mg base ["_law_thing", "_law_part", "_law_met", "_law_many", "_law_at", "_law_name"] "_law_fault" (defScope s__law_fault) f cdv A outer s H E) (WOf E) (n + 1))
    (C : ∀ (f : Nat) (d : FDef), Fs[f]? = some d → CallOk P w K mg base (n + 1) d.nm d.np (cl f)) : SSs (XOf P w K mg base ["_law_thing", "_law_part", "_law_met", "_law_many", "_law_at", "_law_name"] "_law_fault" (defScope s__law_fault) f cdv A outer s H E) (WOf E) gl cl wf (defBody s__law_fault) F__law_fault.body := by
  have G := GS.toGd
  exact (sss_cons (s_if (t_sw (w_or (t_not (t_val (e_isi "tuple" (e_var 0) F.m_isinstance F.m_tuple bo_tuple))) (w_or (t_cmp G .ne (e_biB G .len F.m_len bo_len (a_cons (e_var 0) a_nil)) e_int) (w_or1 (t_cmp G .ne (e_lc G false [("_law_part", 1)] (q_seq (e_var 0)) (fun _ _ _ _ _ G => (i_nm G.hN 1)) (fun _ _ _ _ _ G => (c_so (t_not (t_val (e_isi "tuple" (e_var 1) F.m_isinstance F.m_tuple bo_tuple))))) (fun _ _ _ _ _ G => (e_var 1))) (e_lst a_nil))))))
 (sss_cons (s_ret (e_neg e_int))
 sss_nil)
 sss_nil)
 (sss_cons (s_name G 2 (e_lst a_nil))
 (sss_cons (s_for GS (q_rng1 F.m_range e_int) (i_nm G.hN 1)
 (sss_cons (s_if (t_sw (w_or (t_cmp G .gt (e_biB G .len F.m_len bo_len (a_cons (e_ix (e_var 0) (e_var 1)) a_nil)) (e_ix (e_lst (a_cons e_int (a_cons e_int (a_cons e_int a_nil)))) (e_var 1))) (w_or1 (t_sw (w_and (t_cmp G .eq (e_var 1) e_int) (w_and1 (t_cmp G .eq (e_ix (e_var 0) (e_var 1)) (e_tup a_nil))))))))
 (sss_cons (s_ret (e_tup (a_cons (e_var 1) (a_cons (e_neg e_int) a_nil))))
 sss_nil)
 sss_nil)
 (sss_cons (s_name G 3 e_int)
 (sss_cons (s_for GS (q_rng1 F.m_range (e_biB G .len F.m_len bo_len (a_cons (e_ix (e_var 0) (e_var 1)) a_nil))) (i_nm G.hN 4)
 (sss_cons (s_name G 5 (e_call G (C 22 F__law_entry_name rfl) (a_cons (e_var 1) (a_cons (e_ix (e_ix (e_var 0) (e_var 1)) (e_var 4)) a_nil))))
 (sss_cons (s_if (t_sw (w_or (t_cmp G .is_ (e_var 5) e_non) (w_or1 (t_cmp G .isIn (e_var 5) (e_var 2)))))
 (sss_cons (s_ret (e_tup (a_cons (e_var 1) (a_cons (e_var 4) a_nil))))
 sss_nil)
 sss_nil)
 (sss_cons (s_expr (e_mth .append PySem.F.slot_list_append PySem.F.type_list_append (e_var 2) (a_cons (e_var 5) a_nil)))
 (sss_cons (s_name G 3 (e_bin .mul (e_var 3) (e_ite (t_cmp G .eq (e_var 1) e_int) (e_ix (e_ix (e_ix (e_var 0) (e_var 1)) (e_var 4)) e_int) e_int)))
 sss_nil)))))
 (sss_cons (s_if (t_cmp G .gt (e_var 3) e_int)
 (sss_cons (s_ret (e_tup (a_cons (e_var 1) (a_cons (e_neg e_int) a_nil))))
 sss_nil)
 sss_nil)
 sss_nil)))))
 (sss_cons (s_ret e_non)
 sss_nil))))
theorem ok__law_names (F : Facts P K mg) (f : Addr) (cdv : Value) (base : Heap) (A : Around) (outer : List Env) (s : Shared) (H : Hp) (E : XK) (n : Nat) (cl : Nat → List D → Gh → Rs D) (GS : Gs (XOf P w K mg base ["_law_source", "_law_some"] "_law_names" (defScope s__law_names) f cdv A outer s H E) (WOf E) (n + 1))
    (C : ∀ (f : Nat) (d : FDef), Fs[f]? = some d → CallOk P w K mg base (n + 1) d.nm d.np (cl f)) : SSs (XOf P w K mg base ["_law_source", "_law_some"] "_law_names" (defScope s__law_names) f cdv A outer s H E) (WOf E) gl cl wf (defBody s__law_names) F__law_names.body := by
  have G := GS.toGd
  exact (sss_cons (s_name G 1 (e_lst (a_cons e_str (a_cons e_str (a_cons e_str (a_cons e_str (a_cons e_str (a_cons e_str (a_cons e_str (a_cons e_str (a_cons e_str (a_cons e_str (a_cons e_str (a_cons e_str (a_cons e_str (a_cons e_str a_nil))))))))))))))))
 (sss_cons (s_ret (e_call G (C 17 F__law_mixed rfl) (a_cons (e_var 0) (a_cons (e_var 1) a_nil))))
 sss_nil))
theorem ok__law_drawn (F : Facts P K mg) (f : Addr) (cdv : Value) (base : Heap) (A : Around) (outer : List Env) (s : Shared) (H : Hp) (E : XK) (n : Nat) (cl : Nat → List D → Gh → Rs D) (GS : Gs (XOf P w K mg base ["_law_source", "_law_names_here", "_law_cells", "_law_room", "_law_at", "_law_size", "_law_kinds"] "_law_drawn" (defScope s__law_drawn) f cdv A outer s H E) (WOf E) (n + 1))
    (C : ∀ (f : Nat) (d : FDef), Fs[f]? = some d → CallOk P w K mg base (n + 1) d.nm d.np (cl f)) : SSs (XOf P w K mg base ["_law_source", "_law_names_here", "_law_cells", "_law_room", "_law_at", "_law_size", "_law_kinds"] "_law_drawn" (defScope s__law_drawn) f cdv A outer s H E) (WOf E) gl cl wf (defBody s__law_drawn) F__law_drawn.body := by
  have G := GS.toGd
  exact (sss_cons (s_par3C G 1 2 3 (e_call G (C 24 F__law_names rfl) (a_cons (e_var 0) a_nil)) (e_lst a_nil) e_int (gs_cons (g_nm G.hN 1) (gs_cons (g_nm G.hN 2) (gs_cons (g_nm G.hN 3) gs_nil))))
 (sss_cons (s_for GS (q_rng1 F.m_range (e_call G (C 15 F__law_take rfl) (a_cons (e_var 0) (a_cons e_int a_nil)))) (i_nm G.hN 4)
 (sss_cons (s_name G 5 (e_call G (C 16 F__law_one rfl) (a_cons (e_var 0) (a_cons (e_lst (a_cons e_int (a_cons e_int (a_cons (e_biB G .min2 F.m_min bo_min (a_cons e_int (a_cons (e_var 3) a_nil))) (a_cons (e_bin .add e_int (e_call G (C 15 F__law_take rfl) (a_cons (e_var 0) (a_cons (e_biB G .min2 F.m_min bo_min (a_cons e_int (a_cons (e_var 3) a_nil))) a_nil)))) a_nil))))) a_nil))))
 (sss_cons (s_name G 5 (e_biB G .min2 F.m_min bo_min (a_cons (e_var 5) (a_cons (e_var 3) a_nil))))
 (sss_cons (s_expr (e_mth .append PySem.F.slot_list_append PySem.F.type_list_append (e_var 2) (a_cons (e_tup (a_cons (e_mth0 .pop PySem.F.slot_list_pop PySem.F.type_list_pop (e_var 1)) (a_cons (e_var 5) a_nil))) a_nil)))
 (sss_cons (s_name G 3 (e_bin .fdiv (e_var 3) (e_var 5)))
 sss_nil)))))
 (sss_cons (s_name G 6 (e_lst a_nil))
 (sss_cons (s_for GS (q_rng1 F.m_range (e_call G (C 15 F__law_take rfl) (a_cons (e_var 0) (a_cons e_int a_nil)))) (i_nm G.hN 4)
 (sss_cons (s_expr (e_mth .append PySem.F.slot_list_append PySem.F.type_list_append (e_var 6) (a_cons (e_tup (a_cons (e_mth0 .pop PySem.F.slot_list_pop PySem.F.type_list_pop (e_var 1)) (a_cons (e_call G (C 16 F__law_one rfl) (a_cons (e_var 0) (a_cons (e_lst (a_cons e_int (a_cons e_int (a_cons (e_bin .add e_int (e_call G (C 15 F__law_take rfl) (a_cons (e_var 0) (a_cons e_int a_nil)))) a_nil)))) a_nil))) a_nil))) a_nil)))
 sss_nil))
 (sss_cons (s_ret (e_tup (a_cons (e_biT G .tuple F.m_tuple bo_tuple (a_cons (e_var 2) a_nil)) (a_cons (e_biT G .tuple F.m_tuple bo_tuple (a_cons (e_var 6) a_nil)) (a_cons (e_biT G .tuple F.m_tuple bo_tuple (a_cons (e_lc G false [("_law_at", 4)] (q_rng1 F.m_range (e_bin .add e_int (e_call G (C 15 F__law_take rfl) (a_cons (e_var 0) (a_cons e_int a_nil))))) (fun _ _ _ _ _ G => (i_nm G.hN 4)) (fun _ _ _ _ _ G => c_no) (fun _ _ _ _ _ G => (e_mth0 .pop PySem.F.slot_list_pop PySem.F.type_list_pop (e_var 1)))) a_nil)) a_nil)))))
 sss_nil)))))
theorem ok__law_odd_entry (F : Facts P K mg) (f : Addr) (cdv : Value) (base : Heap) (A : Around) (outer : List Env) (s : Shared) (H : Hp) (E : XK) (n : Nat) (cl : Nat → List D → Gh → Rs D) (GS : Gs (XOf P w K mg base ["_law_source", "_law_ground", "_law_part", "_law_some", "_law_name", "_law_number"] "_law_odd_entry" (defScope s__law_odd_entry) f cdv A outer s H E) (WOf E) (n + 1))
    (C : ∀ (f : Nat) (d : FDef), Fs[f]? = some d → CallOk P w K mg base (n + 1) d.nm d.np (cl f)) : SSs (XOf P w K mg base ["_law_source", "_law_ground", "_law_part", "_law_some", "_law_name", "_law_number"] "_law_odd_entry" (defScope s__law_odd_entry) f cdv A outer s H E) (WOf E) gl cl wf (defBody s__law_odd_entry) F__law_odd_entry.body := by
  have G := GS.toGd
  exact (sss_cons (s_name G 3 (e_bin .add (e_lc G false [("_law_part", 2)] (q_seq (e_bin .add (e_ix (e_var 1) e_int) (e_ix (e_var 1) e_int))) (fun _ _ _ _ _ G => (i_nm G.hN 2)) (fun _ _ _ _ _ G => c_no) (fun _ _ _ _ _ G => (e_ix (e_var 2) e_int))) (e_biT G .list F.m_list bo_list (a_cons (e_ix (e_var 1) e_int) a_nil))))
 (sss_cons (s_name G 4 (e_call G (C 16 F__law_one rfl) (a_cons (e_var 0) (a_cons (e_bin .add (e_lst (a_cons e_str (a_cons e_str (a_cons e_str (a_cons e_str (a_cons e_str (a_cons e_str (a_cons e_str (a_cons e_str (a_cons e_str (a_cons e_non (a_cons e_int a_nil)))))))))))) (e_var 3)) a_nil))))
 (sss_cons (s_if (t_cmp G .eq (e_var 2) e_int)
 (sss_cons (s_ret (e_call G (C 16 F__law_one rfl) (a_cons (e_var 0) (a_cons (e_lst (a_cons (e_var 4) (a_cons (e_var 4) (a_cons (e_tup (a_cons e_str (a_cons e_int a_nil))) a_nil)))) a_nil))))
 sss_nil)
 sss_nil)
 (sss_cons (s_name G 5 (e_call G (C 16 F__law_one rfl) (a_cons (e_var 0) (a_cons (e_lst (a_cons e_int (a_cons (e_neg e_int) (a_cons e_int (a_cons e_int (a_cons e_int (a_cons e_int (a_cons (e_bin .pow e_int e_int) (a_cons e_non (a_cons e_str (a_cons e_bl (a_cons e_int a_nil)))))))))))) a_nil))))
 (sss_cons (s_ret (e_call G (C 16 F__law_one rfl) (a_cons (e_var 0) (a_cons (e_lst (a_cons (e_tup (a_cons (e_var 4) (a_cons e_int a_nil))) (a_cons (e_tup (a_cons e_str (a_cons (e_var 5) a_nil))) (a_cons (e_tup (a_cons e_str a_nil)) (a_cons (e_tup (a_cons e_str (a_cons e_int (a_cons e_int a_nil)))) (a_cons e_str (a_cons e_non (a_cons (e_tup (a_cons (e_var 4) (a_cons (e_var 5) a_nil))) a_nil)))))))) a_nil))))
 sss_nil)))))
theorem ok__law_spoilt (F : Facts P K mg) (f : Addr) (cdv : Value) (base : Heap) (A : Around) (outer : List Env) (s : Shared) (H : Hp) (E : XK) (n : Nat) (cl : Nat → List D → Gh → Rs D) (GS : Gs (XOf P w K mg base ["_law_source", "_law_ground", "_law_thing", "_law_part", "_law_way", "_law_row", "_law_at"] "_law_spoilt" (defScope s__law_spoilt) f cdv A outer s H E) (WOf E) (n + 1))
    (C : ∀ (f : Nat) (d : FDef), Fs[f]? = some d → CallOk P w K mg base (n + 1) d.nm d.np (cl f)) : SSs (XOf P w K mg base ["_law_source", "_law_ground", "_law_thing", "_law_part", "_law_way", "_law_row", "_law_at"] "_law_spoilt" (defScope s__law_spoilt) f cdv A outer s H E) (WOf E) gl cl wf (defBody s__law_spoilt) F__law_spoilt.body := by
  have G := GS.toGd
  exact (sss_cons (s_par G 3 4 (e_call G (C 15 F__law_take rfl) (a_cons (e_var 0) (a_cons e_int a_nil))) (e_call G (C 15 F__law_take rfl) (a_cons (e_var 0) (a_cons e_int a_nil))))
 (sss_cons (s_name G 5 (e_ix (e_var 2) (e_var 3)))
 (sss_cons (s_if (t_cmp G .eq (e_var 4) e_int)
 (sss_cons (s_name G 5 (e_bin .add (e_var 5) (e_biT G .tuple F.m_tuple bo_tuple (a_cons (e_lc G false [("_law_at", 6)] (q_rng1 F.m_range e_int) (fun _ _ _ _ _ G => (i_nm G.hN 6)) (fun _ _ _ _ _ G => c_no) (fun _ _ _ _ _ G => (e_call G (C 16 F__law_one rfl) (a_cons (e_var 0) (a_cons (e_lst (a_cons e_str (a_cons (e_tup (a_cons e_str (a_cons e_int a_nil))) a_nil))) a_nil))))) a_nil))))
 sss_nil)
 (sss_cons (s_if (t_cmp G .eq (e_var 4) e_int)
 (sss_cons (s_name G 5 (e_tup a_nil))
 sss_nil)
 (sss_cons (s_if (t_sw (w_and (t_cmp G .eq (e_var 4) e_int) (w_and1 (t_cmp G .eq (e_var 3) e_int))))
 (sss_cons (s_name G 5 (e_tup (a_cons (e_tup (a_cons e_str (a_cons e_int a_nil))) (a_cons (e_tup (a_cons e_str (a_cons e_int a_nil))) (a_cons (e_tup (a_cons e_str (a_cons (e_call G (C 16 F__law_one rfl) (a_cons (e_var 0) (a_cons (e_lst (a_cons e_int (a_cons e_int a_nil))) a_nil))) a_nil))) a_nil)))))
 sss_nil)
 (sss_cons (s_if (t_cmp G .eq (e_var 4) e_int)
 (sss_cons (s_name G 5 (e_call G (C 16 F__law_one rfl) (a_cons (e_var 0) (a_cons (e_lst (a_cons e_non (a_cons e_str (a_cons e_int (a_cons (e_var 5) a_nil))))) a_nil))))
 sss_nil)
 (sss_cons (s_name G 6 (e_call G (C 15 F__law_take rfl) (a_cons (e_var 0) (a_cons (e_bin .add (e_biB G .len F.m_len bo_len (a_cons (e_var 5) a_nil)) e_int) a_nil))))
 (sss_cons (s_name G 5 (e_bin .add (e_bin .add (e_sl (e_var 5) o_no (o_so (e_var 6))) (e_tup (a_cons (e_call G (C 26 F__law_odd_entry rfl) (a_cons (e_var 0) (a_cons (e_var 1) (a_cons (e_var 3) a_nil)))) a_nil))) (e_sl (e_var 5) (o_so (e_bin .add (e_var 6) (e_biT G .int F.m_int bo_int (a_cons (e_cmp G .gt (e_var 4) e_int) a_nil)))) o_no)))
 sss_nil)))
 sss_nil))
 sss_nil))
 sss_nil))
 (sss_cons (s_ret (e_bin .add (e_bin .add (e_sl (e_var 2) o_no (o_so (e_var 3))) (e_tup (a_cons (e_var 5) a_nil))) (e_sl (e_var 2) (o_so (e_bin .add (e_var 3) e_int)) o_no)))
 sss_nil))))
theorem ok__law_thing_right (F : Facts P K mg) (f : Addr) (cdv : Value) (base : Heap) (A : Around) (outer : List Env) (s : Shared) (H : Hp) (E : XK) (n : Nat) (cl : Nat → List D → Gh → Rs D) (GS : Gs (XOf P w K mg base ["_law_thing", "_law_fault_here", "_law_due"] "_law_thing_right" (defScope s__law_thing_right) f cdv A outer s H E) (WOf E) (n + 1))
    (C : ∀ (f : Nat) (d : FDef), Fs[f]? = some d → CallOk P w K mg base (n + 1) d.nm d.np (cl f)) : SSs (XOf P w K mg base ["_law_thing", "_law_fault_here", "_law_due"] "_law_thing_right" (defScope s__law_thing_right) f cdv A outer s H E) (WOf E) gl cl wf (defBody s__law_thing_right) F__law_thing_right.body := by
  have G := GS.toGd
  exact (sss_cons (s_name G 1 (e_call G (C 23 F__law_fault rfl) (a_cons (e_var 0) a_nil)))
 (sss_cons (s_name G 2 (e_ite (t_cmp G .is_ (e_var 1) e_non) (e_tup (a_cons e_str (a_cons (e_var 0) a_nil))) (e_tup (a_cons e_str (a_cons (e_var 1) (a_cons e_bl a_nil))))))
 (sss_cons (s_ret (e_and (e_cmp G .eq (e_biB G .repr F.m_repr bo_repr (a_cons (e_call G (C 19 F__law_heard rfl) (a_cons (e_var 0) a_nil)) a_nil)) (e_biB G .repr F.m_repr bo_repr (a_cons (e_var 2) a_nil))) (e_one (e_cmp G .eq (e_biB G .repr F.m_repr bo_repr (a_cons (e_call G (C 8 F_is_ground rfl) (a_cons (e_var 0) a_nil)) a_nil)) (e_biB G .repr F.m_repr bo_repr (a_cons (e_cmp G .is_ (e_var 1) e_non) a_nil))))))
 sss_nil)))
theorem ok_law (F : Facts P K mg) (f : Addr) (cdv : Value) (base : Heap) (A : Around) (outer : List Env) (s : Shared) (H : Hp) (E : XK) (n : Nat) (cl : Nat → List D → Gh → Rs D) (GS : Gs (XOf P w K mg base ["_law_script", "_law_source", "_law_ground", "_law_own", "_law_turn", "_law_bent", "_law_part", "_law_thing"] "law" (defScope s_law) f cdv A outer s H E) (WOf E) (n + 1))
    (C : ∀ (f : Nat) (d : FDef), Fs[f]? = some d → CallOk P w K mg base (n + 1) d.nm d.np (cl f)) : SSs (XOf P w K mg base ["_law_script", "_law_source", "_law_ground", "_law_own", "_law_turn", "_law_bent", "_law_part", "_law_thing"] "law" (defScope s_law) f cdv A outer s H E) (WOf E) gl cl wf (defBody s_law) F_law.body := by
  have G := GS.toGd
  exact (sss_cons (s_name G 1 (e_call G (C 14 F__law_pool rfl) (a_cons (e_var 0) (a_cons e_int a_nil))))
 (sss_cons (s_name G 2 (e_call G (C 25 F__law_drawn rfl) (a_cons (e_var 1) a_nil)))
 (sss_cons (s_name G 3 (e_call G (C 18 F__law_states rfl) (a_cons (e_var 2) a_nil)))
 (sss_cons (s_if (t_sw (w_or (t_cmp G .isNot (e_call G (C 23 F__law_fault rfl) (a_cons (e_var 2) a_nil)) e_non) (w_or (t_not (t_val (e_call G (C 28 F__law_thing_right rfl) (a_cons (e_var 2) a_nil)))) (w_or1 (t_cmp G .ne (e_biB G .repr F.m_repr bo_repr (a_cons (e_call G (C 10 F_states rfl) (a_cons (e_var 2) a_nil)) a_nil)) (e_biB G .repr F.m_repr bo_repr (a_cons (e_biT G .tuple F.m_tuple bo_tuple (a_cons (e_var 3) a_nil)) a_nil)))))))
 (sss_cons (s_ret e_bl)
 sss_nil)
 sss_nil)
 (sss_cons (s_if (t_sw (w_or (t_cmp G .ne (e_biB G .repr F.m_repr bo_repr (a_cons (e_call G (C 11 F_many_states rfl) (a_cons (e_var 2) a_nil)) a_nil)) (e_biB G .repr F.m_repr bo_repr (a_cons (e_biB G .len F.m_len bo_len (a_cons (e_var 3) a_nil)) a_nil))) (w_or1 (t_cmp G .ne (e_biB G .repr F.m_repr bo_repr (a_cons (e_call G (C 13 F_nought rfl) (a_cons (e_var 2) a_nil)) a_nil)) (e_biB G .repr F.m_repr bo_repr (a_cons (e_bin .mul (e_tup (a_cons e_int a_nil)) (e_biB G .len F.m_len bo_len (a_cons (e_ix (e_var 2) e_int) a_nil))) a_nil))))))
 (sss_cons (s_ret e_bl)
 sss_nil)
 sss_nil)
 (sss_cons (s_for GS (q_rng1 F.m_range e_int) (i_nm G.hN 4)
 (sss_cons (s_name G 5 (e_call G (C 27 F__law_spoilt rfl) (a_cons (e_var 1) (a_cons (e_var 2) (a_cons (e_var 2) a_nil)))))
 (sss_cons (s_if (t_not (t_val (e_call G (C 28 F__law_thing_right rfl) (a_cons (e_var 5) a_nil))))
 (sss_cons (s_ret e_bl)
 sss_nil)
 sss_nil)
 (sss_cons (s_if (t_sw (w_and (t_val (e_isi "tuple" (e_var 5) F.m_isinstance F.m_tuple bo_tuple)) (w_and1 (t_cmp G .eq (e_lc G false [("_law_part", 6)] (q_seq (e_var 5)) (fun _ _ _ _ _ G => (i_nm G.hN 6)) (fun _ _ _ _ _ G => (c_so (t_not (t_val (e_isi "tuple" (e_var 6) F.m_isinstance F.m_tuple bo_tuple))))) (fun _ _ _ _ _ G => (e_var 6))) (e_lst a_nil)))))
 (sss_cons (s_if (t_not (t_val (e_call G (C 28 F__law_thing_right rfl) (a_cons (e_call G (C 27 F__law_spoilt rfl) (a_cons (e_var 1) (a_cons (e_var 2) (a_cons (e_bin .add (e_sl (e_var 2) o_no (o_so e_int)) (e_sl (e_var 5) (o_so e_int) o_no)) a_nil)))) a_nil))))
 (sss_cons (s_ret e_bl)
 sss_nil)
 sss_nil)
 sss_nil)
 sss_nil)
 sss_nil))))
 (sss_cons (s_for GS (q_seq (e_lst (a_cons e_non (a_cons (e_tup a_nil) (a_cons (e_sl (e_var 2) o_no (o_so e_int)) (a_cons (e_bin .add (e_var 2) (e_tup (a_cons (e_tup a_nil) a_nil))) (a_cons e_int (a_cons e_str (a_cons (e_tup (a_cons (e_var 2) a_nil)) a_nil))))))))) (i_nm G.hN 7)
 (sss_cons (s_if (t_not (t_val (e_call G (C 28 F__law_thing_right rfl) (a_cons (e_var 7) a_nil))))
 (sss_cons (s_ret e_bl)
 sss_nil)
 sss_nil)
 sss_nil))
 (sss_cons (s_ret (e_call G (C 28 F__law_thing_right rfl) (a_cons (e_var 2) a_nil)))
 sss_nil))))))))
end
section
variable {w : World} {K : PySem.W.Frag} {mg : Str → Option Value} {wf : Nat} {h : Heap}
theorem dok_is_whole (X : K.In h) (G : h.Ns mainGlobals mg) (c : Says K) : DefOk PySem.Challenge.pw_lawsleft_k00_grounds_made_and_refused w K mg gl wf Fs F_is_whole := by
  obtain ⟨fd, D⟩ := SaysX.def_ c 0 (d := d_is_whole) rfl
  exact defOk_of (N := ["thing"]) (ps := ["thing"]) D (glo_is_whole X G c) ⟨rfl, rfl, rfl, by decide +kernel, rfl, by decide +kernel, by decide +kernel⟩ rfl rfl (fun _ _ _ _ _ _ us hl => match us, hl with | [_], _ => rfl)
    fun cdv base A outer s H E n cl GS C => ok_is_whole (facts_of X G c) _ cdv base A outer s H E n cl GS C
theorem dok_is_name (X : K.In h) (G : h.Ns mainGlobals mg) (c : Says K) : DefOk PySem.Challenge.pw_lawsleft_k00_grounds_made_and_refused w K mg gl wf Fs F_is_name := by
  obtain ⟨fd, D⟩ := SaysX.def_ c 1 (d := d_is_name) rfl
  exact defOk_of (N := ["thing", "sign"]) (ps := ["thing"]) D (glo_is_name X G c) ⟨rfl, rfl, rfl, by decide +kernel, rfl, by decide +kernel, by decide +kernel⟩ rfl rfl (fun _ _ _ _ _ _ us hl => match us, hl with | [_], _ => rfl)
    fun cdv base A outer s H E n cl GS C => ok_is_name (facts_of X G c) _ cdv base A outer s H E n cl GS C
theorem dok_is_priced (X : K.In h) (G : h.Ns mainGlobals mg) (c : Says K) : DefOk PySem.Challenge.pw_lawsleft_k00_grounds_made_and_refused w K mg gl wf Fs F_is_priced := by
  obtain ⟨fd, D⟩ := SaysX.def_ c 2 (d := d_is_priced) rfl
  exact defOk_of (N := ["thing", "most"]) (ps := ["thing", "most"]) D (glo_is_priced X G c) ⟨rfl, rfl, rfl, by decide +kernel, rfl, by decide +kernel, by decide +kernel⟩ rfl rfl (fun _ _ _ _ _ _ us hl => match us, hl with | [_, _], _ => rfl)
    fun cdv base A outer s H E n cl GS C => ok_is_priced (facts_of X G c) _ cdv base A outer s H E n cl GS C
theorem dok_first_bad (X : K.In h) (G : h.Ns mainGlobals mg) (c : Says K) : DefOk PySem.Challenge.pw_lawsleft_k00_grounds_made_and_refused w K mg gl wf Fs F_first_bad := by
  obtain ⟨fd, D⟩ := SaysX.def_ c 3 (d := d_first_bad) rfl
  exact defOk_of (N := ["met", "entries", "most", "index", "entry", "name"]) (ps := ["met", "entries", "most"]) D (glo_first_bad X G c) ⟨rfl, rfl, rfl, by decide +kernel, rfl, by decide +kernel, by decide +kernel⟩ rfl rfl (fun _ _ _ _ _ _ us hl => match us, hl with | [_, _, _], _ => rfl)
    fun cdv base A outer s H E n cl GS C => ok_first_bad (facts_of X G c) _ cdv base A outer s H E n cl GS C
theorem dok_many_of (X : K.In h) (G : h.Ns mainGlobals mg) (c : Says K) : DefOk PySem.Challenge.pw_lawsleft_k00_grounds_made_and_refused w K mg gl wf Fs F_many_of := by
  obtain ⟨fd, D⟩ := SaysX.def_ c 4 (d := d_many_of) rfl
  exact defOk_of (N := ["cells", "many", "_", "size"]) (ps := ["cells"]) D (glo_many_of X G c) ⟨rfl, rfl, rfl, by decide +kernel, rfl, by decide +kernel, by decide +kernel⟩ rfl rfl (fun _ _ _ _ _ _ us hl => match us, hl with | [_], _ => rfl)
    fun cdv base A outer s H E n cl GS C => ok_many_of (facts_of X G c) _ cdv base A outer s H E n cl GS C
theorem dok_wrong_part (X : K.In h) (G : h.Ns mainGlobals mg) (c : Says K) : DefOk PySem.Challenge.pw_lawsleft_k00_grounds_made_and_refused w K mg gl wf Fs F_wrong_part := by
  obtain ⟨fd, D⟩ := SaysX.def_ c 5 (d := d_wrong_part) rfl
  exact defOk_of (N := ["thing", "met", "bounds", "part", "most", "least", "many", "index"]) (ps := ["thing"]) D (glo_wrong_part X G c) ⟨rfl, rfl, rfl, by decide +kernel, rfl, by decide +kernel, by decide +kernel⟩ rfl rfl (fun _ _ _ _ _ _ us hl => match us, hl with | [_], _ => rfl)
    fun cdv base A outer s H E n cl GS C => ok_wrong_part (facts_of X G c) _ cdv base A outer s H E n cl GS C
theorem dok_is_triple (X : K.In h) (G : h.Ns mainGlobals mg) (c : Says K) : DefOk PySem.Challenge.pw_lawsleft_k00_grounds_made_and_refused w K mg gl wf Fs F_is_triple := by
  obtain ⟨fd, D⟩ := SaysX.def_ c 6 (d := d_is_triple) rfl
  exact defOk_of (N := ["thing", "part"]) (ps := ["thing"]) D (glo_is_triple X G c) ⟨rfl, rfl, rfl, by decide +kernel, rfl, by decide +kernel, by decide +kernel⟩ rfl rfl (fun _ _ _ _ _ _ us hl => match us, hl with | [_], _ => rfl)
    fun cdv base A outer s H E n cl GS C => ok_is_triple (facts_of X G c) _ cdv base A outer s H E n cl GS C
theorem dok_made_ground (X : K.In h) (G : h.Ns mainGlobals mg) (c : Says K) : DefOk PySem.Challenge.pw_lawsleft_k00_grounds_made_and_refused w K mg gl wf Fs F_made_ground := by
  obtain ⟨fd, D⟩ := SaysX.def_ c 7 (d := d_made_ground) rfl
  exact defOk_of (N := ["thing", "where"]) (ps := ["thing"]) D (glo_made_ground X G c) ⟨rfl, rfl, rfl, by decide +kernel, rfl, by decide +kernel, by decide +kernel⟩ rfl rfl (fun _ _ _ _ _ _ us hl => match us, hl with | [_], _ => rfl)
    fun cdv base A outer s H E n cl GS C => ok_made_ground (facts_of X G c) _ cdv base A outer s H E n cl GS C
theorem dok_is_ground (X : K.In h) (G : h.Ns mainGlobals mg) (c : Says K) : DefOk PySem.Challenge.pw_lawsleft_k00_grounds_made_and_refused w K mg gl wf Fs F_is_ground := by
  obtain ⟨fd, D⟩ := SaysX.def_ c 8 (d := d_is_ground) rfl
  exact defOk_of (N := ["thing"]) (ps := ["thing"]) D (glo_is_ground X G c) ⟨rfl, rfl, rfl, by decide +kernel, rfl, by decide +kernel, by decide +kernel⟩ rfl rfl (fun _ _ _ _ _ _ us hl => match us, hl with | [_], _ => rfl)
    fun cdv base A outer s H E n cl GS C => ok_is_ground (facts_of X G c) _ cdv base A outer s H E n cl GS C
theorem dok_all_states (X : K.In h) (G : h.Ns mainGlobals mg) (c : Says K) : DefOk PySem.Challenge.pw_lawsleft_k00_grounds_made_and_refused w K mg gl wf Fs F_all_states := by
  obtain ⟨fd, D⟩ := SaysX.def_ c 9 (d := d_all_states) rfl
  exact defOk_of (N := ["ground", "found", "_", "size", "state", "value"]) (ps := ["ground"]) D (glo_all_states X G c) ⟨rfl, rfl, rfl, by decide +kernel, rfl, by decide +kernel, by decide +kernel⟩ rfl rfl (fun _ _ _ _ _ _ us hl => match us, hl with | [_], _ => rfl)
    fun cdv base A outer s H E n cl GS C => ok_all_states (facts_of X G c) _ cdv base A outer s H E n cl GS C
theorem dok_states (X : K.In h) (G : h.Ns mainGlobals mg) (c : Says K) : DefOk PySem.Challenge.pw_lawsleft_k00_grounds_made_and_refused w K mg gl wf Fs F_states := by
  obtain ⟨fd, D⟩ := SaysX.def_ c 10 (d := d_states) rfl
  exact defOk_of (N := ["ground"]) (ps := ["ground"]) D (glo_states X G c) ⟨rfl, rfl, rfl, by decide +kernel, rfl, by decide +kernel, by decide +kernel⟩ rfl rfl (fun _ _ _ _ _ _ us hl => match us, hl with | [_], _ => rfl)
    fun cdv base A outer s H E n cl GS C => ok_states (facts_of X G c) _ cdv base A outer s H E n cl GS C
theorem dok_many_states (X : K.In h) (G : h.Ns mainGlobals mg) (c : Says K) : DefOk PySem.Challenge.pw_lawsleft_k00_grounds_made_and_refused w K mg gl wf Fs F_many_states := by
  obtain ⟨fd, D⟩ := SaysX.def_ c 11 (d := d_many_states) rfl
  exact defOk_of (N := ["ground"]) (ps := ["ground"]) D (glo_many_states X G c) ⟨rfl, rfl, rfl, by decide +kernel, rfl, by decide +kernel, by decide +kernel⟩ rfl rfl (fun _ _ _ _ _ _ us hl => match us, hl with | [_], _ => rfl)
    fun cdv base A outer s H E n cl GS C => ok_many_states (facts_of X G c) _ cdv base A outer s H E n cl GS C
theorem dok_nought_of (X : K.In h) (G : h.Ns mainGlobals mg) (c : Says K) : DefOk PySem.Challenge.pw_lawsleft_k00_grounds_made_and_refused w K mg gl wf Fs F_nought_of := by
  obtain ⟨fd, D⟩ := SaysX.def_ c 12 (d := d_nought_of) rfl
  exact defOk_of (N := ["ground", "_"]) (ps := ["ground"]) D (glo_nought_of X G c) ⟨rfl, rfl, rfl, by decide +kernel, rfl, by decide +kernel, by decide +kernel⟩ rfl rfl (fun _ _ _ _ _ _ us hl => match us, hl with | [_], _ => rfl)
    fun cdv base A outer s H E n cl GS C => ok_nought_of (facts_of X G c) _ cdv base A outer s H E n cl GS C
theorem dok_nought (X : K.In h) (G : h.Ns mainGlobals mg) (c : Says K) : DefOk PySem.Challenge.pw_lawsleft_k00_grounds_made_and_refused w K mg gl wf Fs F_nought := by
  obtain ⟨fd, D⟩ := SaysX.def_ c 13 (d := d_nought) rfl
  exact defOk_of (N := ["ground"]) (ps := ["ground"]) D (glo_nought X G c) ⟨rfl, rfl, rfl, by decide +kernel, rfl, by decide +kernel, by decide +kernel⟩ rfl rfl (fun _ _ _ _ _ _ us hl => match us, hl with | [_], _ => rfl)
    fun cdv base A outer s H E n cl GS C => ok_nought (facts_of X G c) _ cdv base A outer s H E n cl GS C
theorem dok__law_pool (X : K.In h) (G : h.Ns mainGlobals mg) (c : Says K) : DefOk PySem.Challenge.pw_lawsleft_k00_grounds_made_and_refused w K mg gl wf Fs F__law_pool := by
  obtain ⟨fd, D⟩ := SaysX.def_ c 14 (d := d__law_pool) rfl
  exact defOk_of (N := ["_law_script", "_law_k", "_law_cell", "_law_big", "_law_mixed_here"]) (ps := ["_law_script", "_law_k"]) D (glo__law_pool X G c) ⟨rfl, rfl, rfl, by decide +kernel, rfl, by decide +kernel, by decide +kernel⟩ rfl rfl (fun _ _ _ _ _ _ us hl => match us, hl with | [_, _], _ => rfl)
    fun cdv base A outer s H E n cl GS C => ok__law_pool (facts_of X G c) _ cdv base A outer s H E n cl GS C
theorem dok__law_take (X : K.In h) (G : h.Ns mainGlobals mg) (c : Says K) : DefOk PySem.Challenge.pw_lawsleft_k00_grounds_made_and_refused w K mg gl wf Fs F__law_take := by
  obtain ⟨fd, D⟩ := SaysX.def_ c 15 (d := d__law_take) rfl
  exact defOk_of (N := ["_law_source", "_law_top", "_law_drawn_here"]) (ps := ["_law_source", "_law_top"]) D (glo__law_take X G c) ⟨rfl, rfl, rfl, by decide +kernel, rfl, by decide +kernel, by decide +kernel⟩ rfl rfl (fun _ _ _ _ _ _ us hl => match us, hl with | [_, _], _ => rfl)
    fun cdv base A outer s H E n cl GS C => ok__law_take (facts_of X G c) _ cdv base A outer s H E n cl GS C
theorem dok__law_one (X : K.In h) (G : h.Ns mainGlobals mg) (c : Says K) : DefOk PySem.Challenge.pw_lawsleft_k00_grounds_made_and_refused w K mg gl wf Fs F__law_one := by
  obtain ⟨fd, D⟩ := SaysX.def_ c 16 (d := d__law_one) rfl
  exact defOk_of (N := ["_law_source", "_law_things"]) (ps := ["_law_source", "_law_things"]) D (glo__law_one X G c) ⟨rfl, rfl, rfl, by decide +kernel, rfl, by decide +kernel, by decide +kernel⟩ rfl rfl (fun _ _ _ _ _ _ us hl => match us, hl with | [_, _], _ => rfl)
    fun cdv base A outer s H E n cl GS C => ok__law_one (facts_of X G c) _ cdv base A outer s H E n cl GS C
theorem dok__law_mixed (X : K.In h) (G : h.Ns mainGlobals mg) (c : Says K) : DefOk PySem.Challenge.pw_lawsleft_k00_grounds_made_and_refused w K mg gl wf Fs F__law_mixed := by
  obtain ⟨fd, D⟩ := SaysX.def_ c 17 (d := d__law_mixed) rfl
  exact defOk_of (N := ["_law_source", "_law_things", "_law_left", "_law_found", "_law_turn"]) (ps := ["_law_source", "_law_things"]) D (glo__law_mixed X G c) ⟨rfl, rfl, rfl, by decide +kernel, rfl, by decide +kernel, by decide +kernel⟩ rfl rfl (fun _ _ _ _ _ _ us hl => match us, hl with | [_, _], _ => rfl)
    fun cdv base A outer s H E n cl GS C => ok__law_mixed (facts_of X G c) _ cdv base A outer s H E n cl GS C
theorem dok__law_states (X : K.In h) (G : h.Ns mainGlobals mg) (c : Says K) : DefOk PySem.Challenge.pw_lawsleft_k00_grounds_made_and_refused w K mg gl wf Fs F__law_states := by
  obtain ⟨fd, D⟩ := SaysX.def_ c 18 (d := d__law_states) rfl
  exact defOk_of (N := ["_law_ground", "_law_found", "_law_cell", "_law_longer", "_law_state", "_law_value"]) (ps := ["_law_ground"]) D (glo__law_states X G c) ⟨rfl, rfl, rfl, by decide +kernel, rfl, by decide +kernel, by decide +kernel⟩ rfl rfl (fun _ _ _ _ _ _ us hl => match us, hl with | [_], _ => rfl)
    fun cdv base A outer s H E n cl GS C => ok__law_states (facts_of X G c) _ cdv base A outer s H E n cl GS C
theorem dok__law_heard (X : K.In h) (G : h.Ns mainGlobals mg) (c : Says K) : DefOk PySem.Challenge.pw_lawsleft_k00_grounds_made_and_refused w K mg gl wf Fs F__law_heard := by
  obtain ⟨fd, D⟩ := SaysX.def_ c 19 (d := d__law_heard) rfl
  exact defOk_of (N := ["_law_thing", "error"]) (ps := ["_law_thing"]) D (glo__law_heard X G c) ⟨rfl, rfl, rfl, by decide +kernel, rfl, by decide +kernel, by decide +kernel⟩ rfl rfl (fun _ _ _ _ _ _ us hl => match us, hl with | [_], _ => rfl)
    fun cdv base A outer s H E n cl GS C => ok__law_heard (facts_of X G c) _ cdv base A outer s H E n cl GS C
theorem dok__law_is_name (X : K.In h) (G : h.Ns mainGlobals mg) (c : Says K) : DefOk PySem.Challenge.pw_lawsleft_k00_grounds_made_and_refused w K mg gl wf Fs F__law_is_name := by
  obtain ⟨fd, D⟩ := SaysX.def_ c 20 (d := d__law_is_name) rfl
  exact defOk_of (N := ["_law_name", "_law_letters", "_law_sign", "_law_words"]) (ps := ["_law_name"]) D (glo__law_is_name X G c) ⟨rfl, rfl, rfl, by decide +kernel, rfl, by decide +kernel, by decide +kernel⟩ rfl rfl (fun _ _ _ _ _ _ us hl => match us, hl with | [_], _ => rfl)
    fun cdv base A outer s H E n cl GS C => ok__law_is_name (facts_of X G c) _ cdv base A outer s H E n cl GS C
theorem dok__law_is_number (X : K.In h) (G : h.Ns mainGlobals mg) (c : Says K) : DefOk PySem.Challenge.pw_lawsleft_k00_grounds_made_and_refused w K mg gl wf Fs F__law_is_number := by
  obtain ⟨fd, D⟩ := SaysX.def_ c 21 (d := d__law_is_number) rfl
  exact defOk_of (N := ["_law_thing", "_law_low", "_law_high"]) (ps := ["_law_thing", "_law_low", "_law_high"]) D (glo__law_is_number X G c) ⟨rfl, rfl, rfl, by decide +kernel, rfl, by decide +kernel, by decide +kernel⟩ rfl rfl (fun _ _ _ _ _ _ us hl => match us, hl with | [_, _, _], _ => rfl)
    fun cdv base A outer s H E n cl GS C => ok__law_is_number (facts_of X G c) _ cdv base A outer s H E n cl GS C
theorem dok__law_entry_name (X : K.In h) (G : h.Ns mainGlobals mg) (c : Says K) : DefOk PySem.Challenge.pw_lawsleft_k00_grounds_made_and_refused w K mg gl wf Fs F__law_entry_name := by
  obtain ⟨fd, D⟩ := SaysX.def_ c 22 (d := d__law_entry_name) rfl
  exact defOk_of (N := ["_law_part", "_law_entry"]) (ps := ["_law_part", "_law_entry"]) D (glo__law_entry_name X G c) ⟨rfl, rfl, rfl, by decide +kernel, rfl, by decide +kernel, by decide +kernel⟩ rfl rfl (fun _ _ _ _ _ _ us hl => match us, hl with | [_, _], _ => rfl)
    fun cdv base A outer s H E n cl GS C => ok__law_entry_name (facts_of X G c) _ cdv base A outer s H E n cl GS C
theorem dok__law_fault (X : K.In h) (G : h.Ns mainGlobals mg) (c : Says K) : DefOk PySem.Challenge.pw_lawsleft_k00_grounds_made_and_refused w K mg gl wf Fs F__law_fault := by
  obtain ⟨fd, D⟩ := SaysX.def_ c 23 (d := d__law_fault) rfl
  exact defOk_of (N := ["_law_thing", "_law_part", "_law_met", "_law_many", "_law_at", "_law_name"]) (ps := ["_law_thing"]) D (glo__law_fault X G c) ⟨rfl, rfl, rfl, by decide +kernel, rfl, by decide +kernel, by decide +kernel⟩ rfl rfl (fun _ _ _ _ _ _ us hl => match us, hl with | [_], _ => rfl)
    fun cdv base A outer s H E n cl GS C => ok__law_fault (facts_of X G c) _ cdv base A outer s H E n cl GS C
theorem dok__law_names (X : K.In h) (G : h.Ns mainGlobals mg) (c : Says K) : DefOk PySem.Challenge.pw_lawsleft_k00_grounds_made_and_refused w K mg gl wf Fs F__law_names := by
  obtain ⟨fd, D⟩ := SaysX.def_ c 24 (d := d__law_names) rfl
  exact defOk_of (N := ["_law_source", "_law_some"]) (ps := ["_law_source"]) D (glo__law_names X G c) ⟨rfl, rfl, rfl, by decide +kernel, rfl, by decide +kernel, by decide +kernel⟩ rfl rfl (fun _ _ _ _ _ _ us hl => match us, hl with | [_], _ => rfl)
    fun cdv base A outer s H E n cl GS C => ok__law_names (facts_of X G c) _ cdv base A outer s H E n cl GS C
theorem dok__law_drawn (X : K.In h) (G : h.Ns mainGlobals mg) (c : Says K) : DefOk PySem.Challenge.pw_lawsleft_k00_grounds_made_and_refused w K mg gl wf Fs F__law_drawn := by
  obtain ⟨fd, D⟩ := SaysX.def_ c 25 (d := d__law_drawn) rfl
  exact defOk_of (N := ["_law_source", "_law_names_here", "_law_cells", "_law_room", "_law_at", "_law_size", "_law_kinds"]) (ps := ["_law_source"]) D (glo__law_drawn X G c) ⟨rfl, rfl, rfl, by decide +kernel, rfl, by decide +kernel, by decide +kernel⟩ rfl rfl (fun _ _ _ _ _ _ us hl => match us, hl with | [_], _ => rfl)
    fun cdv base A outer s H E n cl GS C => ok__law_drawn (facts_of X G c) _ cdv base A outer s H E n cl GS C
theorem dok__law_odd_entry (X : K.In h) (G : h.Ns mainGlobals mg) (c : Says K) : DefOk PySem.Challenge.pw_lawsleft_k00_grounds_made_and_refused w K mg gl wf Fs F__law_odd_entry := by
  obtain ⟨fd, D⟩ := SaysX.def_ c 26 (d := d__law_odd_entry) rfl
  exact defOk_of (N := ["_law_source", "_law_ground", "_law_part", "_law_some", "_law_name", "_law_number"]) (ps := ["_law_source", "_law_ground", "_law_part"]) D (glo__law_odd_entry X G c) ⟨rfl, rfl, rfl, by decide +kernel, rfl, by decide +kernel, by decide +kernel⟩ rfl rfl (fun _ _ _ _ _ _ us hl => match us, hl with | [_, _, _], _ => rfl)
    fun cdv base A outer s H E n cl GS C => ok__law_odd_entry (facts_of X G c) _ cdv base A outer s H E n cl GS C
theorem dok__law_spoilt (X : K.In h) (G : h.Ns mainGlobals mg) (c : Says K) : DefOk PySem.Challenge.pw_lawsleft_k00_grounds_made_and_refused w K mg gl wf Fs F__law_spoilt := by
  obtain ⟨fd, D⟩ := SaysX.def_ c 27 (d := d__law_spoilt) rfl
  exact defOk_of (N := ["_law_source", "_law_ground", "_law_thing", "_law_part", "_law_way", "_law_row", "_law_at"]) (ps := ["_law_source", "_law_ground", "_law_thing"]) D (glo__law_spoilt X G c) ⟨rfl, rfl, rfl, by decide +kernel, rfl, by decide +kernel, by decide +kernel⟩ rfl rfl (fun _ _ _ _ _ _ us hl => match us, hl with | [_, _, _], _ => rfl)
    fun cdv base A outer s H E n cl GS C => ok__law_spoilt (facts_of X G c) _ cdv base A outer s H E n cl GS C
theorem dok__law_thing_right (X : K.In h) (G : h.Ns mainGlobals mg) (c : Says K) : DefOk PySem.Challenge.pw_lawsleft_k00_grounds_made_and_refused w K mg gl wf Fs F__law_thing_right := by
  obtain ⟨fd, D⟩ := SaysX.def_ c 28 (d := d__law_thing_right) rfl
  exact defOk_of (N := ["_law_thing", "_law_fault_here", "_law_due"]) (ps := ["_law_thing"]) D (glo__law_thing_right X G c) ⟨rfl, rfl, rfl, by decide +kernel, rfl, by decide +kernel, by decide +kernel⟩ rfl rfl (fun _ _ _ _ _ _ us hl => match us, hl with | [_], _ => rfl)
    fun cdv base A outer s H E n cl GS C => ok__law_thing_right (facts_of X G c) _ cdv base A outer s H E n cl GS C
theorem dok_law (X : K.In h) (G : h.Ns mainGlobals mg) (c : Says K) : DefOk PySem.Challenge.pw_lawsleft_k00_grounds_made_and_refused w K mg gl wf Fs F_law := by
  obtain ⟨fd, D⟩ := SaysX.def_ c 29 (d := d_law) rfl
  exact defOk_of (N := ["_law_script", "_law_source", "_law_ground", "_law_own", "_law_turn", "_law_bent", "_law_part", "_law_thing"]) (ps := ["_law_script"]) D (glo_law X G c) ⟨rfl, rfl, rfl, by decide +kernel, rfl, by decide +kernel, by decide +kernel⟩ rfl rfl (fun _ _ _ _ _ _ us hl => match us, hl with | [_], _ => rfl)
    fun cdv base A outer s H E n cl GS C => ok_law (facts_of X G c) _ cdv base A outer s H E n cl GS C
theorem all_dok (X : K.In h) (G : h.Ns mainGlobals mg) (c : Says K) (f : Nat) (d : FDef) (e : Fs[f]? = some d) : DefOk PySem.Challenge.pw_lawsleft_k00_grounds_made_and_refused w K mg gl wf Fs d := by
  have m := List.mem_of_getElem? e
  simp only [Fs, List.mem_cons, List.not_mem_nil, or_false] at m
  rcases m with rfl | rfl | rfl | rfl | rfl | rfl | rfl | rfl | rfl | rfl | rfl | rfl | rfl | rfl | rfl | rfl | rfl | rfl | rfl | rfl | rfl | rfl | rfl | rfl | rfl | rfl | rfl | rfl | rfl | rfl
  · exact dok_is_whole X G c
  · exact dok_is_name X G c
  · exact dok_is_priced X G c
  · exact dok_first_bad X G c
  · exact dok_many_of X G c
  · exact dok_wrong_part X G c
  · exact dok_is_triple X G c
  · exact dok_made_ground X G c
  · exact dok_is_ground X G c
  · exact dok_all_states X G c
  · exact dok_states X G c
  · exact dok_many_states X G c
  · exact dok_nought_of X G c
  · exact dok_nought X G c
  · exact dok__law_pool X G c
  · exact dok__law_take X G c
  · exact dok__law_one X G c
  · exact dok__law_mixed X G c
  · exact dok__law_states X G c
  · exact dok__law_heard X G c
  · exact dok__law_is_name X G c
  · exact dok__law_is_number X G c
  · exact dok__law_entry_name X G c
  · exact dok__law_fault X G c
  · exact dok__law_names X G c
  · exact dok__law_drawn X G c
  · exact dok__law_odd_entry X G c
  · exact dok__law_spoilt X G c
  · exact dok__law_thing_right X G c
  · exact dok_law X G c
end
theorem law_by {wf n : Nat} (hr : Room (n + 1) callerA) (hl : (HandSHeadRun.topDef R.prog lawAt).name = "law") (hd : (HandSHeadRun.topDef R.prog lawAt).params.defaults = [])
    (holds : ∀ ns : List Int, ns.length ≤ 63 → (∀ z ∈ ns, Builtin.Int.intBits z ≤ 1048576) → ∃ g, Fw.run gl Fs wf n 29 [.dat (.list (ns.map .int))] [] = .ok (.dat (.bool true)) g) {loose : List Str} {XP : (Str → Option Value) → Heap → Prop} :
    PySem.W.WalkO (PySem.W.view R.prog [lawAt]) loose XP hk.says (PySem.Challenge.rw_lawsleft_k00_grounds_made_and_refused).row.toRowW (HandSHeadRun.topDef R.prog lawAt) [] (fun f vs => PySem.call f vs) := by
  refine walk_ofG (l := PySem.Challenge.rw_lawsleft_k00_grounds_made_and_refused) (n := 63) (k := n + 1) rfl (by rw [sizeLine_eq]; decide) hd hr ?_
  intro w mg h Y G
  obtain ⟨K, KX, c⟩ := Y
  refine ⟨K, Fw.run gl Fs wf n 29, KX, holds, fun base h1 h2 => ?_⟩
  rw [hl]
  exact all_ok (fun f d e => all_dok h1 h2 c f d e) n 29 F_law rfl
end Law
end
set_option Elab.async false
set_option linter.all false
set_option maxRecDepth 100000
set_option maxHeartbeats 4000000
noncomputable section
namespace Law
open PySem PySem.Spec PyProof.Rows L2 Fw
variable {wf : Nat}
abbrev rn (wf n f : Nat) (ds : List D) (g : Gh) : Rs D := Fw.run gl Fs wf n f ds g
def isWhole : PyData → Bool
  | .int _ => true
  | _ => false
theorem r_is_whole (n : Nat) (p : PyData) (g : Gh) : rn wf (n + 1) 0 [.dat p] g = .ok (.dat (.bool (isWhole p))) g := by
  refine run_dat (d := F_is_whole) rfl rfl ?_
  cases p <;> rfl
def letL : List Nat := (Str.ofString "abcdefghijklmnopqrstuvwxyz").cps.toList
def figL : List Nat := (Str.ofString "0123456789").cps.toList
def words : List Str := [Str.ofString "cells", Str.ofString "deeds", Str.ofString "exits", Str.ofString "if", Str.ofString "else", Str.ofString "while", Str.ofString "catch", Str.ofString "exit", Str.ofString "and", Str.ofString "or", Str.ofString "not", Str.ofString "law"]
def isWord (x : Str) : Bool := words.any fun w => w == x
def nameS (x : Str) : Bool := !(!(decide (1 ≤ (x.length : Int)) && decide ((x.length : Int) ≤ 12)) || isWord x) && (match x.cps.toList with
  | [] => false
  | c :: _ => decide (c ∈ letL)) && x.cps.toList.all fun c => decide (c ∈ letL) || decide (c ∈ figL)
def isName : PyData → Bool
  | .str x => nameS x
  | _ => false
theorem in_words (x : Str) : inD (.str x) c_RESERVED = some (isWord x) := by
  show (if flatD (.str x) && (words.map PyData.str).all flatD then some ((words.map PyData.str).any fun z => PyData.eqv z (.str x)) else none) = _
  have z : (flatD (.str x) && (words.map PyData.str).all flatD) = true := rfl
  rw [if_pos z]
  unfold isWord
  rw [List.any_map]
  rfl
theorem in_lets (c : Nat) : inD (.str ⟨#[c]⟩) c_LETTERS = some (decide (c ∈ letL)) := rfl
theorem in_figs (c : Nat) : inD (.str ⟨#[c]⟩) c_FIGURES = some (decide (c ∈ figL)) := rfl
theorem all_bools (bs : List Bool) : biD .all [.list (bs.map .bool)] = some (.bool (bs.all id)) := by
  have e : ∀ bs : List Bool, allB (bs.map .bool) = some bs := by
    intro bs
    induction bs with
    | nil => rfl
    | cons b bs ih =>
      show (allB (bs.map .bool)).map (b :: ·) = _
      rw [ih]
      rfl
  show (allB (bs.map .bool)).map (fun bs => PyData.bool (bs.all id)) = _
  rw [e]
  rfl
theorem fm_one {α : Type} (l : List α) (h : α → D) (k : α → PyData) (f : Itm → Option PyData) (e : ∀ a, f (.one (h a)) = some (k a)) : (l.map fun a => Itm.one (h a)).filterMap f = l.map k := by
  induction l with
  | nil => rfl
  | cons a l ih => rw [List.map_cons, List.filterMap_cons, e, ih]; rfl
theorem atI_zero {α : Type} {c : α} {cs : List α} : atI (c :: cs) 0 = some c := L2.atI_nat (j := 0) rfl
def itD : Itm → PyData
  | .one (.dat p) => p
  | _ => .none
def strC : PyData → Option Nat
  | .str x => x.cps.toList.head?
  | _ => none
theorem r_is_name (n : Nat) (p : PyData) (g : Gh) (hg : Low g) (hx : ∀ x, p = .str x → x.length ≤ line) : rn wf (n + 1) 1 [.dat p] g = .ok (.dat (.bool (isName p))) g := by
  refine run_dat (d := F_is_name) rfl rfl ?_
  cases p with
  | str x =>
    have hl := hx x rfl
    show exs gl (Fw.run gl Fs wf n) wf F_is_name.body [some (.dat (.str x)), none] g = _
    have V : ∀ g', Is gl (Fw.run gl Fs wf n) [some (.dat (.str x)), none] g' (.var 0) (.str x) := fun g' => is_var rfl
    have L : Is gl (Fw.run gl Fs wf n) [some (.dat (.str x)), none] g (.bi .len (.cons (.var 0) .nil)) (.int x.length) := is_bi (V g) (if_pos hl)
    have c1 : Is gl (Fw.run gl Fs wf n) [some (.dat (.str x)), none] g (.or (.not (.bi (.isi (Str.ofString "str")) (.cons (.var 0) .nil))) (.or (.not (.chn .le .le (.int 1) (.bi .len (.cons (.var 0) .nil)) (.gl "MOST_NAME"))) (.cmp .isIn (.var 0) (.gl "RESERVED"))))
        (.bool (!true || (!(decide (1 ≤ (x.length : Int)) && decide ((x.length : Int) ≤ 12)) || isWord x))) :=
      is_or (is_not (is_bi (V g) rfl)) fun _ => is_or (is_not (is_chn is_int L (is_gl rfl) le_int le_int)) fun _ => is_cmp (V g) (is_gl rfl) (in_words x)
    refine guard_of (r := .bool false) c1 (fun h => ⟨is_bl, ?_⟩) fun h => ?_
    · have z : nameS x = false := by
        unfold nameS
        rw [Bool.not_true, Bool.false_or] at h
        rw [h]
        rfl
      show Rs.ok (Fl.rt (D.dat (PyData.bool (nameS x)))) g = _
      rw [z]
    · rw [Bool.not_true, Bool.false_or] at h
      have h2 : decide (1 ≤ (x.length : Int)) = true := by
        rw [Bool.or_eq_false_iff] at h
        have := h.1
        simp only [Bool.not_eq_false', Bool.and_eq_true] at this
        exact this.1
      have nz : x.cps.toList ≠ [] := by
        intro z
        have : x.length = 0 := by unfold Str.length; rw [← Array.length_toList, z]; rfl
        rw [this] at h2
        cases h2
      obtain ⟨c, cs, hc⟩ := List.exists_cons_of_ne_nil nz
      refine ret_of ?_
      have a1 : Is gl (Fw.run gl Fs wf n) [some (.dat (.str x)), none] g (.cmp .isIn (.ix (.var 0) (.int 0)) (.gl "LETTERS")) (.bool (decide (c ∈ letL))) := by
        refine is_cmp (p := .str ⟨#[c]⟩) (is_ix (V g) is_int ?_) (is_gl rfl) (in_lets c)
        show (if x.length ≤ line then (atI x.cps.toList 0).map fun c => PyData.str ⟨#[c]⟩ else none) = _
        rw [if_pos hl, hc, atI_zero]
        rfl
      have a2 : Is gl (Fw.run gl Fs wf n) [some (.dat (.str x)), none] g (.bi .all (.cons (.lc false (.nm 1) (.seq (.var 0)) [1] .no (.or (.cmp .isIn (.var 1) (.gl "LETTERS")) (.cmp .isIn (.var 1) (.gl "FIGURES")))) .nil)) (.bool (x.cps.toList.all fun c => decide (c ∈ letL) || decide (c ∈ figL))) := by
        refine is_bi (p := .list ((x.cps.toList.map fun c => decide (c ∈ letL) || decide (c ∈ figL)).map .bool)) ?_ (by rw [all_bools, List.all_map]; rfl)
        have src : evi gl (Fw.run gl Fs wf n) (.seq (.var 0)) [some (.dat (.str x)), none] g = .ok (x.cps.toList.map fun c => Itm.one (.dat (.str ⟨#[c]⟩)), none) g := by
          have z := V g
          unfold Is at z
          rw [yi_seq, z, Rs.ok_bind]
          show Rs.ok ((x.cps.toList.map fun c => D.dat (.str ⟨#[c]⟩)).map Itm.one, none) g = _
          rw [List.map_map]
          rfl
        have z := is_lc (c := .no) (t := .nm 1) (wp := [1]) (e := .or (.cmp .isIn (.var 1) (.gl "LETTERS")) (.cmp .isIn (.var 1) (.gl "FIGURES"))) (fun it => (strC (itD it)).map fun c => PyData.bool (decide (c ∈ letL) || decide (c ∈ figL))) hg src
          (by rw [List.length_map, Array.length_toList]; exact hl) ?_
        · rw [fm_one _ _ (fun c => PyData.bool (decide (c ∈ letL) || decide (c ∈ figL))) _ (fun c => rfl)] at z
          rw [List.map_map]
          exact z
        · intro it hi zs
          obtain ⟨c, _, rfl⟩ := List.mem_map.mp hi
          refine ⟨[some (.dat (.str x)), some (.dat (.str ⟨#[c]⟩))], rfl, .inr ⟨_, rfl, rfl, ?_⟩⟩
          exact is_or (is_cmp (is_var rfl) (is_gl rfl) (in_lets c)) fun _ => is_cmp (is_var rfl) (is_gl rfl) (in_figs c)
      have fin := is_and a1 fun _ => a2
      have e : isName (.str x) = (decide (c ∈ letL) && x.cps.toList.all fun c => decide (c ∈ letL) || decide (c ∈ figL)) := by
        show nameS x = _
        unfold nameS
        rw [h, hc]
        rfl
      rw [e]
      exact fin
  | _ => rfl
theorem len_str {n : Nat} {fr : Fr} {g : Gh} {x : Str} {a : CE} (hl : x.length ≤ line) (V : Is gl (Fw.run gl Fs wf n) fr g a (.str x)) : Is gl (Fw.run gl Fs wf n) fr g (.bi .len (.cons a .nil)) (.int x.length) := is_bi V (if_pos hl)
theorem src_str {n : Nat} {fr : Fr} {g : Gh} {x : Str} {a : CE} (V : Is gl (Fw.run gl Fs wf n) fr g a (.str x)) : evi gl (Fw.run gl Fs wf n) (.seq a) fr g = .ok (x.cps.toList.map fun c => Itm.one (.dat (.str ⟨#[c]⟩)), none) g := by
  unfold Is at V
  rw [yi_seq, V, Rs.ok_bind]
  show Rs.ok ((x.cps.toList.map fun c => D.dat (.str ⟨#[c]⟩)).map Itm.one, none) g = _
  rw [List.map_map]
  rfl
def allL : List Nat := (Str.ofString "abcdefghijklmnopqrstuvwxyz" ++ Str.ofString "0123456789").cps.toList
theorem mem_allL (c : Nat) : decide (c ∈ allL) = (decide (c ∈ letL) || decide (c ∈ figL)) := by
  have e : allL = letL ++ figL := by decide
  rw [e, ← Bool.decide_or]
  congr 1
  exact propext List.mem_append
theorem fm_if {α : Type} (l : List α) (h : α → D) (k : α → PyData) (b : α → Bool) (f : Itm → Option PyData) (e : ∀ a, f (.one (h a)) = if b a then some (k a) else none) : (l.map fun a => Itm.one (h a)).filterMap f = (l.filter b).map k := by
  induction l with
  | nil => rfl
  | cons a l ih =>
    rw [List.map_cons, List.filterMap_cons, e, List.filter_cons]
    cases b a <;> simp [ih]
theorem lay_signs {x : Str} (h : (PyData.str x).canLay0 = true) (l : List Nat) (hl : ∀ c ∈ l, c ∈ x.cps.toList) : SeqAt.shaped (.list (l.map fun c => PyData.str ⟨#[c]⟩)) = true := by
  have hx : ∀ c ∈ x.cps.toList, c < 0x110000 := by
    have z : x.cps.all (· < 0x110000) = true := by
      have y : PyData.strOk x = true := by simpa [PyData.canLay0] using h
      unfold PyData.strOk at y
      simpa using y
    intro c hc
    rw [← Array.all_toList] at z
    simpa using List.all_eq_true.mp z c hc
  have lay : ∀ l : List Nat, (∀ c ∈ l, c < 0x110000) → PyData.canLayAll0 (l.map fun c => PyData.str ⟨#[c]⟩) = true ∧ PyData.depthAll (l.map fun c => PyData.str ⟨#[c]⟩) = 0 := by
    intro l
    induction l with
    | nil => intro _; exact ⟨by simp [PyData.canLayAll0], by simp [PyData.depthAll]⟩
    | cons c l ih =>
      intro hh
      obtain ⟨i1, i2⟩ := ih fun d hd => hh d (List.mem_cons_of_mem _ hd)
      have y : PyData.strOk ⟨#[c]⟩ = true := by
        have := hh c (List.mem_cons_self)
        unfold PyData.strOk
        simp [this]
      constructor
      · rw [List.map_cons, PyData.canLayAll0, PyData.canLay0, y, i1]; rfl
      · rw [List.map_cons, PyData.depthAll, PyData.depth, i2]; rfl
  obtain ⟨l1, l2⟩ := lay l fun c hc => hx c (hl c hc)
  unfold SeqAt.shaped
  rw [PyData.canLay0, l1, PyData.depth, l2]
  rfl
theorem ne_nil (ps : List PyData) (h : SeqAt.shaped (.list ps) = true) : cmpD .ne (.list ps) (.list []) = some (!ps.isEmpty) := by
  have z : eqD (.list ps) (.list []) = if SeqAt.shaped (.list ps) && SeqAt.shaped (.list []) then some (PyData.eqv (.list ps) (.list [])) else none := rfl
  show (eqD (.list ps) (.list [])).map not = _
  have y : SeqAt.shaped (.list []) = true := by decide
  rw [z, h, y]
  cases ps <;> rfl
theorem r_law_is_name (n : Nat) (p : PyData) (g : Gh) (hg : Low g) (hx : ∀ x, p = .str x → x.length ≤ line) (hc0 : p.canLay0 = true) : rn wf (n + 1) 20 [.dat p] g = .ok (.dat (.bool (isName p))) g := by
  refine run_dat (d := F__law_is_name) rfl rfl ?_
  cases p with
  | str x =>
    have hl := hx x rfl
    show exs gl (Fw.run gl Fs wf n) wf F__law_is_name.body [some (.dat (.str x)), none, none, none] g = _
    have c1 : Is gl (Fw.run gl Fs wf n) [some (.dat (.str x)), none, none, none] g (.or (.not (.bi (.isi (Str.ofString "str")) (.cons (.var 0) .nil))) (.not (.chn .le .le (.int 1) (.bi .len (.cons (.var 0) .nil)) (.int 12))))
        (.bool (!true || !(decide (1 ≤ (x.length : Int)) && decide ((x.length : Int) ≤ 12)))) :=
      is_or (is_not (is_bi (is_var rfl) rfl)) fun _ => is_not (is_chn is_int (len_str hl (is_var rfl)) is_int le_int le_int)
    refine guard_of (r := .bool false) c1 (fun h => ⟨is_bl, ?_⟩) fun h => ?_
    · have z : nameS x = false := by
        unfold nameS
        rw [Bool.not_true, Bool.false_or] at h
        rw [h]
        rfl
      show Rs.ok (Fl.rt (D.dat (PyData.bool (nameS x)))) g = _
      rw [z]
    · rw [Bool.not_true, Bool.false_or] at h
      have h2 : decide (1 ≤ (x.length : Int)) = true := by
        simp only [Bool.not_eq_false', Bool.and_eq_true] at h
        exact h.1
      have nz : x.cps.toList ≠ [] := by
        intro z
        have : x.length = 0 := by unfold Str.length; rw [← Array.length_toList, z]; rfl
        rw [this] at h2
        cases h2
      obtain ⟨c, cs, hc⟩ := List.exists_cons_of_ne_nil nz
      rw [set_of (r := .str (Str.ofString "abcdefghijklmnopqrstuvwxyz")) is_str]
      show exs gl (Fw.run gl Fs wf n) wf _ [some (.dat (.str x)), some (.dat (.str (Str.ofString "abcdefghijklmnopqrstuvwxyz"))), none, none] g = _
      have a1 : Is gl (Fw.run gl Fs wf n) [some (.dat (.str x)), some (.dat (.str (Str.ofString "abcdefghijklmnopqrstuvwxyz"))), none, none] g (.cmp .notIn (.ix (.var 0) (.int 0)) (.var 1)) (.bool (!decide (c ∈ letL))) := by
        refine is_cmp (p := .str ⟨#[c]⟩) (q := .str (Str.ofString "abcdefghijklmnopqrstuvwxyz")) (is_ix (p := .str x) (q := .int 0) (is_var rfl) is_int ?_) (is_var rfl) rfl
        show (if x.length ≤ line then (atI x.cps.toList 0).map fun c => PyData.str ⟨#[c]⟩ else none) = _
        rw [if_pos hl, hc, atI_zero]
        rfl
      have a2 : Is gl (Fw.run gl Fs wf n) [some (.dat (.str x)), some (.dat (.str (Str.ofString "abcdefghijklmnopqrstuvwxyz"))), none, none] g (.cmp .ne (.lc false (.nm 2) (.seq (.var 0)) [2] (.so (.cmp .notIn (.var 2) (.bin .add (.var 1) (.str (Str.ofString "0123456789"))))) (.var 2)) (.lst false .nil))
          (.bool (!((x.cps.toList.filter fun c => !decide (c ∈ allL)).map fun c => PyData.str ⟨#[c]⟩).isEmpty)) := by
        refine is_cmp (p := .list ((x.cps.toList.filter fun c => !decide (c ∈ allL)).map fun c => PyData.str ⟨#[c]⟩)) (q := .list []) ?_ (is_lst are_nil (Nat.zero_le _)) (ne_nil _ (lay_signs hc0 _ fun c hc => (List.mem_filter.mp hc).1))
        have z := is_lc (cl := Fw.run gl Fs wf n) (c := .so (.cmp .notIn (.var 2) (.bin .add (.var 1) (.str (Str.ofString "0123456789"))))) (t := .nm 2) (wp := [2]) (e := .var 2) (fun it => if (!decide (((strC (itD it)).getD 0) ∈ allL)) = true then some (itD it) else none) hg
          (src_str (wf := wf) (n := n) (x := x) (fr := [some (.dat (.str x)), some (.dat (.str (Str.ofString "abcdefghijklmnopqrstuvwxyz"))), none, none]) (a := .var 0) (is_var rfl)) (by rw [List.length_map, Array.length_toList]; exact hl) ?_
        · rw [fm_if _ _ (fun c => PyData.str ⟨#[c]⟩) (fun c => !decide (c ∈ allL)) _ (fun c => rfl)] at z
          exact z
        · intro it hi zs
          obtain ⟨c, _, rfl⟩ := List.mem_map.mp hi
          refine ⟨[some (.dat (.str x)), some (.dat (.str (Str.ofString "abcdefghijklmnopqrstuvwxyz"))), some (.dat (.str ⟨#[c]⟩)), none], rfl, ?_⟩
          have t : Is gl (Fw.run gl Fs wf n) [some (.dat (.str x)), some (.dat (.str (Str.ofString "abcdefghijklmnopqrstuvwxyz"))), some (.dat (.str ⟨#[c]⟩)), none] (g ++ [.lst zs]) (.cmp .notIn (.var 2) (.bin .add (.var 1) (.str (Str.ofString "0123456789")))) (.bool (!decide (c ∈ allL))) :=
            is_cmp (p := .str ⟨#[c]⟩) (q := .str (Str.ofString "abcdefghijklmnopqrstuvwxyz" ++ Str.ofString "0123456789")) (is_var rfl) (is_bin (p := .str (Str.ofString "abcdefghijklmnopqrstuvwxyz")) (q := .str (Str.ofString "0123456789")) (is_var rfl) is_str rfl) rfl
          have t2 : evc gl (Fw.run gl Fs wf n) (.so (.cmp .notIn (.var 2) (.bin .add (.var 1) (.str (Str.ofString "0123456789"))))) [some (.dat (.str x)), some (.dat (.str (Str.ofString "abcdefghijklmnopqrstuvwxyz"))), some (.dat (.str ⟨#[c]⟩)), none] (g ++ [.lst zs]) = .ok (!decide (c ∈ allL)) (g ++ [.lst zs]) := by
            unfold Is at t
            rw [yc_so, t, Rs.ok_bind]
            rfl
          cases q : (!decide (c ∈ allL)) with
          | false =>
            rw [q] at t2
            exact .inl ⟨by show (if (!decide (c ∈ allL)) = true then _ else none) = none; rw [q]; rfl, t2⟩
          | true =>
            rw [q] at t2
            exact .inr ⟨.str ⟨#[c]⟩, by show (if (!decide (c ∈ allL)) = true then _ else none) = _; rw [q]; rfl, t2, is_var rfl⟩
      have same : ((x.cps.toList.filter fun c => !decide (c ∈ allL)).map fun c => PyData.str ⟨#[c]⟩).isEmpty = x.cps.toList.all fun c => decide (c ∈ letL) || decide (c ∈ figL) := by
        have key : ∀ l : List Nat, ((l.filter fun c => !decide (c ∈ allL)).map fun c => PyData.str ⟨#[c]⟩).isEmpty = l.all fun c => decide (c ∈ letL) || decide (c ∈ figL) := by
          intro l
          induction l with
          | nil => rfl
          | cons c l ih =>
            rw [List.filter_cons, List.all_cons, ← mem_allL c]
            cases decide (c ∈ allL) with
            | true => simpa using ih
            | false => rfl
        exact key _
      have hn : nameS x = ((decide (c ∈ letL) && x.cps.toList.all fun c => decide (c ∈ letL) || decide (c ∈ figL)) && !isWord x) := by
        unfold nameS
        rw [hc]
        cases isWord x with
        | true => simp
        | false =>
          rw [Bool.or_false, h]
          simp
      refine guard_of (r := .bool false) (is_or a1 fun _ => a2) (fun hb => ⟨is_bl, ?_⟩) fun hb => ?_
      · rw [same] at hb
        have z : nameS x = false := by
          rw [hn]
          cases q1 : decide (c ∈ letL) with
          | false => rfl
          | true =>
            rw [q1] at hb
            have hb' : (!(x.cps.toList.all fun c => decide (c ∈ letL) || decide (c ∈ figL))) = true := hb
            rw [Bool.not_eq_true'] at hb'
            rw [hb']
            rfl
        show Rs.ok (Fl.rt (D.dat (PyData.bool (nameS x)))) g = _
        rw [z]
      · rw [same] at hb
        have z : nameS x = !isWord x := by
          rw [hn]
          rw [Bool.or_eq_false_iff, Bool.not_eq_false', Bool.not_eq_false'] at hb
          rw [hb.1, hb.2]
          rfl
        rw [set_of (r := .list (words.map .str)) (is_lst (ps := words.map .str) rfl (by decide))]
        show exs gl (Fw.run gl Fs wf n) wf _ [some (.dat (.str x)), some (.dat (.str (Str.ofString "abcdefghijklmnopqrstuvwxyz"))), none, some (.dat (.list (words.map .str)))] g = _
        show _ = Rs.ok (Fl.rt (D.dat (PyData.bool (nameS x)))) g
        rw [z]
        refine ret_of (is_cmp (p := .str x) (q := .list (words.map .str)) (is_var rfl) (is_var rfl) ?_)
        have y : inD (.str x) (.list (words.map .str)) = some (isWord x) := in_words x
        show (inD (.str x) (.list (words.map .str))).map not = _
        rw [y]
        rfl
  | _ => rfl

mutual
def sz : PyData → Nat
  | .none => 1
  | .bool _ => 1
  | .int _ => 1
  | .str x => x.length + 1
  | .list xs => szs xs + 1
  | .tuple xs => szs xs + 1
  | .dict _ => 0
def szs : List PyData → Nat
  | [] => 0
  | x :: xs => sz x + szs xs + 1
end
structure Ok (p : PyData) : Prop where
  lay : p.canLay0 = true
  show_ : p.showable = true
  small : sz p ≤ 8000
  deep : p.depth ≤ 40
theorem Ok.str {x : Str} (h : Ok (.str x)) : x.length ≤ line := by
  have := h.small
  unfold sz at this
  have : line = 16777216 := rfl
  omega
theorem szs_len : ∀ ps : List PyData, ps.length ≤ szs ps
  | [] => Nat.zero_le _
  | p :: ps => by unfold szs; have := szs_len ps; simp; omega
theorem Ok.len {ps : List PyData} (h : Ok (.tuple ps)) : ps.length ≤ 8000 := by
  have := h.small
  unfold sz at this
  have := szs_len ps
  omega
theorem Ok.mem : ∀ {ps : List PyData} {k d : Nat}, PyData.canLayAll0 ps = true → PyData.showableAll ps = true → szs ps ≤ 8000 → PyData.depthAll ps ≤ 40 → ∀ p ∈ ps, Ok p
  | [], _, _, _, _, _, _, p, h => nomatch h
  | q :: qs, k, d, h1, h2, h3, h4, p, h => by
    rw [PyData.canLayAll0, Bool.and_eq_true] at h1
    rw [PyData.showableAll, Bool.and_eq_true] at h2
    unfold szs at h3
    rw [PyData.depthAll] at h4
    rcases List.mem_cons.mp h with rfl | h
    · exact ⟨h1.1, h2.1, by omega, by omega⟩
    · exact Ok.mem (k := k) (d := d) h1.2 h2.2 (by omega) (by omega) p h
theorem Ok.all {ps : List PyData} (h : Ok (.tuple ps)) : ∀ p ∈ ps, Ok p := by
  have h1 := h.lay
  have h2 := h.show_
  have h3 := h.small
  have h4 := h.deep
  rw [PyData.canLay0] at h1
  rw [PyData.showable] at h2
  unfold sz at h3
  rw [PyData.depth] at h4
  exact Ok.mem (k := 0) (d := 0) h1 h2 (by omega) (by omega)
def numIn (lo hi : Int) : PyData → Bool
  | .int i => decide (lo ≤ i) && decide (i ≤ hi)
  | _ => false
theorem r_is_number (n : Nat) (p : PyData) (lo hi : Int) (g : Gh) : rn wf (n + 1) 21 [.dat p, .dat (.int lo), .dat (.int hi)] g = .ok (.dat (.bool (numIn lo hi p))) g := by
  refine run_dat (d := F__law_is_number) rfl rfl ?_
  cases p with
  | int i =>
    refine ret_of ?_
    have z : Is gl (Fw.run gl Fs wf n) [some (.dat (.int i)), some (.dat (.int lo)), some (.dat (.int hi))] g (.and (.bi (.isi (Str.ofString "int")) (.cons (.var 0) .nil)) (.and (.not (.bi (.isi (Str.ofString "bool")) (.cons (.var 0) .nil))) (.chn .le .le (.var 1) (.var 0) (.var 2)))) (.bool (true && (!false && (decide (lo ≤ i) && decide (i ≤ hi))))) :=
      is_and (is_bi (is_var rfl) rfl) fun _ => is_and (is_not (is_bi (is_var rfl) rfl)) fun _ => is_chn (is_var rfl) (is_var rfl) (is_var rfl) le_int le_int
    exact z
  | _ => rfl
def priced (most : Int) : PyData → Bool
  | .tuple [a, b] => isName a && numIn 1 most b
  | _ => false
theorem r_is_priced (n : Nat) (p : PyData) (most : Int) (g : Gh) (hg : Low g) (ok : Ok p) : rn wf (n + 2) 2 [.dat p, .dat (.int most)] g = .ok (.dat (.bool (priced most p))) g := by
  refine run_dat (d := F_is_priced) rfl rfl ?_
  cases p with
  | tuple ps =>
    show exs gl (Fw.run gl Fs wf (n + 1)) wf F_is_priced.body [some (.dat (.tuple ps)), some (.dat (.int most))] g = _
    have c1 : Is gl (Fw.run gl Fs wf (n + 1)) [some (.dat (.tuple ps)), some (.dat (.int most))] g (.or (.not (.bi (.isi (Str.ofString "tuple")) (.cons (.var 0) .nil))) (.cmp .ne (.bi .len (.cons (.var 0) .nil)) (.int 2))) (.bool (!true || !((ps.length : Int) == 2))) :=
      is_or (is_not (is_bi (is_var rfl) rfl)) fun _ => is_cmp (p := .int ps.length) (q := .int 2) (is_bi (is_var rfl) rfl) is_int rfl
    refine guard_of (r := .bool false) c1 (fun h => ⟨is_bl, ?_⟩) fun h => ?_
    · match ps, h with
      | [], _ => rfl
      | [_], _ => rfl
      | [_, _], h => cases h
      | _ :: _ :: _ :: _, _ => rfl
    · match ps, h, ok with
      | [], h, _ => cases h
      | [_], h, _ => cases h
      | [a, b], _, ok =>
        refine ret_of ?_
        have oa := ok.all a (by simp)
        have A : Is gl (Fw.run gl Fs wf (n + 1)) [some (.dat (.tuple [a, b])), some (.dat (.int most))] g (.call 1 (.cons (.ix (.var 0) (.int 0)) .nil)) (.bool (isName a)) :=
          is_call (ps := [a]) (are_cons (is_ix (p := .tuple [a, b]) (q := .int 0) (is_var rfl) is_int rfl) are_nil) (r_is_name n a g hg fun x e => by subst e; exact oa.str)
        have B : Is gl (Fw.run gl Fs wf (n + 1)) [some (.dat (.tuple [a, b])), some (.dat (.int most))] g (.call 0 (.cons (.ix (.var 0) (.int 1)) .nil)) (.bool (isWhole b)) :=
          is_call (ps := [b]) (are_cons (is_ix (p := .tuple [a, b]) (q := .int 1) (is_var rfl) is_int rfl) are_nil) (r_is_whole n b g)
        show Is _ _ _ _ _ (.bool (isName a && numIn 1 most b))
        refine is_and A fun _ => ?_
        cases b with
        | int i =>
          have z := is_and (p := true) B fun _ => is_chn (o := .le) (p := .le) (a := .int 1) (b := .ix (.var 0) (.int 1)) (c := .var 1) (x := .int 1) (y := .int i) (z := .int most) is_int (is_ix (p := .tuple [a, .int i]) (q := .int 1) (is_var rfl) is_int rfl) (is_var rfl) le_int le_int
          exact z
        | _ => exact is_and (p := false) (q := false) B fun h => nomatch h
      | _ :: _ :: _ :: _, h, _ =>
        exfalso
        simp at h
        omega
  | _ => rfl
def most (part : Nat) : Int := if part = 0 then 8 else 99
def entName (part : Nat) (p : PyData) : PyData :=
  if part = 2 then (if isName p = true then p else .none) else match p with
  | .tuple [a, b] => if (isName a && numIn 1 (most part) b) = true then a else .none
  | _ => .none
theorem eq_int {i j : Int} : cmpD .eq (.int i) (.int j) = some (decide (i = j)) := by
  show some (i == j) = _
  by_cases h : i = j
  · subst h; simp
  · simp [h]
theorem r_entry_name (n part : Nat) (hp : part ≤ 2) (p : PyData) (g : Gh) (hg : Low g) (ok : Ok p) : rn wf (n + 2) 22 [.dat (.int part), .dat p] g = .ok (.dat (entName part p)) g := by
  refine run_dat (d := F__law_entry_name) rfl rfl ?_
  show exs gl (Fw.run gl Fs wf (n + 1)) wf F__law_entry_name.body [some (.dat (.int part)), some (.dat p)] g = _
  have N : ∀ (q : PyData) (fr : Fr) (e : CE), Ok q → Is gl (Fw.run gl Fs wf (n + 1)) fr g e q → Is gl (Fw.run gl Fs wf (n + 1)) fr g (.call 20 (.cons e .nil)) (.bool (isName q)) := fun q fr e oq h =>
    is_call (ps := [q]) (are_cons h are_nil) (r_law_is_name n q g hg (fun x e => by subst e; exact oq.str) oq.lay)
  have c1 : Is gl (Fw.run gl Fs wf (n + 1)) [some (.dat (.int part)), some (.dat p)] g (.cmp .eq (.var 0) (.int 2)) (.bool (decide ((part : Int) = 2))) := is_cmp (p := .int part) (q := .int 2) (is_var rfl) is_int eq_int
  refine guard_of (r := if isName p = true then p else .none) c1 (fun h => ⟨?_, ?_⟩) fun h => ?_
  · refine is_ite (N p _ _ ok (is_var rfl)) (fun hn => ?_) fun hn => ?_
    · rw [if_pos hn]; exact is_var rfl
    · rw [if_neg (by rw [hn]; decide)]; exact is_non
  · have e : part = 2 := by
      have z := of_decide_eq_true h
      omega
    subst e
    unfold entName
    rw [if_pos rfl]
  · have ne : part ≠ 2 := by
      intro z
      subst z
      simp at h
    unfold entName
    rw [if_neg ne]
    cases p with
    | tuple ps =>
      have L : Is gl (Fw.run gl Fs wf (n + 1)) [some (.dat (.int part)), some (.dat (.tuple ps))] g (.cmp .ne (.bi .len (.cons (.var 1) .nil)) (.int 2)) (.bool (!((ps.length : Int) == 2))) := is_cmp (p := .int ps.length) (q := .int 2) (is_bi (is_var rfl) rfl) is_int rfl
      have T : Is gl (Fw.run gl Fs wf (n + 1)) [some (.dat (.int part)), some (.dat (.tuple ps))] g (.not (.bi (.isi (Str.ofString "tuple")) (.cons (.var 1) .nil))) (.bool (!true)) := is_not (is_bi (is_var rfl) rfl)
      by_cases two : ps.length = 2
      · match ps, two, ok with
        | [a, b], _, ok =>
          have oa := ok.all a (by simp)
          have A : Is gl (Fw.run gl Fs wf (n + 1)) [some (.dat (.int part)), some (.dat (.tuple [a, b]))] g (.ix (.var 1) (.int 0)) a := is_ix (p := .tuple [a, b]) (q := .int 0) (is_var rfl) is_int rfl
          have B : Is gl (Fw.run gl Fs wf (n + 1)) [some (.dat (.int part)), some (.dat (.tuple [a, b]))] g (.ix (.var 1) (.int 1)) b := is_ix (p := .tuple [a, b]) (q := .int 1) (is_var rfl) is_int rfl
          have c2 := is_or (p := !true) (q := false || !isName a) T fun _ => is_or (p := false) (q := !isName a) L fun _ => is_not (N a _ _ oa A)
          refine guard_of (r := .none) c2 (fun h2 => ⟨is_non, ?_⟩) fun h2 => ?_
          · have z : isName a = false := by simpa using h2
            show Rs.ok (Fl.rt (D.dat (if (isName a && numIn 1 (most part) b) = true then a else PyData.none))) g = _
            rw [z]
            rfl
          · have z : isName a = true := by simpa using h2
            have M : Is gl (Fw.run gl Fs wf (n + 1)) [some (.dat (.int part)), some (.dat (.tuple [a, b]))] g (.ix (.lst false (.cons (.int 8) (.cons (.int 99) .nil))) (.var 0)) (.int (most part)) := by
              refine is_ix (p := .list [.int 8, .int 99]) (q := .int part) (is_lst (are_cons is_int (are_cons is_int are_nil)) (by decide)) (is_var rfl) ?_
              have : part = 0 ∨ part = 1 := by omega
              rcases this with rfl | rfl <;> rfl
            have Q : Is gl (Fw.run gl Fs wf (n + 1)) [some (.dat (.int part)), some (.dat (.tuple [a, b]))] g (.call 21 (.cons (.ix (.var 1) (.int 1)) (.cons (.int 1) (.cons (.ix (.lst false (.cons (.int 8) (.cons (.int 99) .nil))) (.var 0)) .nil)))) (.bool (numIn 1 (most part) b)) :=
              is_call (ps := [b, .int 1, .int (most part)]) (are_cons B (are_cons is_int (are_cons M are_nil))) (r_is_number n b 1 (most part) g)
            show _ = Rs.ok (Fl.rt (D.dat (if (isName a && numIn 1 (most part) b) = true then a else PyData.none))) g
            rw [z, Bool.true_and]
            refine ret_of (is_ite Q (fun hn => ?_) fun hn => ?_)
            · rw [if_pos hn]; exact A
            · rw [if_neg (by rw [hn]; decide)]; exact is_non
      · have t2 : (!((ps.length : Int) == 2)) = true := by
          rw [Bool.not_eq_true', beq_eq_false_iff_ne]
          omega
        have c2 := is_or (p := !true) (q := true || false) T fun _ => is_or (b := .not (.call 20 (.cons (.ix (.var 1) (.int 0)) .nil))) (p := true) (q := false) (by rw [← t2]; exact L) fun z => nomatch z
        refine guard_of (r := .none) c2 (fun _ => ⟨is_non, ?_⟩) fun h2 => nomatch h2
        match ps, two with
        | [], _ => rfl
        | [_], _ => rfl
        | [_, _], two => exact absurd rfl two
        | _ :: _ :: _ :: _, _ => rfl
    | _ => rfl
end Law
end
set_option Elab.async false
set_option linter.all false
set_option maxRecDepth 100000
set_option maxHeartbeats 4000000
noncomputable section
namespace Law
open PySem PySem.Spec PyProof.Rows L2 Fw
variable {wf : Nat}
def nm (most : Option Int) (p : PyData) : Option Str :=
  match most, p with
  | none, .str x => if nameS x = true then some x else none
  | some m, .tuple [.str x, b] => if (nameS x && numIn 1 m b) = true then some x else none
  | _, _ => none
def fb (most : Option Int) : List PyData → Nat → List Str → Option Nat × List Str
  | [], _, met => (none, met)
  | p :: ps, i, met => match nm most p with
    | none => (some i, met)
    | some x => if x ∈ met then (some i, met) else fb most ps (i + 1) (met ++ [x])
def mostD : Option Int → PyData
  | none => .none
  | some m => .int m
def optI : Option Nat → PyData
  | none => .none
  | some i => .int i
theorem run_datW {Fs : List FDef} {n f : Nat} {d : FDef} {ds : List D} {g g1 : Gh} {p : PyData} (hd : Fs[f]? = some d) (hl : ds.length = d.np) (hg : g1.length = g.length) (h : exs gl (Fw.run gl Fs wf n) wf d.body (ds.map some ++ List.replicate (d.ns - d.np) none) g = .ok (.rt (.dat p)) g1) :
    Fw.run gl Fs wf (n + 1) f ds g = .ok (.dat p) g1 := by
  unfold Fw.run
  rw [hd]
  dsimp only
  rw [if_pos hl, h]
  dsimp only
  rw [← hg]
  exact fin_dat _ _ _
def metO (met : List Str) : Ob := .lst (met.map fun x => .dat (.str x))
theorem metO_dats (met : List Str) : datsOf (met.map fun x => D.dat (.str x)) = some (met.map .str) := by
  have := datsOf_map (met.map PyData.str)
  rw [List.map_map] at this
  exact this
theorem low_put {g : Gh} {r : Nat} {met : List Str} (hg : Low g) : Low (putO g r (metO met)) := by
  unfold Low putO at *
  rw [List.length_set]
  rw [List.all_eq_true] at *
  intro o ho
  rcases List.mem_or_eq_of_mem_set ho with h | rfl
  · exact hg o h
  · show (met.map fun x => D.dat (.str x)).all (belowD _) = true
    rw [List.all_map]
    simp [belowD]
theorem nm_is (m : Option Int) (p : PyData) : (nm m p).isSome = (match m with | none => isName p | some k => priced k p) := by
  cases m with
  | none =>
    cases p with
    | str x =>
      show (if nameS x = true then some x else none).isSome = nameS x
      cases nameS x <;> rfl
    | _ => rfl
  | some k =>
    cases p with
    | tuple ps => match ps with
      | [] => rfl
      | [a] => cases a <;> rfl
      | [a, b] => cases a with
        | str x =>
          show (if (nameS x && numIn 1 k b) = true then some x else none).isSome = (nameS x && numIn 1 k b)
          cases (nameS x && numIn 1 k b) <;> rfl
        | _ => rfl
      | a :: b :: c :: d => cases a <;> rfl
    | _ => rfl
theorem in_met (x : Str) (met : List Str) : inD (.str x) (.list (met.map .str)) = some (decide (x ∈ met)) := by
  have z : (flatD (.str x) && (met.map PyData.str).all flatD) = true := by
    rw [List.all_map]
    simp [flatD]
  show (if flatD (.str x) && (met.map PyData.str).all flatD then some ((met.map PyData.str).any fun z => PyData.eqv z (.str x)) else _) = _
  rw [if_pos z, List.any_map]
  congr 1
  induction met with
  | nil => rfl
  | cons y met ih =>
    have ih := ih (by rw [List.all_map]; simp [flatD])
    rw [List.any_cons, ih]
    show ((y == x) || decide (x ∈ met)) = decide (x ∈ y :: met)
    by_cases h : y = x
    · subst h; simp
    · have : ¬ x = y := fun z => h z.symm
      simp [h, this]
abbrev FB : CSs := (.cons (.ife (.not (.ite (.cmp .is_ (.var 2) .non) (.call 1 (.cons (.var 4) .nil)) (.call 2 (.cons (.var 4) (.cons (.var 2) .nil))))) (.cons (.ret (.var 3)) .nil) .nil) (.cons (.set (.nm 5) (.ite (.cmp .is_ (.var 2) .non) (.var 4) (.ix (.var 4) (.int 0)))) (.cons (.ife (.cmp .isIn (.var 5) (.var 0)) (.cons (.ret (.var 3)) .nil) .nil) (.cons (.expr (.mth .append (.var 0) (.cons (.var 5) .nil))) .nil))))
theorem is_non_of (m : Option Int) : cmpD .is_ (mostD m) .none = some m.isNone := by
  cases m <;> rfl
theorem fb_turn (n r : Nat) (m : Option Int) (p : PyData) (i : Nat) (met : List Str) (es : D) (x5 : Option D) (g : Gh) (hg : Low g) (hr : g[r]? = some (metO met)) (ok : Ok p) (hz : met.length < line) :
    exs gl (Fw.run gl Fs wf (n + 2)) wf FB [some (.ref r), some es, some (.dat (mostD m)), some (.dat (.int i)), some (.dat p), x5] g = match nm m p with
      | none => .ok (.rt (.dat (.int i))) g
      | some x => if x ∈ met then .ok (.rt (.dat (.int i))) g else .ok (.nx [some (.ref r), some es, some (.dat (mostD m)), some (.dat (.int i)), some (.dat p), some (.dat (.str x))]) (putO g r (metO (met ++ [x]))) := by
  have C : ∀ y, Is gl (Fw.run gl Fs wf (n + 2)) [some (.ref r), some es, some (.dat (mostD m)), some (.dat (.int i)), some (.dat p), y] g (.cmp .is_ (.var 2) .non) (.bool m.isNone) := fun y => is_cmp (p := mostD m) (q := .none) (is_var rfl) is_non (is_non_of m)
  have V4 : ∀ y, Is gl (Fw.run gl Fs wf (n + 2)) [some (.ref r), some es, some (.dat (mostD m)), some (.dat (.int i)), some (.dat p), y] g (.var 4) p := fun y => is_var rfl
  have T : Is gl (Fw.run gl Fs wf (n + 2)) [some (.ref r), some es, some (.dat (mostD m)), some (.dat (.int i)), some (.dat p), x5] g (.ite (.cmp .is_ (.var 2) .non) (.call 1 (.cons (.var 4) .nil)) (.call 2 (.cons (.var 4) (.cons (.var 2) .nil)))) (.bool (nm m p).isSome) := by
    rw [nm_is]
    cases m with
    | none => exact is_ite (C x5) (fun _ => is_call (ps := [p]) (are_cons (V4 x5) are_nil) (r_is_name (n + 1) p g hg fun x e => by subst e; exact ok.str)) fun z => nomatch z
    | some k => exact is_ite (C x5) (fun z => nomatch z) fun _ => is_call (ps := [p, .int k]) (are_cons (V4 x5) (are_cons (is_var rfl) are_nil)) (r_is_priced n p k g hg ok)
  refine guard_of (r := .int i) (is_not T) (fun h => ⟨is_var rfl, ?_⟩) fun h => ?_
  · cases q : nm m p with
    | none => rfl
    | some x => rw [q] at h; cases h
  · cases q : nm m p with
    | none => rw [q] at h; cases h
    | some x =>
      dsimp only
      have S : Is gl (Fw.run gl Fs wf (n + 2)) [some (.ref r), some es, some (.dat (mostD m)), some (.dat (.int i)), some (.dat p), x5] g (.ite (.cmp .is_ (.var 2) .non) (.var 4) (.ix (.var 4) (.int 0))) (.str x) := by
        cases m with
        | none =>
          refine is_ite (C x5) (fun _ => ?_) fun z => nomatch z
          cases p with
          | str y =>
            have q' : (if nameS y = true then some y else none) = some x := q
            split at q' <;> cases q'
            exact V4 x5
          | _ => cases q
        | some k =>
          refine is_ite (C x5) (fun z => nomatch z) fun _ => ?_
          cases p with
          | tuple ps => match ps, q with
            | [.str y, b], q =>
              have q' : (if (nameS y && numIn 1 k b) = true then some y else none) = some x := q
              split at q' <;> cases q'
              exact is_ix (p := .tuple [.str x, b]) (q := .int 0) (V4 x5) is_int rfl
          | _ => cases q
      rw [set_of S]
      show exs gl (Fw.run gl Fs wf (n + 2)) wf _ [some (.ref r), some es, some (.dat (mostD m)), some (.dat (.int i)), some (.dat p), some (.dat (.str x))] g = _
      have G0 : getL g r = some (met.map fun x => .dat (.str x)) := by unfold getL; rw [hr]; rfl
      have I : Is gl (Fw.run gl Fs wf (n + 2)) [some (.ref r), some es, some (.dat (mostD m)), some (.dat (.int i)), some (.dat p), some (.dat (.str x))] g (.cmp .isIn (.var 5) (.var 0)) (.bool (decide (x ∈ met))) := by
        unfold Is
        rw [y_cmp, y_var (d := .dat (.str x)) rfl, Rs.ok_bind, y_var (d := .ref r) rfl, Rs.ok_bind]
        show Rs.ofB ((viaR g r).bind fun q => cmpD .isIn (.str x) q) g = _
        unfold viaR
        rw [G0]
        show Rs.ofB (((datsOf (met.map fun x => D.dat (.str x))).map PyData.list).bind fun q => cmpD .isIn (.str x) q) g = _
        rw [metO_dats]
        show Rs.ofB (inD (.str x) (.list (met.map .str))) g = _
        rw [in_met]
        rfl
      refine guard_of (r := .int i) I (fun h2 => ⟨is_var rfl, ?_⟩) fun h2 => ?_
      · rw [if_pos (of_decide_eq_true h2)]
      · rw [if_neg (of_decide_eq_false h2), yxs_cons, yx_expr, y_mth, y_var (d := .ref r) rfl, Rs.ok_bind]
        have L : isL (.ref r) g = true := by show (getL g r).isSome = true; rw [G0]; rfl
        rw [if_pos L, ys_cons, y_var (d := .dat (.str x)) rfl, Rs.ok_bind, ys_nil, Rs.ok_bind, Rs.ok_bind]
        have A : mtd .append (.ref r) [.dat (.str x)] g = .ok (.dat .none) (putO g r (metO (met ++ [x]))) := by
          show (match getL g r with
            | some xs => if xs.length < line then Rs.ok (D.dat .none) (putO g r (.lst (xs ++ [D.dat (.str x)]))) else Rs.bad
            | none => Rs.bad) = _
          rw [G0]
          dsimp only
          rw [if_pos (by simpa using hz)]
          unfold metO
          simp
        rw [A, Rs.ok_bind, Rs.ok_bind]
        rfl
theorem put_same {g : Gh} {r : Nat} {o : Ob} (h : g[r]? = some o) : putO g r o = g := by
  unfold putO
  apply List.ext_getElem?
  intro j
  by_cases hj : r = j
  · subst hj
    rw [h, List.getElem?_set_self (List.getElem?_eq_some_iff.mp h).1]
  · rw [List.getElem?_set_ne hj]
theorem put_put {g : Gh} {r : Nat} {a b : Ob} : putO (putO g r a) r b = putO g r b := by
  unfold putO
  simp
theorem put_get {g : Gh} {r : Nat} {o a : Ob} (h : g[r]? = some o) : (putO g r a)[r]? = some a := by
  unfold putO
  rw [List.getElem?_set_self (List.getElem?_eq_some_iff.mp h).1]
def enumI (ps : List PyData) (i : Nat) : List Itm := ((ps.map D.dat).zipIdx i).map fun p => Itm.two (.dat (.int (p.2 : Nat))) p.1
theorem enumI_cons (p : PyData) (ps : List PyData) (i : Nat) : enumI (p :: ps) i = Itm.two (.dat (.int (i : Nat))) (.dat p) :: enumI ps (i + 1) := by
  unfold enumI
  rw [List.map_cons, List.zipIdx_cons, List.map_cons]
theorem fb_loop (n r : Nat) (m : Option Int) (es : D) : ∀ (ps : List PyData) (i : Nat) (met : List Str) (x3 x4 x5 : Option D) (g : Gh), Low g → g[r]? = some (metO met) → (∀ p ∈ ps, Ok p) → met.length + ps.length ≤ line →
    ∃ fr', forGo (fun fr g => exs gl (Fw.run gl Fs wf (n + 2)) wf FB fr g) (.tp [.nm 3, .nm 4]) none (enumI ps i) [some (.ref r), some es, some (.dat (mostD m)), x3, x4, x5] g =
      match (fb m ps i met).1 with
      | some j => .ok (.rt (.dat (.int j))) (putO g r (metO (fb m ps i met).2))
      | none => .ok (.nx fr') (putO g r (metO (fb m ps i met).2))
  | [], i, met, x3, x4, x5, g, hg, hr, ok, hz => by
    refine ⟨[some (.ref r), some es, some (.dat (mostD m)), x3, x4, x5], ?_⟩
    show (if stillL none g then Rs.ok (Fl.nx _) g else .bad) = Rs.ok (Fl.nx _) (putO g r (metO met))
    rw [if_pos (show stillL none g from True.intro), put_same hr]
  | p :: ps, i, met, x3, x4, x5, g, hg, hr, ok, hz => by
    rw [enumI_cons]
    have hz' : met.length + (ps.length + 1) ≤ line := hz
    have T := fb_turn (wf := wf) n r m p i met es x5 g hg hr (ok p (List.mem_cons_self)) (by omega)
    have step : forGo (fun fr g => exs gl (Fw.run gl Fs wf (n + 2)) wf FB fr g) (.tp [.nm 3, .nm 4]) none (Itm.two (.dat (.int (i : Nat))) (.dat p) :: enumI ps (i + 1)) [some (.ref r), some es, some (.dat (mostD m)), x3, x4, x5] g =
        (exs gl (Fw.run gl Fs wf (n + 2)) wf FB [some (.ref r), some es, some (.dat (mostD m)), some (.dat (.int i)), some (.dat p), x5] g).bind fun f g1 => match f with
          | .nx fr2 => forGo (fun fr g => exs gl (Fw.run gl Fs wf (n + 2)) wf FB fr g) (.tp [.nm 3, .nm 4]) none (enumI ps (i + 1)) fr2 g1
          | .ct fr2 => forGo (fun fr g => exs gl (Fw.run gl Fs wf (n + 2)) wf FB fr g) (.tp [.nm 3, .nm 4]) none (enumI ps (i + 1)) fr2 g1
          | .bk fr2 => .ok (.nx fr2) g1
          | .rt d => .ok (.rt d) g1 := by
      conv => lhs; unfold forGo
      rw [if_pos (show stillL none g from True.intro)]
      rfl
    rw [step, T]
    unfold fb
    cases q : nm m p with
    | none =>
      refine ⟨[], ?_⟩
      dsimp only
      rw [Rs.ok_bind, put_same hr]
    | some x =>
      dsimp only
      by_cases hx : x ∈ met
      · refine ⟨[], ?_⟩
        rw [if_pos hx, if_pos hx, Rs.ok_bind, put_same hr]
      · rw [if_neg hx, if_neg hx, Rs.ok_bind]
        obtain ⟨fr', ih⟩ := fb_loop n r m es ps (i + 1) (met ++ [x]) (some (.dat (.int i))) (some (.dat p)) (some (.dat (.str x))) (putO g r (metO (met ++ [x]))) (low_put hg) (put_get hr) (fun p hp => ok p (List.mem_cons_of_mem _ hp)) (by rw [List.length_append]; simp; omega)
        refine ⟨fr', ?_⟩
        dsimp only
        rw [ih, put_put]
theorem r_first_bad (n r : Nat) (m : Option Int) (ps : List PyData) (met : List Str) (g : Gh) (hg : Low g) (hr : g[r]? = some (metO met)) (ok : ∀ p ∈ ps, Ok p) (hz : met.length + ps.length ≤ line) :
    rn wf (n + 3) 3 [.ref r, .dat (.tuple ps), .dat (mostD m)] g = .ok (.dat (optI (fb m ps 0 met).1)) (putO g r (metO (fb m ps 0 met).2)) := by
  refine run_datW (d := F_first_bad) rfl rfl (by unfold putO; rw [List.length_set]) ?_
  show exs gl (Fw.run gl Fs wf (n + 2)) wf (.cons (.for_ (.tp [(.nm 3), (.nm 4)]) (.enum (.var 1)) FB) (.cons (.ret .non) .nil)) [some (.ref r), some (.dat (.tuple ps)), some (.dat (mostD m)), none, none, none] g = _
  obtain ⟨fr', L⟩ := fb_loop (wf := wf) n r m (.dat (.tuple ps)) ps 0 met none none none g hg hr ok hz
  have S : evi gl (Fw.run gl Fs wf (n + 2)) (.enum (.var 1)) [some (.ref r), some (.dat (.tuple ps)), some (.dat (mostD m)), none, none, none] g = .ok (enumI ps 0, none) g := by
    rw [yi_enum, y_var (d := .dat (.tuple ps)) rfl, Rs.ok_bind]
    rfl
  rw [yxs_cons, yx_for, S, Rs.ok_bind]
  dsimp only
  rw [L]
  cases (fb m ps 0 met).1 with
  | none => rfl
  | some j => rfl
def prod : List PyData → Int → Int
  | [], k => k
  | .tuple [_, .int i] :: ps, k => prod ps (k * i)
  | _ :: ps, k => prod ps k
def Sized (ps : List PyData) : Prop := ∀ p ∈ ps, ∃ a i, p = .tuple [a, .int i] ∧ 0 ≤ i ∧ i ≤ 1000000
theorem many_loop (n : Nat) (c : D) : ∀ (ps : List PyData) (k : Int) (x2 x3 : Option D) (g : Gh), Sized ps →
    ∃ a b, forGo (fun fr g => exs gl (Fw.run gl Fs wf n) wf (.cons (.set (.nm 1) (.bin .mul (.var 1) (.var 3))) .nil) fr g) (.tp [.nm 2, .nm 3]) none ((ps.map D.dat).map .one) [some c, some (.dat (.int k)), x2, x3] g =
      .ok (.nx [some c, some (.dat (.int (prod ps k))), a, b]) g
  | [], k, x2, x3, g, _ => ⟨x2, x3, by
    show (if stillL none g then Rs.ok (Fl.nx _) g else .bad) = _
    rw [if_pos (show stillL none g from True.intro)]
    rfl⟩
  | p :: ps, k, x2, x3, g, h => by
    obtain ⟨a0, i, rfl, h0, h1⟩ := h p (List.mem_cons_self)
    obtain ⟨a, b, ih⟩ := many_loop n c ps (k * i) (some (.dat a0)) (some (.dat (.int i))) g fun q hq => h q (List.mem_cons_of_mem _ hq)
    refine ⟨a, b, ?_⟩
    have B : exs gl (Fw.run gl Fs wf n) wf (.cons (.set (.nm 1) (.bin .mul (.var 1) (.var 3))) .nil) [some c, some (.dat (.int k)), some (.dat a0), some (.dat (.int i))] g = .ok (.nx [some c, some (.dat (.int (k * i))), some (.dat a0), some (.dat (.int i))]) g := by
      rw [set_of (r := .int (k * i)) (is_bin (p := .int k) (q := .int i) (is_var rfl) (is_var rfl) ?_)]
      · rfl
      · show (if (-(2 ^ 64) < k ∧ k < 2 ^ 64) ∨ (-(2 ^ 64) < i ∧ i < 2 ^ 64) then some (PyData.int (k * i)) else none) = _
        rw [if_pos (.inr (by omega))]
    conv => lhs; unfold forGo
    rw [List.map_cons, List.map_cons]
    dsimp only
    rw [if_pos (show stillL none g from True.intro)]
    show (exs gl (Fw.run gl Fs wf n) wf (.cons (.set (.nm 1) (.bin .mul (.var 1) (.var 3))) .nil) [some c, some (.dat (.int k)), some (.dat a0), some (.dat (.int i))] g).bind _ = _
    rw [B, Rs.ok_bind]
    exact ih
theorem r_many_of (n : Nat) (ps : List PyData) (g : Gh) (h : Sized ps) : rn wf (n + 1) 4 [.dat (.tuple ps)] g = .ok (.dat (.int (prod ps 1))) g := by
  refine run_dat (d := F_many_of) rfl rfl ?_
  show exs gl (Fw.run gl Fs wf n) wf F_many_of.body [some (.dat (.tuple ps)), none, none, none] g = _
  show exs gl (Fw.run gl Fs wf n) wf (.cons (.set (.nm 1) (.int 1)) _) [some (.dat (.tuple ps)), none, none, none] g = _
  rw [set_of (r := .int 1) is_int]
  show exs gl (Fw.run gl Fs wf n) wf (.cons (.for_ (.tp [(.nm 2), (.nm 3)]) (.seq (.var 0)) (.cons (.set (.nm 1) (.bin .mul (.var 1) (.var 3))) .nil)) (.cons (.ret (.var 1)) .nil)) [some (.dat (.tuple ps)), some (.dat (.int 1)), none, none] g = _
  obtain ⟨a, b, L⟩ := many_loop (wf := wf) n (.dat (.tuple ps)) ps 1 none none g h
  have S : evi gl (Fw.run gl Fs wf n) (.seq (.var 0)) [some (.dat (.tuple ps)), some (.dat (.int 1)), none, none] g = .ok ((ps.map D.dat).map .one, none) g := by
    rw [yi_seq, y_var (d := .dat (.tuple ps)) rfl, Rs.ok_bind]
    rfl
  rw [yxs_cons, yx_for, S, Rs.ok_bind]
  dsimp only
  rw [L]
  rfl
theorem fb_sized (m : Int) (hm : m ≤ 1000000) : ∀ (ps : List PyData) (i : Nat) (met : List Str), (fb (some m) ps i met).1 = none → Sized ps
  | [], _, _, _ => fun p h => nomatch h
  | p :: ps, i, met, h => by
    unfold fb at h
    cases q : nm (some m) p with
    | none => rw [q] at h; cases h
    | some x =>
      rw [q] at h
      dsimp only at h
      split at h
      · cases h
      · have ih := fb_sized m hm ps (i + 1) (met ++ [x]) h
        intro z hz
        rcases List.mem_cons.mp hz with rfl | hz
        · cases z with
          | tuple es => match es, q with
            | [.str y, b], q =>
              have q' : (if (nameS y && numIn 1 m b) = true then some y else none) = some x := q
              split at q'
              · rename_i hq
                rw [Bool.and_eq_true] at hq
                cases b with
                | int j =>
                  have hj : (decide (1 ≤ j) && decide (j ≤ m)) = true := hq.2
                  rw [Bool.and_eq_true, decide_eq_true_eq, decide_eq_true_eq] at hj
                  exact ⟨_, j, rfl, by omega, by omega⟩
                | _ => cases hq.2
              · cases q'
          | _ => cases q
        · exact ih z hz
end Law
end
set_option Elab.async false
set_option linter.all false
set_option maxRecDepth 100000
set_option maxHeartbeats 4000000
noncomputable section
namespace Law
open PySem PySem.Spec PyProof.Rows L2 Fw
variable {wf : Nat}
abbrev WB : CSs := (.cons (.ife (.not (.chn .le .le (.var 5) (.bi .len (.cons (.ix (.var 0) (.var 3)) .nil)) (.var 6))) (.cons (.ret (.tup (.cons (.var 3) (.cons (.neg (.int 1)) .nil)))) .nil) .nil) (.cons (.set (.nm 7) (.call 3 (.cons (.var 1) (.cons (.ix (.var 0) (.var 3)) (.cons (.var 4) .nil))))) (.cons (.ife (.cmp .isNot (.var 7) .non) (.cons (.ret (.tup (.cons (.var 3) (.cons (.var 7) .nil)))) .nil) .nil) (.cons (.ife (.and (.cmp .eq (.var 3) (.int 0)) (.cmp .gt (.call 4 (.cons (.ix (.var 0) (.int 0)) .nil)) (.gl "MOST_STATES"))) (.cons (.ret (.tup (.cons (.int 0) (.cons (.neg (.int 1)) .nil)))) .nil) .nil) .nil))))
def pairD (a b : Int) : PyData := .tuple [.int a, .int b]
def part1 (q : Nat) (m : Option Int) (lo hi : Int) (ps : List PyData) (met : List Str) : Option PyData × List Str :=
  if (decide (lo ≤ (ps.length : Int)) && decide ((ps.length : Int) ≤ hi)) = true then
    match (fb m ps 0 met).1 with
    | some i => (some (pairD q i), (fb m ps 0 met).2)
    | none => if q = 0 ∧ 64 < prod ps 1 then (some (pairD 0 (-1)), (fb m ps 0 met).2) else (none, (fb m ps 0 met).2)
  else (some (pairD q (-1)), met)
theorem wp_turn (n r q : Nat) (m : Option Int) (lo hi : Int) (ps ts : List PyData) (B : D) (met : List Str) (x7 : Option D) (g : Gh) (hg : Low g) (hr : g[r]? = some (metO met)) (ok : ∀ p ∈ ps, Ok p) (hz : met.length + ps.length ≤ line)
    (hq : ixD (.tuple ts) (.int q) = some (.tuple ps)) (h0 : q = 0 → m = some 8 ∧ ixD (.tuple ts) (.int 0) = some (.tuple ps)) :
    ∃ x, exs gl (Fw.run gl Fs wf (n + 3)) wf WB [some (.dat (.tuple ts)), some (.ref r), some B, some (.dat (.int q)), some (.dat (mostD m)), some (.dat (.int lo)), some (.dat (.int hi)), x7] g =
      match (part1 q m lo hi ps met).1 with
      | some d => .ok (.rt (.dat d)) (putO g r (metO (part1 q m lo hi ps met).2))
      | none => .ok (.nx [some (.dat (.tuple ts)), some (.ref r), some B, some (.dat (.int q)), some (.dat (mostD m)), some (.dat (.int lo)), some (.dat (.int hi)), x]) (putO g r (metO (part1 q m lo hi ps met).2)) := by
  have I : ∀ (x : Option D) (g : Gh), Is gl (Fw.run gl Fs wf (n + 3)) [some (.dat (.tuple ts)), some (.ref r), some B, some (.dat (.int q)), some (.dat (mostD m)), some (.dat (.int lo)), some (.dat (.int hi)), x] g (.ix (.var 0) (.var 3)) (.tuple ps) :=
    fun x g => is_ix (p := .tuple ts) (q := .int q) (is_var rfl) (is_var rfl) hq
  have C : Is gl (Fw.run gl Fs wf (n + 3)) [some (.dat (.tuple ts)), some (.ref r), some B, some (.dat (.int q)), some (.dat (mostD m)), some (.dat (.int lo)), some (.dat (.int hi)), x7] g (.not (.chn .le .le (.var 5) (.bi .len (.cons (.ix (.var 0) (.var 3)) .nil)) (.var 6)))
      (.bool (!(decide (lo ≤ (ps.length : Int)) && decide ((ps.length : Int) ≤ hi)))) := is_not (is_chn (x := .int lo) (y := .int ps.length) (z := .int hi) (is_var rfl) (is_bi (I x7 g) rfl) (is_var rfl) le_int le_int)
  unfold part1
  cases hc : (decide (lo ≤ (ps.length : Int)) && decide ((ps.length : Int) ≤ hi)) with
  | false =>
    rw [hc] at C
    refine ⟨none, ?_⟩
    rw [if_neg (by decide), put_same hr]
    exact guard_of (r := pairD q (-1)) C (fun _ => ⟨is_tup (ps := [.int q, .int (-1)]) (are_cons (is_var rfl) (are_cons (is_neg is_int) are_nil)) (show 2 ≤ line by decide), rfl⟩) fun z => nomatch z
  | true =>
    rw [hc] at C
    rw [if_pos rfl]
    have F := r_first_bad (wf := wf) n r m ps met g hg hr ok hz
    have S : ev gl (Fw.run gl Fs wf (n + 3)) (.call 3 (.cons (.var 1) (.cons (.ix (.var 0) (.var 3)) (.cons (.var 4) .nil)))) [some (.dat (.tuple ts)), some (.ref r), some B, some (.dat (.int q)), some (.dat (mostD m)), some (.dat (.int lo)), some (.dat (.int hi)), x7] g = .ok (.dat (optI (fb m ps 0 met).1)) (putO g r (metO (fb m ps 0 met).2)) := by
      have i := I x7 g
      unfold Is at i
      rw [y_call, ys_cons, y_var (d := .ref r) rfl, Rs.ok_bind, ys_cons, i, Rs.ok_bind, ys_cons, y_var (d := .dat (mostD m)) rfl, Rs.ok_bind, ys_nil, Rs.ok_bind, Rs.ok_bind, Rs.ok_bind, Rs.ok_bind]
      exact F
    generalize hf : fb m ps 0 met = res at S
    obtain ⟨o, met2⟩ := res
    dsimp only at S ⊢
    have set1 : ∀ ss : CSs, exs gl (Fw.run gl Fs wf (n + 3)) wf (.cons (.set (.nm 7) (.call 3 (.cons (.var 1) (.cons (.ix (.var 0) (.var 3)) (.cons (.var 4) .nil))))) ss) [some (.dat (.tuple ts)), some (.ref r), some B, some (.dat (.int q)), some (.dat (mostD m)), some (.dat (.int lo)), some (.dat (.int hi)), x7] g =
        exs gl (Fw.run gl Fs wf (n + 3)) wf ss [some (.dat (.tuple ts)), some (.ref r), some B, some (.dat (.int q)), some (.dat (mostD m)), some (.dat (.int lo)), some (.dat (.int hi)), some (.dat (optI o))] (putO g r (metO met2)) := fun ss => by
      rw [yxs_cons, yx_set, S, Rs.ok_bind]
      rfl
    refine ⟨some (.dat (optI o)), guard_of (r := .none) C (fun z => nomatch z) fun _ => ?_⟩
    rw [set1]
    cases o with
    | some i => exact guard_of (r := pairD q i) (p := true) (is_cmp (p := .int i) (q := .none) (is_var rfl) is_non rfl) (fun _ => ⟨is_tup (ps := [.int q, .int i]) (are_cons (is_var rfl) (are_cons (is_var rfl) are_nil)) (show 2 ≤ line by decide), rfl⟩) fun z => nomatch z
    | none =>
      refine guard_of (r := .none) (p := false) (is_cmp (p := .none) (q := .none) (is_var rfl) is_non rfl) (fun z => nomatch z) fun _ => ?_
      dsimp only
      have Z : Is gl (Fw.run gl Fs wf (n + 3)) [some (.dat (.tuple ts)), some (.ref r), some B, some (.dat (.int q)), some (.dat (mostD m)), some (.dat (.int lo)), some (.dat (.int hi)), some (.dat .none)] (putO g r (metO met2)) (.cmp .eq (.var 3) (.int 0)) (.bool (decide ((q : Int) = 0))) := is_cmp (p := .int q) (q := .int 0) (is_var rfl) is_int eq_int
      by_cases hq0 : q = 0
      · obtain ⟨rfl, h00⟩ := h0 hq0
        have sized : Sized ps := fb_sized 8 (by decide) ps 0 met (by rw [hf])
        have M : Is gl (Fw.run gl Fs wf (n + 3)) [some (.dat (.tuple ts)), some (.ref r), some B, some (.dat (.int q)), some (.dat (mostD (some 8))), some (.dat (.int lo)), some (.dat (.int hi)), some (.dat .none)] (putO g r (metO met2)) (.cmp .gt (.call 4 (.cons (.ix (.var 0) (.int 0)) .nil)) (.gl "MOST_STATES")) (.bool (decide (64 < prod ps 1))) :=
          is_cmp (p := .int (prod ps 1)) (q := .int 64) (is_call (ps := [.tuple ps]) (are_cons (is_ix (p := .tuple ts) (q := .int 0) (is_var rfl) is_int h00) are_nil) (r_many_of (n + 2) ps _ sized)) (is_gl rfl) gt_int
        have CC := is_and Z fun _ => M
        subst hq0
        by_cases big : 64 < prod ps 1
        · rw [if_pos ⟨rfl, big⟩]
          refine guard_of (r := pairD 0 (-1)) (p := true) ?_ (fun _ => ⟨is_tup (ps := [.int 0, .int (-1)]) (are_cons is_int (are_cons (is_neg is_int) are_nil)) (by decide), rfl⟩) fun z => nomatch z
          rw [decide_eq_true big] at CC
          exact CC
        · rw [if_neg (fun z => big z.2)]
          refine guard_of (r := .none) (p := false) ?_ (fun z => nomatch z) fun _ => rfl
          rw [decide_eq_false big] at CC
          exact CC
      · rw [if_neg (fun z => hq0 z.1)]
        refine guard_of (r := .none) (p := false && false) (is_and (p := false) ?_ fun z => nomatch z) (fun z => nomatch z) fun _ => rfl
        have z : decide ((q : Int) = 0) = false := by
          rw [decide_eq_false_iff_not]
          omega
        rw [z] at Z
        exact Z
def wrong (c k e : List PyData) : Option PyData :=
  match part1 0 (some 8) 0 4 c [] with
  | (some d, _) => some d
  | (none, m1) => match part1 1 (some 99) 0 3 k m1 with
    | (some d, _) => some d
    | (none, m2) => (part1 2 none 1 4 e m2).1
def optD : Option PyData → PyData
  | none => .none
  | some d => d
theorem part1_met {q : Nat} {m : Option Int} {lo hi : Int} {ps : List PyData} {met : List Str} : (part1 q m lo hi ps met).2.length ≤ met.length + ps.length := by
  have key : ∀ (ps : List PyData) (i : Nat) (met : List Str), (fb m ps i met).2.length ≤ met.length + ps.length := by
    intro ps
    induction ps with
    | nil => intro i met; exact Nat.le_refl _
    | cons p ps ih =>
      intro i met
      unfold fb
      split
      · simp
      · split
        · simp
        · have := ih (i + 1) (met ++ [‹Str›])
          simp at this ⊢
          omega
  unfold part1
  split
  · split
    · exact key ps 0 met
    · split <;> exact key ps 0 met
  · simp
def bnds : PyData := .list [.tuple [.int 8, .int 0, .int 4], .tuple [.int 99, .int 0, .int 3], .tuple [.none, .int 1, .int 4]]
theorem for_nil {body : Fr → Gh → Rs Fl} {t : Tg} {fr : Fr} {g : Gh} : forGo body t none [] fr g = .ok (.nx fr) g := by
  unfold forGo
  rw [if_pos (show stillL none g from True.intro)]
theorem for_cons {body : Fr → Gh → Rs Fl} {t : Tg} {x : Itm} {xs : List Itm} {fr fr1 : Fr} {g : Gh} (h : setI t x fr = some fr1) : forGo body t none (x :: xs) fr g = (body fr1 g).bind fun f g1 => match f with
      | .nx fr2 => forGo body t none xs fr2 g1
      | .ct fr2 => forGo body t none xs fr2 g1
      | .bk fr2 => .ok (.nx fr2) g1
      | .rt d => .ok (.rt d) g1 := by
  conv => lhs; unfold forGo
  rw [if_pos (show stillL none g from True.intro), h]
  all_goals rfl
theorem below_mono {n m : Nat} (h : n ≤ m) : ∀ o : Ob, belowO n o = true → belowO m o = true := by
  have d : ∀ x : D, belowD n x = true → belowD m x = true := fun x hx => by
    cases x with
    | ref r =>
      have : r < n := of_decide_eq_true hx
      exact decide_eq_true (by omega)
    | _ => rfl
  intro o ho
  cases o with
  | lst xs =>
    have ho : xs.all (belowD n) = true := ho
    show xs.all (belowD m) = true
    rw [List.all_eq_true] at *
    exact fun x hx => d x (ho x hx)
  | dct kvs =>
    have ho : (kvs.all fun p => belowD n p.2) = true := ho
    show (kvs.all fun p => belowD m p.2) = true
    rw [List.all_eq_true] at *
    exact fun x hx => d x.2 (ho x hx)
  | ins c fs =>
    have ho : (fs.all fun p => belowD n p.2) = true := ho
    show (fs.all fun p => belowD m p.2) = true
    rw [List.all_eq_true] at *
    exact fun x hx => d x.2 (ho x hx)
theorem low_app {g : Gh} {met : List Str} (hg : Low g) : Low (g ++ [metO met]) := by
  unfold Low at *
  rw [List.all_append, Bool.and_eq_true, List.length_append]
  constructor
  · rw [List.all_eq_true] at *
    exact fun o ho => below_mono (by simp) o (hg o ho)
  · show ((met.map fun x => D.dat (.str x)).all (belowD _) && true) = true
    rw [List.all_map]
    simp [belowD]
theorem fin_new {g : Gh} {o : Ob} (fz : Bool) (p : PyData) (hg : Low g) : fin fz g.length (.dat p) (g ++ [o]) = .ok (.dat p) g := by
  unfold fin
  have z : (g ++ [o]).take g.length = g := by simp
  rw [z, if_pos (show g.all (belowO g.length) = true from hg)]
theorem put_last {g : Gh} {a b : Ob} : putO (g ++ [a]) g.length b = g ++ [b] := by
  unfold putO
  simp
theorem run_new {Fs : List FDef} {n f : Nat} {d : FDef} {ds : List D} {g : Gh} {o : Ob} {p : PyData} (hd : Fs[f]? = some d) (hl : ds.length = d.np) (hg : Low g) (h : exs gl (Fw.run gl Fs wf n) wf d.body (ds.map some ++ List.replicate (d.ns - d.np) none) g = .ok (.rt (.dat p)) (g ++ [o])) :
    Fw.run gl Fs wf (n + 1) f ds g = .ok (.dat p) g := by
  unfold Fw.run
  rw [hd]
  dsimp only
  rw [if_pos hl, h]
  exact fin_new _ _ hg
theorem r_wrong_part (n : Nat) (c k e : List PyData) (g : Gh) (hg : Low g) (oc : ∀ p ∈ c, Ok p) (ok : ∀ p ∈ k, Ok p) (oe : ∀ p ∈ e, Ok p) (hz : c.length + k.length + e.length ≤ line) :
    rn wf (n + 4) 5 [.dat (.tuple [.tuple c, .tuple k, .tuple e])] g = .ok (.dat (optD (wrong c k e))) g := by
  suffices h : ∃ met, exs gl (Fw.run gl Fs wf (n + 3)) wf F_wrong_part.body [some (.dat (.tuple [.tuple c, .tuple k, .tuple e])), none, none, none, none, none, none, none] g = .ok (.rt (.dat (optD (wrong c k e)))) (g ++ [metO met]) by
    obtain ⟨met, h⟩ := h
    exact run_new (d := F_wrong_part) rfl rfl hg h
  have s1 : ∀ ss : CSs, exs gl (Fw.run gl Fs wf (n + 3)) wf (.cons (.set (.nm 1) (.lst true .nil)) ss) [some (.dat (.tuple [.tuple c, .tuple k, .tuple e])), none, none, none, none, none, none, none] g =
      exs gl (Fw.run gl Fs wf (n + 3)) wf ss [some (.dat (.tuple [.tuple c, .tuple k, .tuple e])), some (.ref g.length), none, none, none, none, none, none] (g ++ [metO []]) := fun ss => rfl
  show ∃ met, exs gl (Fw.run gl Fs wf (n + 3)) wf (.cons (.set (.nm 1) (.lst true .nil)) _) _ g = _
  rw [s1]
  have bd : Is gl (Fw.run gl Fs wf (n + 3)) [some (.dat (.tuple [.tuple c, .tuple k, .tuple e])), some (.ref g.length), none, none, none, none, none, none] (g ++ [metO []]) (.lst false (.cons (.tup (.cons (.gl "MOST_SIZE") (.cons (.int 0) (.cons (.gl "MOST_CELLS") .nil)))) (.cons (.tup (.cons (.gl "MOST_PRICE") (.cons (.int 0) (.cons (.gl "MOST_KINDS") .nil)))) (.cons (.tup (.cons .non (.cons (.int 1) (.cons (.gl "MOST_EXITS") .nil)))) .nil)))) bnds :=
    is_lst (are_cons (is_tup (ps := [.int 8, .int 0, .int 4]) (are_cons (is_gl rfl) (are_cons is_int (are_cons (is_gl rfl) are_nil))) (by decide)) (are_cons (is_tup (ps := [.int 99, .int 0, .int 3]) (are_cons (is_gl rfl) (are_cons is_int (are_cons (is_gl rfl) are_nil))) (by decide)) (are_cons (is_tup (ps := [.none, .int 1, .int 4]) (are_cons is_non (are_cons is_int (are_cons (is_gl rfl) are_nil))) (by decide)) are_nil))) (by decide)
  rw [set_of bd]
  have S : evi gl (Fw.run gl Fs wf (n + 3)) (.enum (.var 2)) [some (.dat (.tuple [.tuple c, .tuple k, .tuple e])), some (.ref g.length), some (.dat bnds), none, none, none, none, none] (g ++ [metO []]) = .ok (enumI [.tuple [.int 8, .int 0, .int 4], .tuple [.int 99, .int 0, .int 3], .tuple [.none, .int 1, .int 4]] 0, none) (g ++ [metO []]) := by
    rw [yi_enum, y_var (d := .dat bnds) rfl, Rs.ok_bind]
    rfl
  show ∃ met, exs gl (Fw.run gl Fs wf (n + 3)) wf (.cons (.for_ (.tp [(.nm 3), (.tp [(.nm 4), (.nm 5), (.nm 6)])]) (.enum (.var 2)) WB) (.cons (.ret .non) .nil)) [some (.dat (.tuple [.tuple c, .tuple k, .tuple e])), some (.ref g.length), some (.dat bnds), none, none, none, none, none] (g ++ [metO []]) = _
  rw [yxs_cons, yx_for, S, Rs.ok_bind]
  dsimp only
  rw [enumI_cons, enumI_cons, enumI_cons]
  have gr : ∀ met : List Str, (g ++ [metO met])[g.length]? = some (metO met) := fun met => by simp
  rw [for_cons (fr1 := [some (.dat (.tuple [.tuple c, .tuple k, .tuple e])), some (.ref g.length), some (.dat bnds), some (.dat (.int (0 : Nat))), some (.dat (mostD (some 8))), some (.dat (.int 0)), some (.dat (.int 4)), none]) rfl]
  obtain ⟨x, T⟩ := wp_turn (wf := wf) n g.length 0 (some 8) 0 4 c [.tuple c, .tuple k, .tuple e] (.dat bnds) [] none (g ++ [metO []]) (low_app hg) (gr []) oc (by simp; omega) rfl (fun _ => ⟨rfl, rfl⟩)
  rw [T]
  unfold wrong
  generalize q1 : part1 0 (some 8) 0 4 c [] = z1
  have m1 : z1.2.length ≤ c.length := by rw [← q1]; have := part1_met (q := 0) (m := some 8) (lo := 0) (hi := 4) (ps := c) (met := []); simpa using this
  obtain ⟨d1, met1⟩ := z1
  rw [put_last]
  cases d1 with
  | some d => exact ⟨met1, rfl⟩
  | none =>
    dsimp only at m1 ⊢
    rw [Rs.ok_bind]
    dsimp only
    rw [for_cons (fr1 := [some (.dat (.tuple [.tuple c, .tuple k, .tuple e])), some (.ref g.length), some (.dat bnds), some (.dat (.int (1 : Nat))), some (.dat (mostD (some 99))), some (.dat (.int 0)), some (.dat (.int 3)), x]) rfl]
    obtain ⟨x2, T2⟩ := wp_turn (wf := wf) n g.length 1 (some 99) 0 3 k [.tuple c, .tuple k, .tuple e] (.dat bnds) met1 x (g ++ [metO met1]) (low_app hg) (gr met1) ok (by omega) rfl (fun z => nomatch z)
    rw [T2]
    generalize q2 : part1 1 (some 99) 0 3 k met1 = z2
    have m2 : z2.2.length ≤ met1.length + k.length := by rw [← q2]; exact part1_met
    obtain ⟨d2, met2⟩ := z2
    rw [put_last]
    cases d2 with
    | some d => exact ⟨met2, rfl⟩
    | none =>
      dsimp only at m2 ⊢
      rw [Rs.ok_bind]
      dsimp only
      rw [for_cons (fr1 := [some (.dat (.tuple [.tuple c, .tuple k, .tuple e])), some (.ref g.length), some (.dat bnds), some (.dat (.int (2 : Nat))), some (.dat (mostD none)), some (.dat (.int 1)), some (.dat (.int 4)), x2]) rfl]
      obtain ⟨x3, T3⟩ := wp_turn (wf := wf) n g.length 2 none 1 4 e [.tuple c, .tuple k, .tuple e] (.dat bnds) met2 x2 (g ++ [metO met2]) (low_app hg) (gr met2) oe (by omega) rfl (fun z => nomatch z)
      rw [T3]
      generalize q3 : part1 2 none 1 4 e met2 = z3
      obtain ⟨d3, met3⟩ := z3
      rw [put_last]
      cases d3 with
      | some d => exact ⟨met3, rfl⟩
      | none =>
        refine ⟨met3, ?_⟩
        dsimp only
        rw [Rs.ok_bind]
        dsimp only
        have e0 : enumI [] (0 + 1 + 1 + 1) = [] := rfl
        rw [e0, for_nil]
        rfl
end Law
end
set_option Elab.async false
set_option linter.all false
set_option maxRecDepth 100000
set_option maxHeartbeats 4000000
noncomputable section
namespace Law
open PySem PySem.Spec PyProof.Rows L2 Fw
variable {wf : Nat}
def isTup : PyData → Bool
  | .tuple _ => true
  | _ => false
def triple : PyData → Bool
  | .tuple [a, b, c] => isTup a && (isTup b && (isTup c && true))
  | _ => false
theorem r_is_triple (n : Nat) (p : PyData) (g : Gh) (hg : Low g) (ok : Ok p) : rn wf (n + 1) 6 [.dat p] g = .ok (.dat (.bool (triple p))) g := by
  refine run_dat (d := F_is_triple) rfl rfl ?_
  cases p with
  | tuple ps =>
    refine ret_of ?_
    show Is gl (Fw.run gl Fs wf n) [some (.dat (.tuple ps)), none] g _ _
    have A : Is gl (Fw.run gl Fs wf n) [some (.dat (.tuple ps)), none] g (.bi (.isi (Str.ofString "tuple")) (.cons (.var 0) .nil)) (.bool true) := is_bi (is_var rfl) rfl
    have B : Is gl (Fw.run gl Fs wf n) [some (.dat (.tuple ps)), none] g (.cmp .eq (.bi .len (.cons (.var 0) .nil)) (.int 3)) (.bool (decide ((ps.length : Int) = 3))) := is_cmp (p := .int ps.length) (q := .int 3) (is_bi (is_var rfl) rfl) is_int eq_int
    have C : Is gl (Fw.run gl Fs wf n) [some (.dat (.tuple ps)), none] g (.bi .all (.cons (.lc false (.nm 1) (.seq (.var 0)) [1] .no (.bi (.isi (Str.ofString "tuple")) (.cons (.var 1) .nil))) .nil)) (.bool (ps.all isTup)) := by
      refine is_bi (p := .list ((ps.map isTup).map .bool)) ?_ (by rw [all_bools, List.all_map]; rfl)
      have src : evi gl (Fw.run gl Fs wf n) (.seq (.var 0)) [some (.dat (.tuple ps)), none] g = .ok (ps.map fun q => Itm.one (.dat q), none) g := by
        rw [yi_seq, y_var (d := .dat (.tuple ps)) rfl, Rs.ok_bind]
        show Rs.ok ((ps.map D.dat).map Itm.one, none) g = _
        rw [List.map_map]
        rfl
      have z := is_lc (cl := Fw.run gl Fs wf n) (c := .no) (t := .nm 1) (wp := [1]) (e := .bi (.isi (Str.ofString "tuple")) (.cons (.var 1) .nil)) (fun it => some (.bool (isTup (itD it)))) hg src (by rw [List.length_map]; have := ok.len; have : line = 16777216 := rfl; omega) ?_
      · rw [fm_one _ _ (fun q => PyData.bool (isTup q)) _ (fun q => rfl)] at z
        rw [List.map_map]
        exact z
      · intro it hi zs
        obtain ⟨q, _, rfl⟩ := List.mem_map.mp hi
        refine ⟨[some (.dat (.tuple ps)), some (.dat q)], rfl, .inr ⟨_, rfl, rfl, is_bi (p := q) (is_var rfl) ?_⟩⟩
        cases q <;> rfl
    have e : triple (.tuple ps) = (true && (decide ((ps.length : Int) = 3) && ps.all isTup)) := by
      match ps with
      | [] => rfl
      | [_] => rfl
      | [_, _] => rfl
      | [_, _, _] => rfl
      | a :: b :: c :: d :: ps =>
        have z : decide (((a :: b :: c :: d :: ps).length : Int) = 3) = false := by
          rw [decide_eq_false_iff_not]
          simp only [List.length_cons]
          omega
        rw [z]
        rfl
    rw [e]
    exact is_and A fun _ => is_and B fun _ => C
  | _ => rfl
def said (p : PyData) : Option PyData :=
  match p with
  | .tuple [.tuple c, .tuple k, .tuple e] => wrong c k e
  | _ => some (.int (-1))
theorem said_not {p : PyData} (h : triple p = false) : said p = some (.int (-1)) := by
  unfold said
  split
  · cases h
  · rfl
theorem triple_is {p : PyData} (h : triple p = true) : ∃ c k e, p = .tuple [.tuple c, .tuple k, .tuple e] := by
  unfold triple at h
  split at h
  · rename_i a b c
    simp only [Bool.and_eq_true] at h
    obtain ⟨h1, h2, h3, _⟩ := h
    cases a <;> first | (cases h1; done) | skip
    cases b <;> first | (cases h2; done) | skip
    cases c <;> first | (cases h3; done) | skip
    exact ⟨_, _, _, rfl⟩
  · cases h
theorem Ok.rows {c k e : List PyData} (h : Ok (.tuple [.tuple c, .tuple k, .tuple e])) : (∀ p ∈ c, Ok p) ∧ (∀ p ∈ k, Ok p) ∧ (∀ p ∈ e, Ok p) ∧ c.length + k.length + e.length ≤ line := by
  have h1 := h.all (.tuple c) (by simp)
  have h2 := h.all (.tuple k) (by simp)
  have h3 := h.all (.tuple e) (by simp)
  have l1 := h1.len
  have l2 := h2.len
  have l3 := h3.len
  have : line = 16777216 := rfl
  exact ⟨h1.all, h2.all, h3.all, by omega⟩
theorem r_wrong (n : Nat) (p : PyData) (g : Gh) (hg : Low g) (ok : Ok p) (h : triple p = true) : rn wf (n + 4) 5 [.dat p] g = .ok (.dat (optD (said p))) g := by
  obtain ⟨c, k, e, rfl⟩ := triple_is h
  obtain ⟨h1, h2, h3, h4⟩ := ok.rows
  exact r_wrong_part n c k e g hg h1 h2 h3 h4
theorem optD_none {o : Option PyData} (h : ∀ d, o = some d → ∃ a b, d = .tuple [a, b]) : cmpD .isNot (optD o) .none = some o.isSome ∧ cmpD .is_ (optD o) .none = some o.isNone := by
  cases o with
  | none => exact ⟨rfl, rfl⟩
  | some d =>
    obtain ⟨a, b, rfl⟩ := h d rfl
    exact ⟨rfl, rfl⟩
theorem wrong_pair {c k e : List PyData} : ∀ d, wrong c k e = some d → ∃ a b, d = .tuple [a, b] := by
  have key : ∀ (q : Nat) (m : Option Int) (lo hi : Int) (ps : List PyData) (met : List Str) (d : PyData), (part1 q m lo hi ps met).1 = some d → ∃ a b, d = .tuple [a, b] := by
    intro q m lo hi ps met d h
    unfold part1 at h
    split at h
    · split at h
      · cases h; exact ⟨_, _, rfl⟩
      · split at h
        · cases h; exact ⟨_, _, rfl⟩
        · cases h
    · cases h; exact ⟨_, _, rfl⟩
  intro d h
  unfold wrong at h
  split at h
  · rename_i d1 m1 q1
    cases h
    exact key _ _ _ _ _ _ _ (by rw [q1])
  · split at h
    · rename_i d1 m1 q1
      cases h
      exact key _ _ _ _ _ _ _ (by rw [q1])
    · exact key _ _ _ _ _ _ _ h
theorem r_made (n : Nat) (p : PyData) (g : Gh) (hg : Low g) (ok : Ok p) : rn wf (n + 5) 7 [.dat p] g = match said p with
    | none => .ok (.dat p) g
    | some w => .exc ⟨"BadGround", w⟩ g := by
  have T : Is gl (Fw.run gl Fs wf (n + 4)) [some (.dat p), none] g (.not (.call 6 (.cons (.var 0) .nil))) (.bool (!triple p)) := is_not (is_call (ps := [p]) (are_cons (is_var rfl) are_nil) (r_is_triple (n + 3) p g hg ok))
  have fx : finX g.length g = g := by unfold finX; split <;> simp
  cases ht : triple p with
  | false =>
    rw [said_not ht]
    dsimp only
    rw [ht] at T
    have b : exs gl (Fw.run gl Fs wf (n + 4)) wf F_made_ground.body [some (.dat p), none] g = .exc ⟨"BadGround", .int (-1)⟩ g := by
      show exs gl (Fw.run gl Fs wf (n + 4)) wf (.cons (.ife (.not (.call 6 (.cons (.var 0) .nil))) (.cons (.raise "BadGround" (.neg (.int 1))) .nil) .nil) _) _ g = _
      rw [yxs_cons, if_of T, if_pos (show (!false) = true from rfl)]
      rfl
    show (match exs gl (Fw.run gl Fs wf (n + 4)) wf F_made_ground.body [some (.dat p), none] g with
        | .ok (.rt v) g1 => fin false g.length v g1
        | .ok (.nx _) g1 => fin false g.length (.dat .none) g1
        | .exc x g1 => .exc x (finX g.length g1)
        | _ => .bad) = _
    rw [b]
    dsimp only
    rw [fx]
  | true =>
    rw [ht] at T
    have Wr := r_wrong (wf := wf) n p g hg ok ht
    obtain ⟨c, k, e, rfl⟩ := triple_is ht
    have wp : ∀ d, said (.tuple [.tuple c, .tuple k, .tuple e]) = some d → ∃ a b, d = .tuple [a, b] := wrong_pair
    obtain ⟨n1, n2⟩ := optD_none wp
    have S : Is gl (Fw.run gl Fs wf (n + 4)) [some (.dat (.tuple [.tuple c, .tuple k, .tuple e])), none] g (.call 5 (.cons (.var 0) .nil)) (optD (said (.tuple [.tuple c, .tuple k, .tuple e]))) := is_call (ps := [.tuple [.tuple c, .tuple k, .tuple e]]) (are_cons (is_var rfl) are_nil) Wr
    have b : exs gl (Fw.run gl Fs wf (n + 4)) wf F_made_ground.body [some (.dat (.tuple [.tuple c, .tuple k, .tuple e])), none] g = match said (.tuple [.tuple c, .tuple k, .tuple e]) with
        | none => .ok (.rt (.dat (.tuple [.tuple c, .tuple k, .tuple e]))) g
        | some w => .exc ⟨"BadGround", w⟩ g := by
      show exs gl (Fw.run gl Fs wf (n + 4)) wf (.cons (.ife (.not (.call 6 (.cons (.var 0) .nil))) (.cons (.raise "BadGround" (.neg (.int 1))) .nil) .nil) _) _ g = _
      rw [yxs_cons, if_of T, if_neg (by decide), yxs_nil, Rs.ok_bind]
      dsimp only
      rw [set_of S]
      show exs gl (Fw.run gl Fs wf (n + 4)) wf (.cons (.ife (.cmp .isNot (.var 1) .non) (.cons (.raise "BadGround" (.var 1)) .nil) .nil) (.cons (.ret (.var 0)) .nil)) [some (.dat (.tuple [.tuple c, .tuple k, .tuple e])), some (.dat (optD (said (.tuple [.tuple c, .tuple k, .tuple e]))))] g = _
      rw [yxs_cons, if_of (is_cmp (is_var rfl) is_non n1)]
      cases said (.tuple [.tuple c, .tuple k, .tuple e]) with
      | none => rfl
      | some w => rfl
    show (match exs gl (Fw.run gl Fs wf (n + 4)) wf F_made_ground.body [some (.dat (.tuple [.tuple c, .tuple k, .tuple e])), none] g with
        | .ok (.rt v) g1 => fin false g.length v g1
        | .ok (.nx _) g1 => fin false g.length (.dat .none) g1
        | .exc x g1 => .exc x (finX g.length g1)
        | _ => .bad) = _
    rw [b]
    cases said (.tuple [.tuple c, .tuple k, .tuple e]) with
    | none => exact fin_dat _ _ _
    | some w =>
      dsimp only
      rw [fx]
theorem r_is_ground (n : Nat) (p : PyData) (g : Gh) (hg : Low g) (ok : Ok p) : rn wf (n + 5) 8 [.dat p] g = .ok (.dat (.bool (said p).isNone)) g := by
  refine run_dat (d := F_is_ground) rfl rfl ?_
  refine ret_of ?_
  show Is gl (Fw.run gl Fs wf (n + 4)) [some (.dat p)] g _ _
  have T : Is gl (Fw.run gl Fs wf (n + 4)) [some (.dat p)] g (.call 6 (.cons (.var 0) .nil)) (.bool (triple p)) := is_call (ps := [p]) (are_cons (is_var rfl) are_nil) (r_is_triple (n + 3) p g hg ok)
  cases ht : triple p with
  | false =>
    rw [ht] at T
    rw [said_not ht]
    exact is_and (p := false) (q := false) T fun z => nomatch z
  | true =>
    rw [ht] at T
    have Wr := r_wrong (wf := wf) n p g hg ok ht
    obtain ⟨c, k, e, rfl⟩ := triple_is ht
    obtain ⟨n1, n2⟩ := optD_none (show ∀ d, said (.tuple [.tuple c, .tuple k, .tuple e]) = some d → ∃ a b, d = .tuple [a, b] from wrong_pair)
    exact is_and (p := true) (q := (said (.tuple [.tuple c, .tuple k, .tuple e])).isNone) T fun _ => is_cmp (is_call (ps := [.tuple [.tuple c, .tuple k, .tuple e]]) (are_cons (is_var rfl) are_nil) Wr) is_non n2
def heard (p : PyData) : PyData :=
  match said p with
  | none => .tuple [.str (Str.ofString "told"), p]
  | some w => .tuple [.str (Str.ofString "refused"), w, .bool true]
theorem r_heard (n : Nat) (p : PyData) (g : Gh) (hg : Low g) (ok : Ok p) : rn wf (n + 6) 19 [.dat p] g = .ok (.dat (heard p)) g := by
  refine run_dat (d := F__law_heard) rfl rfl ?_
  show exs gl (Fw.run gl Fs wf (n + 5)) wf F__law_heard.body [some (.dat p), none] g = _
  have M := r_made (wf := wf) n p g hg ok
  unfold heard
  cases hs : said p with
  | none =>
    rw [hs] at M
    have E : Is gl (Fw.run gl Fs wf (n + 5)) [some (.dat p), none] g (.tup (.cons (.str (Str.ofString "told")) (.cons (.call 7 (.cons (.var 0) .nil)) .nil))) (.tuple [.str (Str.ofString "told"), p]) :=
      is_tup (are_cons is_str (are_cons (is_call (ps := [p]) (are_cons (is_var rfl) are_nil) M) are_nil)) (show 2 ≤ line by decide)
    unfold Is at E
    show exs gl (Fw.run gl Fs wf (n + 5)) wf (.cons (.tryx true (.tup (.cons (.str (Str.ofString "told")) (.cons (.call 7 (.cons (.var 0) .nil)) .nil))) 1 _) .nil) _ g = _
    rw [yxs_cons]
    unfold ex
    rw [E]
    rfl
  | some w =>
    rw [hs] at M
    have E : ev gl (Fw.run gl Fs wf (n + 5)) (.tup (.cons (.str (Str.ofString "told")) (.cons (.call 7 (.cons (.var 0) .nil)) .nil))) [some (.dat p), none] g = .exc ⟨"BadGround", w⟩ g := by
      rw [y_tup, ys_cons, y_str, Rs.ok_bind, ys_cons, y_call, ys_cons, y_var (d := .dat p) rfl, Rs.ok_bind, ys_nil, Rs.ok_bind, Rs.ok_bind]
      have M' : Fw.run gl Fs wf (n + 5) 7 [.dat p] g = .exc ⟨"BadGround", w⟩ g := M
      rw [M']
      rfl
    show exs gl (Fw.run gl Fs wf (n + 5)) wf (.cons (.tryx true (.tup (.cons (.str (Str.ofString "told")) (.cons (.call 7 (.cons (.var 0) .nil)) .nil))) 1 _) .nil) _ g = _
    rw [yxs_cons]
    unfold ex
    rw [E]
    rfl
end Law
end
set_option Elab.async false
set_option linter.all false
set_option maxRecDepth 100000
set_option maxHeartbeats 4000000
noncomputable section
namespace Law
open PySem PySem.Spec PyProof.Rows L2 Fw
variable {wf : Nat}
def mq (q : Nat) : Option Int := if q = 0 then some 8 else if q = 1 then some 99 else none
def strO : Option Str → PyData
  | none => .none
  | some x => .str x
theorem ent_nm (q : Nat) (hq : q ≤ 2) (p : PyData) : entName q p = strO (nm (mq q) p) := by
  have : q = 0 ∨ q = 1 ∨ q = 2 := by omega
  have two : ∀ (k : Int) (a b : PyData), (if (isName a && numIn 1 k b) = true then a else PyData.none) = strO (nm (some k) (.tuple [a, b])) := by
    intro k a b
    cases a with
    | str x =>
      show (if (nameS x && numIn 1 k b) = true then PyData.str x else .none) = strO (if (nameS x && numIn 1 k b) = true then some x else none)
      cases (nameS x && numIn 1 k b) <;> rfl
    | _ => rfl
  rcases this with rfl | rfl | rfl
  · cases p with
    | tuple ps => match ps with
      | [] => rfl
      | [a] => cases a <;> rfl
      | [a, b] => exact two 8 a b
      | a :: b :: c :: d => cases a <;> rfl
    | _ => rfl
  · cases p with
    | tuple ps => match ps with
      | [] => rfl
      | [a] => cases a <;> rfl
      | [a, b] => exact two 99 a b
      | a :: b :: c :: d => cases a <;> rfl
    | _ => rfl
  · cases p with
    | str x =>
      show (if nameS x = true then PyData.str x else .none) = strO (if nameS x = true then some x else none)
      cases nameS x <;> rfl
    | _ => rfl
abbrev LB : CSs := (.cons (.set (.nm 5) (.call 22 (.cons (.var 1) (.cons (.ix (.ix (.var 0) (.var 1)) (.var 4)) .nil)))) (.cons (.ife (.or (.cmp .is_ (.var 5) .non) (.cmp .isIn (.var 5) (.var 2))) (.cons (.ret (.tup (.cons (.var 1) (.cons (.var 4) .nil)))) .nil) .nil) (.cons (.expr (.mth .append (.var 2) (.cons (.var 5) .nil))) (.cons (.set (.nm 3) (.bin .mul (.var 3) (.ite (.cmp .eq (.var 1) (.int 0)) (.ix (.ix (.ix (.var 0) (.var 1)) (.var 4)) (.int 1)) (.int 1)))) .nil))))
def nxt (q : Nat) (p : PyData) (k : Int) : Int :=
  if q = 0 then match p with
    | .tuple [_, .int i] => k * i
    | _ => k
  else k
theorem lf_turn (n r q i : Nat) (hq : q ≤ 2) (ts ps : List PyData) (p : PyData) (met : List Str) (k : Int) (x5 : Option D) (g : Gh) (hg : Low g) (hr : g[r]? = some (metO met)) (ok : Ok p) (hz : met.length < line)
    (hts : ixD (.tuple ts) (.int q) = some (.tuple ps)) (hps : ixD (.tuple ps) (.int i) = some p) :
    exs gl (Fw.run gl Fs wf (n + 2)) wf LB [some (.dat (.tuple ts)), some (.dat (.int q)), some (.ref r), some (.dat (.int k)), some (.dat (.int i)), x5] g = match nm (mq q) p with
      | none => .ok (.rt (.dat (pairD q i))) g
      | some x => if x ∈ met then .ok (.rt (.dat (pairD q i))) g else .ok (.nx [some (.dat (.tuple ts)), some (.dat (.int q)), some (.ref r), some (.dat (.int (nxt q p k))), some (.dat (.int i)), some (.dat (.str x))]) (putO g r (metO (met ++ [x]))) := by
  have A : ∀ (k : Int) (y : Option D) (g : Gh), Is gl (Fw.run gl Fs wf (n + 2)) [some (.dat (.tuple ts)), some (.dat (.int q)), some (.ref r), some (.dat (.int k)), some (.dat (.int i)), y] g (.ix (.ix (.var 0) (.var 1)) (.var 4)) p :=
    fun k y g => is_ix (p := .tuple ps) (q := .int i) (is_ix (p := .tuple ts) (q := .int q) (is_var rfl) (is_var rfl) hts) (is_var rfl) hps
  have S : Is gl (Fw.run gl Fs wf (n + 2)) [some (.dat (.tuple ts)), some (.dat (.int q)), some (.ref r), some (.dat (.int k)), some (.dat (.int i)), x5] g (.call 22 (.cons (.var 1) (.cons (.ix (.ix (.var 0) (.var 1)) (.var 4)) .nil))) (strO (nm (mq q) p)) := by
    rw [← ent_nm q hq]
    exact is_call (ps := [.int q, p]) (are_cons (is_var rfl) (are_cons (A k x5 g) are_nil)) (r_entry_name n q hq p g hg ok)
  rw [set_of S]
  show exs gl (Fw.run gl Fs wf (n + 2)) wf _ [some (.dat (.tuple ts)), some (.dat (.int q)), some (.ref r), some (.dat (.int k)), some (.dat (.int i)), some (.dat (strO (nm (mq q) p)))] g = _
  have PR : ∀ (y : Option D), Is gl (Fw.run gl Fs wf (n + 2)) [some (.dat (.tuple ts)), some (.dat (.int q)), some (.ref r), some (.dat (.int k)), some (.dat (.int i)), y] g (.tup (.cons (.var 1) (.cons (.var 4) .nil))) (pairD q i) := fun y => is_tup (ps := [.int q, .int i]) (are_cons (is_var rfl) (are_cons (is_var rfl) are_nil)) (show 2 ≤ line by decide)
  cases hn : nm (mq q) p with
  | none => exact guard_of (r := pairD q i) (p := true || false) (is_or (p := true) (q := false) (is_cmp (p := .none) (q := .none) (is_var rfl) is_non rfl) fun z => nomatch z) (fun _ => ⟨PR _, rfl⟩) fun z => nomatch z
  | some x =>
    dsimp only
    show exs gl (Fw.run gl Fs wf (n + 2)) wf _ [some (.dat (.tuple ts)), some (.dat (.int q)), some (.ref r), some (.dat (.int k)), some (.dat (.int i)), some (.dat (.str x))] g = _
    have G0 : getL g r = some (met.map fun x => .dat (.str x)) := by unfold getL; rw [hr]; rfl
    have I : Is gl (Fw.run gl Fs wf (n + 2)) [some (.dat (.tuple ts)), some (.dat (.int q)), some (.ref r), some (.dat (.int k)), some (.dat (.int i)), some (.dat (.str x))] g (.cmp .isIn (.var 5) (.var 2)) (.bool (decide (x ∈ met))) := by
      unfold Is
      rw [y_cmp, y_var (d := .dat (.str x)) rfl, Rs.ok_bind, y_var (d := .ref r) rfl, Rs.ok_bind]
      show Rs.ofB ((viaR g r).bind fun q => cmpD .isIn (.str x) q) g = _
      unfold viaR
      rw [G0]
      show Rs.ofB (((datsOf (met.map fun x => D.dat (.str x))).map PyData.list).bind fun q => cmpD .isIn (.str x) q) g = _
      rw [metO_dats]
      show Rs.ofB (inD (.str x) (.list (met.map .str))) g = _
      rw [in_met]
      rfl
    refine guard_of (r := pairD q i) (p := false || decide (x ∈ met)) (is_or (p := false) (is_cmp (p := .str x) (q := .none) (is_var rfl) is_non rfl) fun _ => I) (fun h2 => ⟨PR _, ?_⟩) fun h2 => ?_
    · rw [Bool.false_or] at h2
      rw [if_pos (of_decide_eq_true h2)]
    · rw [Bool.false_or] at h2
      rw [if_neg (of_decide_eq_false h2), yxs_cons, yx_expr, y_mth, y_var (d := .ref r) rfl, Rs.ok_bind]
      have L : isL (.ref r) g = true := by show (getL g r).isSome = true; rw [G0]; rfl
      rw [if_pos L, ys_cons, y_var (d := .dat (.str x)) rfl, Rs.ok_bind, ys_nil, Rs.ok_bind, Rs.ok_bind]
      have Ap : mtd .append (.ref r) [.dat (.str x)] g = .ok (.dat .none) (putO g r (metO (met ++ [x]))) := by
        show (match getL g r with
          | some xs => if xs.length < line then Rs.ok (D.dat .none) (putO g r (.lst (xs ++ [D.dat (.str x)]))) else Rs.bad
          | none => Rs.bad) = _
        rw [G0]
        dsimp only
        rw [if_pos (by simpa using hz)]
        unfold metO
        simp
      rw [Ap, Rs.ok_bind, Rs.ok_bind]
      dsimp only
      have Q : Is gl (Fw.run gl Fs wf (n + 2)) [some (.dat (.tuple ts)), some (.dat (.int q)), some (.ref r), some (.dat (.int k)), some (.dat (.int i)), some (.dat (.str x))] (putO g r (metO (met ++ [x]))) (.cmp .eq (.var 1) (.int 0)) (.bool (decide ((q : Int) = 0))) := is_cmp (p := .int q) (q := .int 0) (is_var rfl) is_int eq_int
      have F : Is gl (Fw.run gl Fs wf (n + 2)) [some (.dat (.tuple ts)), some (.dat (.int q)), some (.ref r), some (.dat (.int k)), some (.dat (.int i)), some (.dat (.str x))] (putO g r (metO (met ++ [x]))) (.bin .mul (.var 3) (.ite (.cmp .eq (.var 1) (.int 0)) (.ix (.ix (.ix (.var 0) (.var 1)) (.var 4)) (.int 1)) (.int 1))) (.int (nxt q p k)) := by
        by_cases h0 : q = 0
        · subst h0
          cases p with
          | tuple es => match es, hn with
            | [.str y, b], hn =>
              have hn' : (if (nameS y && numIn 1 8 b) = true then some y else none) = some x := hn
              split at hn'
              · rename_i hh
                rw [Bool.and_eq_true] at hh
                cases b with
                | int j =>
                  have hj : (decide (1 ≤ j) && decide (j ≤ 8)) = true := hh.2
                  rw [Bool.and_eq_true, decide_eq_true_eq, decide_eq_true_eq] at hj
                  refine is_bin (p := .int k) (q := .int j) (is_var rfl) (is_ite Q (fun _ => is_ix (p := .tuple [.str y, .int j]) (q := .int 1) (A k _ _) is_int rfl) fun z => nomatch z) ?_
                  show (if (-(2 ^ 64) < k ∧ k < 2 ^ 64) ∨ (-(2 ^ 64) < j ∧ j < 2 ^ 64) then some (PyData.int (k * j)) else none) = _
                  rw [if_pos (.inr (by omega))]
                  rfl
                | _ => cases hh.2
              · cases hn'
          | _ => cases hn
        · have z : decide ((q : Int) = 0) = false := by
            rw [decide_eq_false_iff_not]
            omega
          rw [z] at Q
          refine is_bin (p := .int k) (q := .int 1) (is_var rfl) (is_ite Q (fun z => nomatch z) fun _ => is_int) ?_
          show (if (-(2 ^ 64) < k ∧ k < 2 ^ 64) ∨ (-(2 ^ 64) < (1 : Int) ∧ (1 : Int) < 2 ^ 64) then some (PyData.int (k * 1)) else none) = _
          rw [if_pos (.inr (by omega)), Int.mul_one]
          unfold nxt
          rw [if_neg h0]
      rw [set_of F]
      rfl
end Law
end
set_option Elab.async false
set_option linter.all false
set_option maxRecDepth 100000
set_option maxHeartbeats 4000000
noncomputable section
namespace Law
open PySem PySem.Spec PyProof.Rows L2 Fw
variable {wf : Nat}
def ixI (i n : Nat) : List Itm := (List.range' i n).map fun j => .one (.dat (.int (j : Nat)))
theorem rng_ixI (n : Nat) : (rngI 0 n).map Itm.one = ixI 0 n := by
  unfold rngI ixI
  rw [List.map_map, List.range_eq_range']
  apply List.map_congr_left
  intro k _
  show Itm.one (.dat (.int (0 + (k : Int)))) = _
  rw [Int.zero_add]
theorem ixI_succ (i n : Nat) : ixI i (n + 1) = Itm.one (.dat (.int (i : Nat))) :: ixI (i + 1) n := by
  unfold ixI
  rw [List.range'_succ, List.map_cons]
theorem ix_at {pre ps : List PyData} {p : PyData} : ixD (.tuple (pre ++ p :: ps)) (.int (pre.length : Nat)) = some p := by
  show atI (pre ++ p :: ps) _ = some p
  exact L2.atI_nat (by simp)
def nxts (q : Nat) : List PyData → Int → Int
  | [], k => k
  | p :: ps, k => nxts q ps (nxt q p k)
theorem lf_loop (n r q : Nat) (hq : q ≤ 2) (ts : List PyData) : ∀ (ps pre : List PyData) (met : List Str) (k : Int) (x4 x5 : Option D) (g : Gh), Low g → g[r]? = some (metO met) → (∀ p ∈ ps, Ok p) → met.length + ps.length ≤ line →
    ixD (.tuple ts) (.int q) = some (.tuple (pre ++ ps)) →
    ∃ a b, forGo (fun fr g => exs gl (Fw.run gl Fs wf (n + 2)) wf LB fr g) (.nm 4) none (ixI pre.length ps.length) [some (.dat (.tuple ts)), some (.dat (.int q)), some (.ref r), some (.dat (.int k)), x4, x5] g =
      match (fb (mq q) ps pre.length met).1 with
      | some j => .ok (.rt (.dat (pairD q j))) (putO g r (metO (fb (mq q) ps pre.length met).2))
      | none => .ok (.nx [some (.dat (.tuple ts)), some (.dat (.int q)), some (.ref r), some (.dat (.int (nxts q ps k))), a, b]) (putO g r (metO (fb (mq q) ps pre.length met).2))
  | [], pre, met, k, x4, x5, g, hg, hr, ok, hz, ht => by
    refine ⟨x4, x5, ?_⟩
    show (if stillL none g then Rs.ok (Fl.nx _) g else .bad) = Rs.ok (Fl.nx _) (putO g r (metO met))
    rw [if_pos (show stillL none g from True.intro), put_same hr]
    rfl
  | p :: ps, pre, met, k, x4, x5, g, hg, hr, ok, hz, ht => by
    have hz' : met.length + (ps.length + 1) ≤ line := hz
    have T := lf_turn (wf := wf) n r q pre.length hq ts (pre ++ p :: ps) p met k x5 g hg hr (ok p (List.mem_cons_self)) (by omega) ht ix_at
    show ∃ a b, forGo _ (.nm 4) none (ixI pre.length (ps.length + 1)) _ g = _
    rw [ixI_succ, for_cons (fr1 := [some (.dat (.tuple ts)), some (.dat (.int q)), some (.ref r), some (.dat (.int k)), some (.dat (.int (pre.length : Nat))), x5]) rfl, T]
    unfold fb
    cases hn : nm (mq q) p with
    | none =>
      refine ⟨none, none, ?_⟩
      dsimp only
      rw [Rs.ok_bind, put_same hr]
    | some x =>
      dsimp only
      by_cases hx : x ∈ met
      · refine ⟨none, none, ?_⟩
        rw [if_pos hx, if_pos hx, Rs.ok_bind, put_same hr]
      · rw [if_neg hx, if_neg hx, Rs.ok_bind]
        obtain ⟨a, b, ih⟩ := lf_loop n r q hq ts ps (pre ++ [p]) (met ++ [x]) (nxt q p k) (some (.dat (.int (pre.length : Nat)))) (some (.dat (.str x))) (putO g r (metO (met ++ [x]))) (low_put hg) (put_get hr) (fun p hp => ok p (List.mem_cons_of_mem _ hp)) (by rw [List.length_append]; simp; omega) (by rw [List.append_assoc]; exact ht)
        refine ⟨a, b, ?_⟩
        have e : (pre ++ [p]).length = pre.length + 1 := by simp
        rw [e] at ih
        dsimp only
        rw [ih, put_put]
        rfl
theorem prod_cons (p : PyData) (ps : List PyData) (k : Int) : prod (p :: ps) k = prod ps (nxt 0 p k) := by
  cases p with
  | tuple es => match es with
    | [] => rfl
    | [_] => rfl
    | [_, b] => cases b <;> rfl
    | _ :: b :: _ :: _ => cases b <;> rfl
  | _ => rfl
theorem nxts_zero : ∀ (ps : List PyData) (k : Int), nxts 0 ps k = prod ps k
  | [], k => rfl
  | p :: ps, k => by
    unfold nxts
    rw [nxts_zero ps, prod_cons]
theorem nxts_pos {q : Nat} (h : q ≠ 0) : ∀ (ps : List PyData) (k : Int), nxts q ps k = k
  | [], k => rfl
  | p :: ps, k => by
    unfold nxts nxt
    rw [if_neg h]
    exact nxts_pos h ps k
abbrev LO : CSs := (.cons (.ife (.or (.cmp .gt (.bi .len (.cons (.ix (.var 0) (.var 1)) .nil)) (.ix (.lst false (.cons (.int 4) (.cons (.int 3) (.cons (.int 4) .nil)))) (.var 1))) (.and (.cmp .eq (.var 1) (.int 2)) (.cmp .eq (.ix (.var 0) (.var 1)) (.tup .nil)))) (.cons (.ret (.tup (.cons (.var 1) (.cons (.neg (.int 1)) .nil)))) .nil) .nil) (.cons (.set (.nm 3) (.int 1)) (.cons (.for_ (.nm 4) (.rng1 (.bi .len (.cons (.ix (.var 0) (.var 1)) .nil))) LB) (.cons (.ife (.cmp .gt (.var 3) (.int 64)) (.cons (.ret (.tup (.cons (.var 1) (.cons (.neg (.int 1)) .nil)))) .nil) .nil) .nil))))
theorem Ok.shaped {p : PyData} (h : Ok p) : SeqAt.shaped p = true := by
  have h1 := h.lay
  have h2 := h.deep
  unfold SeqAt.shaped
  rw [h1]
  simp
  omega
theorem eq_none (ps : List PyData) (h : SeqAt.shaped (.tuple ps) = true) : cmpD .eq (.tuple ps) (.tuple []) = some ps.isEmpty := by
  have z : eqD (.tuple ps) (.tuple []) = if SeqAt.shaped (.tuple ps) && SeqAt.shaped (.tuple []) then some (PyData.eqv (.tuple ps) (.tuple [])) else none := rfl
  show eqD (.tuple ps) (.tuple []) = _
  have y : SeqAt.shaped (.tuple []) = true := by decide
  rw [z, h, y]
  cases ps <;> rfl
def loQ (q : Nat) : Int := if q = 2 then 1 else 0
def hiQ (q : Nat) : Int := if q = 1 then 3 else 4
theorem lo_turn (n r q : Nat) (hq : q ≤ 2) (ts ps : List PyData) (met : List Str) (x3 x4 x5 : Option D) (g : Gh) (hg : Low g) (hr : g[r]? = some (metO met)) (okp : Ok (.tuple ps)) (ok : ∀ p ∈ ps, Ok p) (hz : met.length + ps.length ≤ line)
    (ht : ixD (.tuple ts) (.int q) = some (.tuple ps)) :
    ∃ a b c, exs gl (Fw.run gl Fs wf (n + 2)) wf LO [some (.dat (.tuple ts)), some (.dat (.int q)), some (.ref r), x3, x4, x5] g =
      match (part1 q (mq q) (loQ q) (hiQ q) ps met).1 with
      | some d => .ok (.rt (.dat d)) (putO g r (metO (part1 q (mq q) (loQ q) (hiQ q) ps met).2))
      | none => .ok (.nx [some (.dat (.tuple ts)), some (.dat (.int q)), some (.ref r), a, b, c]) (putO g r (metO (part1 q (mq q) (loQ q) (hiQ q) ps met).2)) := by
  have PR : ∀ (x y z : Option D) (g : Gh), Is gl (Fw.run gl Fs wf (n + 2)) [some (.dat (.tuple ts)), some (.dat (.int q)), some (.ref r), x, y, z] g (.tup (.cons (.var 1) (.cons (.neg (.int 1)) .nil))) (pairD q (-1)) := fun x y z g => is_tup (ps := [.int q, .int (-1)]) (are_cons (is_var rfl) (are_cons (is_neg is_int) are_nil)) (show 2 ≤ line by decide)
  have A : ∀ (x y z : Option D) (g : Gh), Is gl (Fw.run gl Fs wf (n + 2)) [some (.dat (.tuple ts)), some (.dat (.int q)), some (.ref r), x, y, z] g (.ix (.var 0) (.var 1)) (.tuple ps) := fun x y z g => is_ix (p := .tuple ts) (q := .int q) (is_var rfl) (is_var rfl) ht
  have L : ∀ (x y z : Option D) (g : Gh), Is gl (Fw.run gl Fs wf (n + 2)) [some (.dat (.tuple ts)), some (.dat (.int q)), some (.ref r), x, y, z] g (.bi .len (.cons (.ix (.var 0) (.var 1)) .nil)) (.int ps.length) := fun x y z g => is_bi (A x y z g) rfl
  have H : ixD (.list [.int 4, .int 3, .int 4]) (.int q) = some (.int (hiQ q)) := by
    have : q = 0 ∨ q = 1 ∨ q = 2 := by omega
    rcases this with rfl | rfl | rfl <;> rfl
  have C : Is gl (Fw.run gl Fs wf (n + 2)) [some (.dat (.tuple ts)), some (.dat (.int q)), some (.ref r), x3, x4, x5] g (.or (.cmp .gt (.bi .len (.cons (.ix (.var 0) (.var 1)) .nil)) (.ix (.lst false (.cons (.int 4) (.cons (.int 3) (.cons (.int 4) .nil)))) (.var 1))) (.and (.cmp .eq (.var 1) (.int 2)) (.cmp .eq (.ix (.var 0) (.var 1)) (.tup .nil))))
      (.bool (decide (hiQ q < (ps.length : Int)) || (decide ((q : Int) = 2) && ps.isEmpty))) :=
    is_or (is_cmp (L _ _ _ _) (is_ix (p := .list [.int 4, .int 3, .int 4]) (q := .int q) (is_lst (ps := [.int 4, .int 3, .int 4]) rfl (by decide)) (is_var rfl) H) gt_int) fun _ => is_and (is_cmp (p := .int q) (q := .int 2) (is_var rfl) is_int eq_int) fun _ => is_cmp (A _ _ _ _) (is_tup are_nil (Nat.zero_le _)) (eq_none ps okp.shaped)
  have same : (decide (loQ q ≤ (ps.length : Int)) && decide ((ps.length : Int) ≤ hiQ q)) = !(decide (hiQ q < (ps.length : Int)) || (decide ((q : Int) = 2) && ps.isEmpty)) := by
    have e1 : decide ((ps.length : Int) ≤ hiQ q) = !decide (hiQ q < (ps.length : Int)) := by
      rw [← decide_not]
      congr 1
      exact propext Int.not_lt.symm
    have e2 : decide (loQ q ≤ (ps.length : Int)) = !(decide ((q : Int) = 2) && ps.isEmpty) := by
      unfold loQ
      by_cases h2 : q = 2
      · subst h2
        cases ps with
        | nil => rfl
        | cons p ps =>
          simp
          omega
      · have : ¬ ((q : Int) = 2) := by omega
        rw [if_neg h2, decide_eq_false this]
        simp
    rw [e1, e2, Bool.not_or, Bool.and_comm]
  cases hb : (decide (hiQ q < (ps.length : Int)) || (decide ((q : Int) = 2) && ps.isEmpty)) with
  | true =>
    refine ⟨none, none, none, ?_⟩
    have P : part1 q (mq q) (loQ q) (hiQ q) ps met = (some (pairD q (-1)), met) := by
      unfold part1
      rw [same, hb]
      rfl
    rw [P]
    dsimp only
    rw [put_same hr]
    exact guard_of (r := pairD q (-1)) C (fun _ => ⟨PR _ _ _ _, rfl⟩) fun h => by rw [hb] at h; cases h
  | false =>
    have P : part1 q (mq q) (loQ q) (hiQ q) ps met = match (fb (mq q) ps 0 met).1 with
        | some i => (some (pairD q i), (fb (mq q) ps 0 met).2)
        | none => if q = 0 ∧ 64 < prod ps 1 then (some (pairD 0 (-1)), (fb (mq q) ps 0 met).2) else (none, (fb (mq q) ps 0 met).2) := by
      unfold part1
      rw [same, hb]
      rfl
    rw [P]
    obtain ⟨a, b, W⟩ := lf_loop (wf := wf) n r q hq ts ps [] met 1 x4 x5 g hg hr ok hz ht
    have S : evi gl (Fw.run gl Fs wf (n + 2)) (.rng1 (.bi .len (.cons (.ix (.var 0) (.var 1)) .nil))) [some (.dat (.tuple ts)), some (.dat (.int q)), some (.ref r), some (.dat (.int 1)), x4, x5] g = .ok (ixI 0 ps.length, none) g := by
      have z := L (some (.dat (.int 1))) x4 x5 g
      unfold Is at z
      rw [yi_rng1, z, Rs.ok_bind, intOf_int]
      dsimp only
      have i : inB (ps.length : Int) = true := by
        unfold inB
        have : line = 16777216 := rfl
        rw [decide_eq_true_eq]
        omega
      rw [if_pos i, Int.toNat_natCast, rng_ixI]
    have go : exs gl (Fw.run gl Fs wf (n + 2)) wf LO [some (.dat (.tuple ts)), some (.dat (.int q)), some (.ref r), x3, x4, x5] g = (forGo (fun fr g => exs gl (Fw.run gl Fs wf (n + 2)) wf LB fr g) (.nm 4) none (ixI 0 ps.length) [some (.dat (.tuple ts)), some (.dat (.int q)), some (.ref r), some (.dat (.int 1)), x4, x5] g).bind fun f g1 => match f with
        | .nx fr1 => exs gl (Fw.run gl Fs wf (n + 2)) wf (.cons (.ife (.cmp .gt (.var 3) (.int 64)) (.cons (.ret (.tup (.cons (.var 1) (.cons (.neg (.int 1)) .nil)))) .nil) .nil) .nil) fr1 g1
        | .rt d => .ok (.rt d) g1
        | .bk fr1 => .ok (.bk fr1) g1
        | .ct fr1 => .ok (.ct fr1) g1 := by
      refine guard_of (r := pairD q (-1)) C (fun h => by rw [hb] at h; cases h) fun _ => ?_
      rw [set_of (r := .int 1) is_int]
      show exs gl (Fw.run gl Fs wf (n + 2)) wf _ [some (.dat (.tuple ts)), some (.dat (.int q)), some (.ref r), some (.dat (.int 1)), x4, x5] g = _
      rw [yxs_cons, yx_for, S, Rs.ok_bind]
      all_goals rfl
    rw [go]
    have l0 : ([] : List PyData).length = 0 := rfl
    rw [l0] at W
    rw [W]
    generalize fb (mq q) ps 0 met = z
    obtain ⟨o, m1⟩ := z
    cases o with
    | some j => exact ⟨none, none, none, rfl⟩
    | none =>
      refine ⟨some (.dat (.int (nxts q ps 1))), a, b, ?_⟩
      dsimp only
      rw [Rs.ok_bind]
      dsimp only
      have G : Is gl (Fw.run gl Fs wf (n + 2)) [some (.dat (.tuple ts)), some (.dat (.int q)), some (.ref r), some (.dat (.int (nxts q ps 1))), a, b] (putO g r (metO m1)) (.cmp .gt (.var 3) (.int 64)) (.bool (decide (64 < nxts q ps 1))) := is_cmp (p := .int (nxts q ps 1)) (q := .int 64) (is_var rfl) is_int gt_int
      by_cases h0 : q = 0
      · subst h0
        rw [nxts_zero] at G ⊢
        by_cases h6 : 64 < prod ps 1
        · rw [if_pos ⟨rfl, h6⟩]
          exact guard_of (r := pairD (0 : Nat) (-1)) G (fun _ => ⟨PR _ _ _ _, rfl⟩) fun h => absurd h6 (of_decide_eq_false h)
        · rw [if_neg fun h => h6 h.2]
          exact guard_of (r := pairD (0 : Nat) (-1)) G (fun h => absurd (of_decide_eq_true h) h6) fun _ => rfl
      · rw [nxts_pos h0] at G ⊢
        rw [if_neg fun h => h0 h.1]
        exact guard_of (r := pairD q (-1)) G (fun h => absurd (of_decide_eq_true h) (by decide)) fun _ => rfl
end Law
end
set_option Elab.async false
set_option linter.all false
set_option maxRecDepth 100000
set_option maxHeartbeats 4000000
noncomputable section
namespace Law
open PySem PySem.Spec PyProof.Rows L2 Fw
variable {wf : Nat}
theorem ne_int {i j : Int} : cmpD .ne (.int i) (.int j) = some (!decide (i = j)) := by
  have z : eqD (.int i) (.int j) = some (decide (i = j)) := eq_int
  show (eqD (.int i) (.int j)).map not = _
  rw [z]
  rfl
theorem lay_all : ∀ ps : List PyData, (∀ p ∈ ps, Ok p) → PyData.canLayAll0 ps = true ∧ PyData.depthAll ps ≤ 40
  | [], _ => ⟨by simp [PyData.canLayAll0], by simp [PyData.depthAll]⟩
  | p :: ps, h => by
    obtain ⟨i1, i2⟩ := lay_all ps fun q hq => h q (List.mem_cons_of_mem _ hq)
    have o := h p (List.mem_cons_self)
    have l := o.lay
    have d := o.deep
    constructor
    · rw [PyData.canLayAll0, l, i1]; rfl
    · rw [PyData.depthAll]; omega
theorem shaped_list {ps : List PyData} (h : ∀ p ∈ ps, Ok p) : SeqAt.shaped (.list ps) = true := by
  obtain ⟨l1, l2⟩ := lay_all ps h
  unfold SeqAt.shaped
  rw [PyData.canLay0, l1, PyData.depth, Bool.true_and, decide_eq_true_eq]
  omega
theorem triple_eq (ps : List PyData) : triple (.tuple ps) = (decide ((ps.length : Int) = 3) && ps.all isTup) := by
  match ps with
  | [] => rfl
  | [_] => rfl
  | [_, _] => rfl
  | [_, _, _] => rfl
  | a :: b :: c :: d :: ps =>
    have z : decide (((a :: b :: c :: d :: ps).length : Int) = 3) = false := by
      rw [decide_eq_false_iff_not]
      simp only [List.length_cons]
      omega
    rw [z]
    rfl
theorem none_not (ps : List PyData) : (!((ps.filter fun q => !isTup q).map id).isEmpty) = !ps.all isTup := by
  congr 1
  induction ps with
  | nil => rfl
  | cons p ps ih =>
    rw [List.filter_cons, List.all_cons]
    cases isTup p with
    | true => simpa using ih
    | false => rfl
theorem isi_tup (p : PyData) : biD (.isi (Str.ofString "tuple")) [p] = some (.bool (isTup p)) := by
  cases p <;> rfl
theorem no_triple (n : Nat) (p : PyData) (g : Gh) (hg : Low g) (ok : Ok p) (x2 x3 x4 x5 : Option D) :
    Is gl (Fw.run gl Fs wf n) [some (.dat p), none, x2, x3, x4, x5] g (.or (.not (.bi (.isi (Str.ofString "tuple")) (.cons (.var 0) .nil))) (.or (.cmp .ne (.bi .len (.cons (.var 0) .nil)) (.int 3)) (.cmp .ne (.lc false (.nm 1) (.seq (.var 0)) [1] (.so (.not (.bi (.isi (Str.ofString "tuple")) (.cons (.var 1) .nil)))) (.var 1)) (.lst false .nil)))) (.bool (!triple p)) := by
  have A : Is gl (Fw.run gl Fs wf n) [some (.dat p), none, x2, x3, x4, x5] g (.bi (.isi (Str.ofString "tuple")) (.cons (.var 0) .nil)) (.bool (isTup p)) := is_bi (is_var rfl) (isi_tup p)
  cases p with
  | tuple ps =>
    have B : Is gl (Fw.run gl Fs wf n) [some (.dat (.tuple ps)), none, x2, x3, x4, x5] g (.cmp .ne (.bi .len (.cons (.var 0) .nil)) (.int 3)) (.bool (!decide ((ps.length : Int) = 3))) := is_cmp (p := .int ps.length) (q := .int 3) (is_bi (is_var rfl) rfl) is_int ne_int
    have C : Is gl (Fw.run gl Fs wf n) [some (.dat (.tuple ps)), none, x2, x3, x4, x5] g (.cmp .ne (.lc false (.nm 1) (.seq (.var 0)) [1] (.so (.not (.bi (.isi (Str.ofString "tuple")) (.cons (.var 1) .nil)))) (.var 1)) (.lst false .nil)) (.bool (!ps.all isTup)) := by
      rw [← none_not]
      refine is_cmp (p := .list ((ps.filter fun q => !isTup q).map id)) (q := .list []) ?_ (is_lst are_nil (Nat.zero_le _)) (ne_nil _ (shaped_list fun q hq => ok.all q (List.mem_filter.mp (by rw [List.map_id] at hq; exact hq)).1))
      have src : evi gl (Fw.run gl Fs wf n) (.seq (.var 0)) [some (.dat (.tuple ps)), none, x2, x3, x4, x5] g = .ok (ps.map fun q => Itm.one (.dat q), none) g := by
        rw [yi_seq, y_var (d := .dat (.tuple ps)) rfl, Rs.ok_bind]
        show Rs.ok ((ps.map D.dat).map Itm.one, none) g = _
        rw [List.map_map]
        rfl
      have z := is_lc (cl := Fw.run gl Fs wf n) (c := .so (.not (.bi (.isi (Str.ofString "tuple")) (.cons (.var 1) .nil)))) (t := .nm 1) (wp := [1]) (e := .var 1) (fun it => if (!isTup (itD it)) = true then some (id (itD it)) else none) hg src (by rw [List.length_map]; have := ok.len; have : line = 16777216 := rfl; omega) ?_
      · rw [fm_if _ _ id (fun q => !isTup q) _ (fun q => rfl)] at z
        exact z
      · intro it hi zs
        obtain ⟨q, _, rfl⟩ := List.mem_map.mp hi
        refine ⟨[some (.dat (.tuple ps)), some (.dat q), x2, x3, x4, x5], rfl, ?_⟩
        have t : Is gl (Fw.run gl Fs wf n) [some (.dat (.tuple ps)), some (.dat q), x2, x3, x4, x5] (g ++ [.lst zs]) (.not (.bi (.isi (Str.ofString "tuple")) (.cons (.var 1) .nil))) (.bool (!isTup q)) := is_not (is_bi (p := q) (is_var rfl) (isi_tup q))
        have t2 : evc gl (Fw.run gl Fs wf n) (.so (.not (.bi (.isi (Str.ofString "tuple")) (.cons (.var 1) .nil)))) [some (.dat (.tuple ps)), some (.dat q), x2, x3, x4, x5] (g ++ [.lst zs]) = .ok (!isTup q) (g ++ [.lst zs]) := by
          unfold Is at t
          rw [yc_so, t, Rs.ok_bind]
          rfl
        cases h : (!isTup q) with
        | false =>
          rw [h] at t2
          exact .inl ⟨by show (if (!isTup q) = true then _ else none) = none; rw [h]; rfl, t2⟩
        | true =>
          rw [h] at t2
          exact .inr ⟨q, by show (if (!isTup q) = true then _ else none) = _; rw [h]; rfl, t2, is_var rfl⟩
    have e : (!triple (.tuple ps)) = (!true || (!decide ((ps.length : Int) = 3) || !ps.all isTup)) := by
      rw [triple_eq, Bool.not_and]
      rfl
    rw [e]
    exact is_or (is_not A) fun _ => is_or B fun _ => C
  | _ => exact is_or (p := true) (q := false) (is_not A) fun z => nomatch z
theorem r_fault (n : Nat) (p : PyData) (g : Gh) (hg : Low g) (ok : Ok p) : rn wf (n + 3) 23 [.dat p] g = .ok (.dat (optD (said p))) g := by
  cases ht : triple p with
  | false =>
    refine run_dat (d := F__law_fault) rfl rfl ?_
    rw [said_not ht]
    have T := no_triple (wf := wf) (n + 2) p g hg ok none none none none
    exact guard_of (r := .int (-1)) T (fun _ => ⟨is_neg is_int, rfl⟩) fun h => by rw [ht] at h; cases h
  | true =>
    have T := no_triple (wf := wf) (n + 2) p g hg ok none none none none
    rw [ht] at T
    obtain ⟨c, k, e, rfl⟩ := triple_is ht
    obtain ⟨oc, ok2, oe, hz⟩ := ok.rows
    have o1 := ok.all (.tuple c) (by simp)
    have o2 := ok.all (.tuple k) (by simp)
    have o3 := ok.all (.tuple e) (by simp)
    suffices h : ∃ met, exs gl (Fw.run gl Fs wf (n + 2)) wf F__law_fault.body [some (.dat (.tuple [.tuple c, .tuple k, .tuple e])), none, none, none, none, none] g = .ok (.rt (.dat (optD (wrong c k e)))) (g ++ [metO met]) by
      obtain ⟨met, h⟩ := h
      exact run_new (d := F__law_fault) rfl rfl hg h
    have go : exs gl (Fw.run gl Fs wf (n + 2)) wf F__law_fault.body [some (.dat (.tuple [.tuple c, .tuple k, .tuple e])), none, none, none, none, none] g = (forGo (fun fr g => exs gl (Fw.run gl Fs wf (n + 2)) wf LO fr g) (.nm 1) none (ixI 0 3) [some (.dat (.tuple [.tuple c, .tuple k, .tuple e])), none, some (.ref g.length), none, none, none] (g ++ [metO []])).bind fun f g1 => match f with
        | .nx fr1 => exs gl (Fw.run gl Fs wf (n + 2)) wf (.cons (.ret .non) .nil) fr1 g1
        | .rt d => .ok (.rt d) g1
        | .bk fr1 => .ok (.bk fr1) g1
        | .ct fr1 => .ok (.ct fr1) g1 := by
      refine guard_of (r := .int (-1)) T (fun h => by cases h) fun _ => ?_
      rfl
    rw [go, ixI_succ, ixI_succ, ixI_succ]
    have gr : ∀ met : List Str, (g ++ [metO met])[g.length]? = some (metO met) := fun met => by simp
    rw [for_cons (fr1 := [some (.dat (.tuple [.tuple c, .tuple k, .tuple e])), some (.dat (.int (0 : Nat))), some (.ref g.length), none, none, none]) rfl]
    obtain ⟨x3, x4, x5, T1⟩ := lo_turn (wf := wf) n g.length 0 (by omega) [.tuple c, .tuple k, .tuple e] c [] none none none (g ++ [metO []]) (low_app hg) (gr []) o1 oc (by simp; omega) rfl
    rw [T1]
    have p1 : part1 0 (mq 0) (loQ 0) (hiQ 0) c [] = part1 0 (some 8) 0 4 c [] := rfl
    rw [p1]
    unfold wrong
    generalize q1 : part1 0 (some 8) 0 4 c [] = z1
    have m1 : z1.2.length ≤ c.length := by rw [← q1]; have := part1_met (q := 0) (m := some 8) (lo := 0) (hi := 4) (ps := c) (met := []); simpa using this
    obtain ⟨d1, met1⟩ := z1
    rw [put_last]
    cases d1 with
    | some d => exact ⟨met1, rfl⟩
    | none =>
      dsimp only at m1 ⊢
      rw [Rs.ok_bind]
      dsimp only
      rw [for_cons (fr1 := [some (.dat (.tuple [.tuple c, .tuple k, .tuple e])), some (.dat (.int (1 : Nat))), some (.ref g.length), x3, x4, x5]) rfl]
      obtain ⟨y3, y4, y5, T2⟩ := lo_turn (wf := wf) n g.length 1 (by omega) [.tuple c, .tuple k, .tuple e] k met1 x3 x4 x5 (g ++ [metO met1]) (low_app hg) (gr met1) o2 ok2 (by omega) rfl
      rw [T2]
      have p2 : part1 1 (mq 1) (loQ 1) (hiQ 1) k met1 = part1 1 (some 99) 0 3 k met1 := rfl
      rw [p2]
      generalize q2 : part1 1 (some 99) 0 3 k met1 = z2
      have m2 : z2.2.length ≤ met1.length + k.length := by rw [← q2]; exact part1_met
      obtain ⟨d2, met2⟩ := z2
      rw [put_last]
      cases d2 with
      | some d => exact ⟨met2, rfl⟩
      | none =>
        dsimp only at m2 ⊢
        rw [Rs.ok_bind]
        dsimp only
        rw [for_cons (fr1 := [some (.dat (.tuple [.tuple c, .tuple k, .tuple e])), some (.dat (.int (2 : Nat))), some (.ref g.length), y3, y4, y5]) rfl]
        obtain ⟨w3, w4, w5, T3⟩ := lo_turn (wf := wf) n g.length 2 (by omega) [.tuple c, .tuple k, .tuple e] e met2 y3 y4 y5 (g ++ [metO met2]) (low_app hg) (gr met2) o3 oe (by omega) rfl
        rw [T3]
        have p3 : part1 2 (mq 2) (loQ 2) (hiQ 2) e met2 = part1 2 none 1 4 e met2 := rfl
        rw [p3]
        generalize q3 : part1 2 none 1 4 e met2 = z3
        obtain ⟨d3, met3⟩ := z3
        rw [put_last]
        cases d3 with
        | some d => exact ⟨met3, rfl⟩
        | none =>
          refine ⟨met3, ?_⟩
          dsimp only
          rw [Rs.ok_bind]
          dsimp only
          have e0 : ixI (0 + 1 + 1 + 1) 0 = [] := rfl
          rw [e0, for_nil]
          rfl
end Law
end
set_option Elab.async false
set_option linter.all false
set_option maxRecDepth 100000
set_option maxHeartbeats 4000000
noncomputable section
namespace Law
open PySem PySem.Spec PyProof.Rows L2 Fw
variable {wf : Nat}
mutual
theorem wgt_sz : ∀ p : PyData, wgt p ≤ 2000 * sz p
  | .none => by decide
  | .bool _ => by unfold wgt sz; omega
  | .int _ => by unfold wgt sz; omega
  | .str x => by unfold wgt sz; omega
  | .list xs => by unfold wgt sz; have := wgts_szs xs; omega
  | .tuple xs => by unfold wgt sz; have := wgts_szs xs; omega
  | .dict _ => by unfold wgt; omega
theorem wgts_szs : ∀ ps : List PyData, wgts ps ≤ 2000 * szs ps
  | [] => by unfold wgts; omega
  | p :: ps => by unfold wgts szs; have := wgt_sz p; have := wgts_szs ps; omega
end
theorem fb_lt {m : Option Int} : ∀ {ps : List PyData} {i : Nat} {met : List Str} {j : Nat}, (fb m ps i met).1 = some j → j < i + ps.length
  | [], _, _, _, h => nomatch h
  | p :: ps, i, met, j, h => by
    unfold fb at h
    have e : (p :: ps).length = ps.length + 1 := rfl
    split at h
    · cases h; omega
    · split at h
      · cases h; omega
      · have := fb_lt h
        omega
def Said (w : PyData) : Prop := w = .int (-1) ∨ ∃ a b : Int, w = pairD a b ∧ 0 ≤ a ∧ a ≤ 2 ∧ -1 ≤ b ∧ b ≤ 3
theorem part1_said {q : Nat} {m : Option Int} {lo hi : Int} {ps : List PyData} {met : List Str} {d : PyData} (hq : q ≤ 2) (hh : hi ≤ 4) (h : (part1 q m lo hi ps met).1 = some d) : Said d := by
  unfold part1 at h
  split at h
  · rename_i c
    rw [Bool.and_eq_true, decide_eq_true_eq, decide_eq_true_eq] at c
    split at h
    · rename_i i hi'
      have := fb_lt hi'
      cases h
      exact .inr ⟨q, i, rfl, by omega, by omega, by omega, by omega⟩
    · split at h
      · cases h
        exact .inr ⟨0, -1, rfl, by omega, by omega, by omega, by omega⟩
      · cases h
  · cases h
    exact .inr ⟨q, -1, rfl, by omega, by omega, by omega, by omega⟩
theorem said_said {p d : PyData} (h : said p = some d) : Said d := by
  unfold said at h
  split at h
  · unfold wrong at h
    split at h
    · rename_i q1
      cases h
      exact part1_said (q := 0) (m := some 8) (lo := 0) (hi := 4) (by omega) (by omega) (by rw [q1])
    · split at h
      · rename_i q1
        cases h
        exact part1_said (q := 1) (m := some 99) (lo := 0) (hi := 3) (by omega) (by omega) (by rw [q1])
      · exact part1_said (q := 2) (m := none) (lo := 1) (hi := 4) (by omega) (by omega) h
  · cases h
    exact .inl rfl
theorem lay_lit {x : Str} (h : x.cps.toList.all (fun c => decide (c < 0x110000)) = true) : (PyData.str x).canLay0 = true := by
  have y : PyData.strOk x = true := by
    unfold PyData.strOk
    rw [← Array.all_toList]
    exact h
  simpa [PyData.canLay0] using y
theorem small_show {i : Int} (h : -1 ≤ i ∧ i ≤ 3) : (PyData.int i).showable = true := by
  have : i = -1 ∨ i = 0 ∨ i = 1 ∨ i = 2 ∨ i = 3 := by omega
  rcases this with rfl | rfl | rfl | rfl | rfl <;> rfl
theorem said_repr {d : PyData} (h : Said d) : reprOk (.tuple [.str (Str.ofString "refused"), d, .bool true]) = true ∧ cmpD .is_ d .none = some false := by
  have r : (PyData.str (Str.ofString "refused")).canLay0 = true := lay_lit (by decide)
  have l : (Str.ofString "refused").length = 7 := rfl
  rcases h with rfl | ⟨a, b, rfl, h1, h2, h3, h4⟩
  · refine ⟨?_, rfl⟩
    have s1 := small_show (i := -1) (by omega)
    unfold reprOk SeqAt.shaped
    simp [PyData.canLay0, PyData.canLayAll0, PyData.depth, PyData.depthAll, PyData.showable, PyData.showableAll, wgt, wgts, l, line] at r s1 ⊢
    simp [r, s1]
  · refine ⟨?_, rfl⟩
    have s1 := small_show (i := a) (by omega)
    have s2 := small_show (i := b) (by omega)
    unfold reprOk SeqAt.shaped pairD
    simp [PyData.canLay0, PyData.canLayAll0, PyData.depth, PyData.depthAll, PyData.showable, PyData.showableAll, wgt, wgts, l, line] at r s1 s2 ⊢
    simp [r, s1, s2]
theorem told_repr {p : PyData} (h : Ok p) : reprOk (.tuple [.str (Str.ofString "told"), p]) = true := by
  have h1 := h.lay
  have h2 := h.show_
  have h3 := h.small
  have h4 := h.deep
  have w := wgt_sz p
  have l : line = 16777216 := rfl
  unfold reprOk SeqAt.shaped
  have a : (PyData.tuple [.str (Str.ofString "told"), p]).canLay0 = true := by
    have r : (PyData.str (Str.ofString "told")).canLay0 = true := lay_lit (by decide)
    rw [PyData.canLay0, PyData.canLayAll0, PyData.canLayAll0, h1, r, PyData.canLayAll0]
    rfl
  have b : (PyData.tuple [.str (Str.ofString "told"), p]).showable = true := by
    simp [PyData.showable, PyData.showableAll, h2]
  have c : (PyData.tuple [.str (Str.ofString "told"), p]).depth ≤ 64 := by
    simp only [PyData.depth, PyData.depthAll]
    omega
  have d : wgt (.tuple [.str (Str.ofString "told"), p]) ≤ line := by
    have e : (Str.ofString "told").length = 4 := rfl
    simp only [wgt, wgts, e]
    omega
  rw [a, b, decide_eq_true c, decide_eq_true d]
  rfl
theorem heard_repr {p : PyData} (h : Ok p) : reprOk (heard p) = true := by
  unfold heard
  split
  · exact told_repr h
  · rename_i w hw
    exact (said_repr (said_said hw)).1
theorem is_none {p : PyData} : cmpD .is_ (optD (said p)) .none = some (said p).isNone := by
  cases h : said p with
  | none => rfl
  | some d => exact (said_repr (said_said h)).2
theorem repr_of {p : PyData} (h : reprOk p = true) : biD .repr [p] = some (.str p.shown) := if_pos h
theorem r_right (n : Nat) (p : PyData) (g : Gh) (hg : Low g) (ok : Ok p) : rn wf (n + 7) 28 [.dat p] g = .ok (.dat (.bool true)) g := by
  refine run_dat (d := F__law_thing_right) rfl rfl ?_
  show exs gl (Fw.run gl Fs wf (n + 6)) wf F__law_thing_right.body [some (.dat p), none, none] g = _
  have S : Is gl (Fw.run gl Fs wf (n + 6)) [some (.dat p), none, none] g (.call 23 (.cons (.var 0) .nil)) (optD (said p)) := is_call (ps := [p]) (are_cons (is_var rfl) are_nil) (r_fault (n + 3) p g hg ok)
  have N : ∀ y, Is gl (Fw.run gl Fs wf (n + 6)) [some (.dat p), some (.dat (optD (said p))), y] g (.cmp .is_ (.var 1) .non) (.bool (said p).isNone) := fun y => is_cmp (is_var rfl) is_non is_none
  have H : Is gl (Fw.run gl Fs wf (n + 6)) [some (.dat p), some (.dat (optD (said p))), none] g (.ite (.cmp .is_ (.var 1) .non) (.tup (.cons (.str (Str.ofString "told")) (.cons (.var 0) .nil))) (.tup (.cons (.str (Str.ofString "refused")) (.cons (.var 1) (.cons (.bl true) .nil))))) (heard p) := by
    refine is_ite (N none) (fun h => ?_) fun h => ?_
    · unfold heard
      cases hs : said p with
      | none => exact is_tup (ps := [.str (Str.ofString "told"), p]) (are_cons is_str (are_cons (is_var rfl) are_nil)) (show 2 ≤ line by decide)
      | some d => rw [hs] at h; cases h
    · unfold heard
      cases hs : said p with
      | none => rw [hs] at h; cases h
      | some d => exact is_tup (ps := [.str (Str.ofString "refused"), d, .bool true]) (are_cons is_str (are_cons (is_var rfl) (are_cons is_bl are_nil))) (show 3 ≤ line by decide)
  show exs gl (Fw.run gl Fs wf (n + 6)) wf (.cons (.set (.nm 1) (.call 23 (.cons (.var 0) .nil))) _) _ g = _
  rw [set_of S]
  show exs gl (Fw.run gl Fs wf (n + 6)) wf (.cons (.set (.nm 2) _) _) [some (.dat p), some (.dat (optD (said p))), none] g = _
  rw [set_of H]
  refine ret_of ?_
  show Is gl (Fw.run gl Fs wf (n + 6)) [some (.dat p), some (.dat (optD (said p))), some (.dat (heard p))] g _ _
  have st : ∀ x : Str, cmpD .eq (.str x) (.str x) = some true := fun x => by
    show some (x == x) = _
    simp
  exact is_and (p := true) (q := true) (is_cmp (is_bi (is_call (ps := [p]) (are_cons (is_var rfl) are_nil) (r_heard n p g hg ok)) (repr_of (heard_repr ok))) (is_bi (is_var rfl) (repr_of (heard_repr ok))) (st _)) fun _ =>
    is_cmp (is_bi (is_call (ps := [p]) (are_cons (is_var rfl) are_nil) (r_is_ground (n + 1) p g hg ok)) (repr_of (by cases (said p).isNone <;> decide))) (is_bi (N _) (repr_of (by cases (said p).isNone <;> decide))) (st _)
end Law
end
set_option Elab.async false
set_option linter.all false
set_option maxRecDepth 100000
set_option maxHeartbeats 4000000
noncomputable section
namespace Law
open PySem PySem.Spec PyProof.Rows L2 Fw
variable {wf : Nat}
theorem r_nought_of (n : Nat) (c k e : List PyData) (g : Gh) (hg : Low g) (hk : k.length ≤ line) : rn wf (n + 1) 12 [.dat (.tuple [.tuple c, .tuple k, .tuple e])] g = .ok (.dat (.tuple (k.map fun _ => .int 0))) g := by
  refine run_dat (d := F_nought_of) rfl rfl ?_
  refine ret_of ?_
  show Is gl (Fw.run gl Fs wf n) [some (.dat (.tuple [.tuple c, .tuple k, .tuple e])), none] g _ _
  refine is_bi (p := .list (k.map fun _ => .int 0)) ?_ rfl
  have src : evi gl (Fw.run gl Fs wf n) (.seq (.ix (.var 0) (.int 1))) [some (.dat (.tuple [.tuple c, .tuple k, .tuple e])), none] g = .ok (k.map fun q => Itm.one (.dat q), none) g := by
    have z : Is gl (Fw.run gl Fs wf n) [some (.dat (.tuple [.tuple c, .tuple k, .tuple e])), none] g (.ix (.var 0) (.int 1)) (.tuple k) := is_ix (p := .tuple [.tuple c, .tuple k, .tuple e]) (q := .int 1) (is_var rfl) is_int rfl
    unfold Is at z
    rw [yi_seq, z, Rs.ok_bind]
    show Rs.ok ((k.map D.dat).map Itm.one, none) g = _
    rw [List.map_map]
    rfl
  have z := is_lc (cl := Fw.run gl Fs wf n) (c := .no) (t := .nm 1) (wp := [1]) (e := .int 0) (fun _ => some (.int 0)) hg src (by rw [List.length_map]; exact hk) ?_
  · rw [fm_one _ _ (fun _ => PyData.int 0) _ (fun q => rfl)] at z
    exact z
  · intro it hi zs
    obtain ⟨q, _, rfl⟩ := List.mem_map.mp hi
    exact ⟨[some (.dat (.tuple [.tuple c, .tuple k, .tuple e])), some (.dat q)], rfl, .inr ⟨_, rfl, rfl, is_int⟩⟩
theorem made_is (n : Nat) (p : PyData) (g : Gh) (hg : Low g) (ok : Ok p) (hs : said p = none) (fr : Fr) (h : fr[0]? = some (some (.dat p))) : Is gl (Fw.run gl Fs wf (n + 5)) fr g (.call 7 (.cons (.var 0) .nil)) p := by
  have M := r_made (wf := wf) n p g hg ok
  rw [hs] at M
  exact is_call (ps := [p]) (are_cons (is_var h) are_nil) M
theorem r_nought (n : Nat) (c k e : List PyData) (g : Gh) (hg : Low g) (ok : Ok (.tuple [.tuple c, .tuple k, .tuple e])) (hs : said (.tuple [.tuple c, .tuple k, .tuple e]) = none) : rn wf (n + 6) 13 [.dat (.tuple [.tuple c, .tuple k, .tuple e])] g = .ok (.dat (.tuple (k.map fun _ => .int 0))) g := by
  refine run_dat (d := F_nought) rfl rfl ?_
  have hk : k.length ≤ line := by have := ok.rows.2.2.2; omega
  exact ret_of (is_call (ps := [.tuple [.tuple c, .tuple k, .tuple e]]) (are_cons (made_is n _ g hg ok hs _ rfl) are_nil) (r_nought_of (n + 4) c k e g hg hk))
theorem said_c {c k e : List PyData} (h : wrong c k e = none) : Sized c ∧ prod c 1 ≤ 64 ∧ c.length ≤ 4 := by
  unfold wrong at h
  split at h
  · cases h
  · rename_i m1 q1
    clear h
    have q2 : (part1 0 (some 8) 0 4 c []).1 = none := by rw [q1]
    unfold part1 at q2
    split at q2
    · rename_i z
      rw [Bool.and_eq_true, decide_eq_true_eq, decide_eq_true_eq] at z
      split at q2
      · cases q2
      · rename_i hf
        split at q2
        · cases q2
        · rename_i hp
          refine ⟨fb_sized 8 (by omega) c 0 [] hf, ?_, by omega⟩
          rcases Int.lt_or_le 64 (prod c 1) with h | h
          · exact absurd ⟨rfl, h⟩ hp
          · exact h
    · cases q2
theorem r_many (n : Nat) (c k e : List PyData) (g : Gh) (hg : Low g) (ok : Ok (.tuple [.tuple c, .tuple k, .tuple e])) (hs : said (.tuple [.tuple c, .tuple k, .tuple e]) = none) : rn wf (n + 6) 11 [.dat (.tuple [.tuple c, .tuple k, .tuple e])] g = .ok (.dat (.int (prod c 1))) g := by
  refine run_dat (d := F_many_states) rfl rfl ?_
  have sz := (said_c (show wrong c k e = none from hs)).1
  exact ret_of (is_call (ps := [.tuple c]) (are_cons (is_ix (p := .tuple [.tuple c, .tuple k, .tuple e]) (q := .int 0) (made_is n _ g hg ok hs _ rfl) is_int rfl) are_nil) (r_many_of (n + 4) c g sz))
end Law
end
set_option Elab.async false
set_option linter.all false
set_option maxRecDepth 100000
set_option maxHeartbeats 4000000
noncomputable section
namespace Law
open PySem PySem.Spec PyProof.Rows L2 Fw
variable {wf : Nat}
def grow (rows : List (List PyData)) (i : Nat) : List (List PyData) := rows.flatMap fun row => (List.range i).map fun j => row ++ [.int (j : Nat)]
theorem grow_len (i : Nat) : ∀ rows : List (List PyData), (grow rows i).length = rows.length * i
  | [] => by unfold grow; simp
  | row :: rows => by
    have ih := grow_len i rows
    unfold grow at ih ⊢
    rw [List.flatMap_cons, List.length_append, ih, List.length_map, List.length_range, List.length_cons, Nat.succ_mul]
    omega
def rowsD (rows : List (List PyData)) : PyData := .list (rows.map .tuple)
abbrev SB : CSs := .cons (.set (.nm 1) (.lc2 false (.nm 4) (.seq (.var 1)) .no (.nm 5) (.rng1 (.var 3)) .no [4, 5] [5] (.bin .add (.var 4) (.tup (.cons (.var 5) .nil))))) .nil
theorem st_turn (n i : Nat) (rows : List (List PyData)) (gd a : PyData) (x4 x5 : Option D) (g : Gh) (hg : Low g) (hi : i ≤ 1000000) (hr : rows.length * i ≤ line) (hw : ∀ row ∈ rows, row.length < line) :
    exs gl (Fw.run gl Fs wf n) wf SB [some (.dat gd), some (.dat (rowsD rows)), some (.dat a), some (.dat (.int (i : Nat))), x4, x5] g = .ok (.nx [some (.dat gd), some (.dat (rowsD (grow rows i))), some (.dat a), some (.dat (.int (i : Nat))), x4, x5]) g := by
  have src : evi gl (Fw.run gl Fs wf n) (.seq (.var 1)) [some (.dat gd), some (.dat (rowsD rows)), some (.dat a), some (.dat (.int (i : Nat))), x4, x5] g = .ok (rows.map fun row => Itm.one (.dat (.tuple row)), none) g := by
    rw [yi_seq, y_var (d := .dat (rowsD rows)) rfl, Rs.ok_bind]
    show Rs.ok (((rows.map PyData.tuple).map D.dat).map Itm.one, none) g = _
    rw [List.map_map, List.map_map]
    rfl
  let F : Itm → List PyData := fun it => match itD it with
    | .tuple row => (List.range i).map fun j => .tuple (row ++ [.int (j : Nat)])
    | _ => []
  have e : (rows.map fun row => Itm.one (.dat (.tuple row))).flatMap F = (grow rows i).map .tuple := by
    unfold grow
    rw [List.flatMap_map, List.map_flatMap]
    congr 1
    funext row
    show ((List.range i).map fun j => PyData.tuple (row ++ [.int (j : Nat)])) = _
    rw [List.map_map]
    rfl
  have z := is_lc2 (cl := Fw.run gl Fs wf n) (t := .nm 4) (t2 := .nm 5) (s2 := .rng1 (.var 3)) (wp := [4, 5]) (wp2 := [5]) (e := .bin .add (.var 4) (.tup (.cons (.var 5) .nil))) F hg src (by rw [e, List.length_map, grow_len]; exact hr) ?_
  · rw [e] at z
    rw [set_of (r := rowsD (grow rows i)) z]
    rfl
  · intro it hit zs
    obtain ⟨row, hrow, rfl⟩ := List.mem_map.mp hit
    refine ⟨[some (.dat gd), some (.dat (rowsD rows)), some (.dat a), some (.dat (.int (i : Nat))), some (.dat (.tuple row)), none], (List.range i).map fun (j : Nat) => Itm.one (.dat (.int (j : Nat))), fun it2 => match itD it2 with
      | .int j => .tuple (row ++ [.int j])
      | _ => .none, rfl, ?_, ?_, ?_⟩
    · rw [yi_rng1, y_var (d := .dat (.int (i : Nat))) rfl, Rs.ok_bind, intOf_int]
      dsimp only
      have b : inB (i : Int) = true := by
        unfold inB
        rw [decide_eq_true_eq]
        omega
      rw [if_pos b, Int.toNat_natCast, rng_ixI]
      unfold ixI
      rw [List.range_eq_range']
    · show ((List.range i).map fun j => PyData.tuple (row ++ [.int (j : Nat)])) = _
      rw [List.map_map]
      rfl
    · intro it2 hit2 zs2
      obtain ⟨j, hj, rfl⟩ := List.mem_map.mp hit2
      refine ⟨[some (.dat gd), some (.dat (rowsD rows)), some (.dat a), some (.dat (.int (i : Nat))), some (.dat (.tuple row)), some (.dat (.int (j : Nat)))], rfl, ?_⟩
      refine is_bin (p := .tuple row) (q := .tuple [.int (j : Nat)]) (is_var rfl) (is_tup (ps := [.int (j : Nat)]) (are_cons (is_var rfl) are_nil) (show 1 ≤ line by decide)) ?_
      have := hw row hrow
      exact if_pos (show row.length + 1 ≤ line by omega)
end Law
end
set_option Elab.async false
set_option linter.all false
set_option maxRecDepth 100000
set_option maxHeartbeats 4000000
noncomputable section
namespace Law
open PySem PySem.Spec PyProof.Rows L2 Fw
variable {wf : Nat}
def Sized8 (ps : List PyData) : Prop := ∀ p ∈ ps, ∃ (a : PyData) (i : Nat), p = .tuple [a, .int (i : Nat)] ∧ 1 ≤ i ∧ i ≤ 8
def sizeN : PyData → Nat
  | .tuple [_, .int i] => i.toNat
  | _ => 0
def grown : List PyData → List (List PyData) → List (List PyData)
  | [], rows => rows
  | p :: ps, rows => grown ps (grow rows (sizeN p))
theorem grow_mem {rows : List (List PyData)} {i : Nat} {z : List PyData} (h : z ∈ grow rows i) : ∃ row ∈ rows, ∃ j : Nat, j < i ∧ z = row ++ [.int (j : Nat)] := by
  unfold grow at h
  obtain ⟨row, h1, h2⟩ := List.mem_flatMap.mp h
  obtain ⟨j, h3, rfl⟩ := List.mem_map.mp h2
  exact ⟨row, h1, j, List.mem_range.mp h3, rfl⟩
theorem st_loop (n : Nat) (gd : PyData) : ∀ (ps : List PyData) (rows : List (List PyData)) (x2 x3 x4 x5 : Option D) (g : Gh), Low g → Sized8 ps → rows.length * 8 ^ ps.length ≤ 4096 → (∀ row ∈ rows, row.length + ps.length ≤ 4) →
    ∃ a b, forGo (fun fr g => exs gl (Fw.run gl Fs wf n) wf SB fr g) (.tp [.nm 2, .nm 3]) none (ps.map fun p => Itm.one (.dat p)) [some (.dat gd), some (.dat (rowsD rows)), x2, x3, x4, x5] g = .ok (.nx [some (.dat gd), some (.dat (rowsD (grown ps rows))), a, b, x4, x5]) g
  | [], rows, x2, x3, x4, x5, g, _, _, _, _ => ⟨x2, x3, for_nil⟩
  | p :: ps, rows, x2, x3, x4, x5, g, hg, hs, hl, hw => by
    obtain ⟨a0, i, rfl, h1, h2⟩ := hs p (List.mem_cons_self)
    have l : line = 16777216 := rfl
    have e8 : 8 ^ (PyData.tuple [a0, .int (i : Nat)] :: ps).length = 8 ^ ps.length * 8 := by rw [List.length_cons, Nat.pow_succ]
    rw [e8] at hl
    have pos : 1 ≤ 8 ^ ps.length := Nat.one_le_pow _ _ (by omega)
    have b1 : rows.length * i ≤ rows.length * (8 ^ ps.length * 8) := Nat.mul_le_mul_left _ (by omega)
    have b2 : rows.length * i * 8 ^ ps.length ≤ rows.length * (8 ^ ps.length * 8) := by
      rw [Nat.mul_assoc]
      refine Nat.mul_le_mul_left _ ?_
      rw [Nat.mul_comm]
      exact Nat.mul_le_mul_left _ h2
    have T := st_turn (wf := wf) n i rows gd a0 x4 x5 g hg (by omega) (by omega) (fun row hr => by have := hw row hr; omega)
    obtain ⟨a, b, ih⟩ := st_loop n gd ps (grow rows i) (some (.dat a0)) (some (.dat (.int (i : Nat)))) x4 x5 g hg (fun q hq => hs q (List.mem_cons_of_mem _ hq)) (by rw [grow_len]; omega) (fun z hz => by
      obtain ⟨row, hr, j, _, rfl⟩ := grow_mem hz
      have := hw row hr
      simp only [List.length_append, List.length_cons, List.length_nil] at this ⊢
      omega)
    refine ⟨a, b, ?_⟩
    rw [List.map_cons, for_cons (fr1 := [some (.dat gd), some (.dat (rowsD rows)), some (.dat a0), some (.dat (.int (i : Nat))), x4, x5]) rfl, T, Rs.ok_bind]
    dsimp only
    rw [ih]
    rfl
end Law
end
set_option Elab.async false
set_option linter.all false
set_option maxRecDepth 100000
set_option maxHeartbeats 4000000
noncomputable section
namespace Law
open PySem PySem.Spec PyProof.Rows L2 Fw
variable {wf : Nat}
theorem fb_sized8 : ∀ (ps : List PyData) (i : Nat) (met : List Str), (fb (some 8) ps i met).1 = none → Sized8 ps
  | [], _, _, _ => fun p h => nomatch h
  | p :: ps, i, met, h => by
    unfold fb at h
    cases q : nm (some 8) p with
    | none => rw [q] at h; cases h
    | some x =>
      rw [q] at h
      dsimp only at h
      split at h
      · cases h
      · have ih := fb_sized8 ps (i + 1) (met ++ [x]) h
        intro z hz
        rcases List.mem_cons.mp hz with rfl | hz
        · cases z with
          | tuple es => match es, q with
            | [.str y, b], q =>
              have q' : (if (nameS y && numIn 1 8 b) = true then some y else none) = some x := q
              split at q'
              · rename_i hq
                rw [Bool.and_eq_true] at hq
                cases b with
                | int j =>
                  have hj : (decide (1 ≤ j) && decide (j ≤ 8)) = true := hq.2
                  rw [Bool.and_eq_true, decide_eq_true_eq, decide_eq_true_eq] at hj
                  obtain ⟨k, rfl⟩ := Int.eq_ofNat_of_zero_le (show 0 ≤ j by omega)
                  exact ⟨_, k, rfl, by omega, by omega⟩
                | _ => cases hq.2
              · cases q'
          | _ => cases q
        · exact ih z hz
theorem r_all_states (n : Nat) (c k e : List PyData) (g : Gh) (hg : Low g) (hs : Sized8 c) (hl : c.length ≤ 4) : rn wf (n + 1) 9 [.dat (.tuple [.tuple c, .tuple k, .tuple e])] g = .ok (.dat (.tuple ((grown c [[]]).map .tuple))) g := by
  refine run_dat (d := F_all_states) rfl rfl ?_
  show exs gl (Fw.run gl Fs wf n) wf (.cons (.set (.nm 1) (.lst false (.cons (.tup .nil) .nil))) _) [some (.dat (.tuple [.tuple c, .tuple k, .tuple e])), none, none, none, none, none] g = _
  rw [set_of (r := rowsD [[]]) (is_lst (ps := [.tuple []]) (are_cons (is_tup are_nil (Nat.zero_le _)) are_nil) (show 1 ≤ line by decide))]
  show exs gl (Fw.run gl Fs wf n) wf (.cons (.for_ (.tp [(.nm 2), (.nm 3)]) (.seq (.ix (.var 0) (.int 0))) SB) (.cons (.ret (.bi .tuple (.cons (.var 1) .nil))) .nil)) [some (.dat (.tuple [.tuple c, .tuple k, .tuple e])), some (.dat (rowsD [[]])), none, none, none, none] g = _
  have src : evi gl (Fw.run gl Fs wf n) (.seq (.ix (.var 0) (.int 0))) [some (.dat (.tuple [.tuple c, .tuple k, .tuple e])), some (.dat (rowsD [[]])), none, none, none, none] g = .ok (c.map fun q => Itm.one (.dat q), none) g := by
    have z : Is gl (Fw.run gl Fs wf n) [some (.dat (.tuple [.tuple c, .tuple k, .tuple e])), some (.dat (rowsD [[]])), none, none, none, none] g (.ix (.var 0) (.int 0)) (.tuple c) := is_ix (p := .tuple [.tuple c, .tuple k, .tuple e]) (q := .int 0) (is_var rfl) is_int rfl
    unfold Is at z
    rw [yi_seq, z, Rs.ok_bind]
    show Rs.ok ((c.map D.dat).map Itm.one, none) g = _
    rw [List.map_map]
    rfl
  obtain ⟨a, b, L⟩ := st_loop (wf := wf) n (.tuple [.tuple c, .tuple k, .tuple e]) c [[]] none none none none g hg hs (by
    have : 8 ^ c.length ≤ 8 ^ 4 := Nat.pow_le_pow_right (by omega) hl
    have e : (8 : Nat) ^ 4 = 4096 := rfl
    simp only [List.length_cons, List.length_nil]
    omega) (by intro row hr; rcases List.mem_singleton.mp hr with rfl; simpa using hl)
  rw [yxs_cons, yx_for, src, Rs.ok_bind]
  dsimp only
  rw [L, Rs.ok_bind]
  rfl
theorem said_c8 {c k e : List PyData} (h : wrong c k e = none) : Sized8 c := by
  unfold wrong at h
  split at h
  · cases h
  · rename_i m1 q1
    clear h
    have q2 : (part1 0 (some 8) 0 4 c []).1 = none := by rw [q1]
    unfold part1 at q2
    split at q2
    · split at q2
      · cases q2
      · rename_i hf
        exact fb_sized8 c 0 [] hf
    · cases q2
theorem r_states (n : Nat) (c k e : List PyData) (g : Gh) (hg : Low g) (ok : Ok (.tuple [.tuple c, .tuple k, .tuple e])) (hs : said (.tuple [.tuple c, .tuple k, .tuple e]) = none) : rn wf (n + 6) 10 [.dat (.tuple [.tuple c, .tuple k, .tuple e])] g = .ok (.dat (.tuple ((grown c [[]]).map .tuple))) g := by
  refine run_dat (d := F_states) rfl rfl ?_
  exact ret_of (is_call (ps := [.tuple [.tuple c, .tuple k, .tuple e]]) (are_cons (made_is n _ g hg ok hs _ rfl) are_nil) (r_all_states (n + 4) c k e g hg (said_c8 hs) (said_c (show wrong c k e = none from hs)).2.2))
end Law
end
set_option Elab.async false
set_option linter.all false
set_option maxRecDepth 100000
set_option maxHeartbeats 4000000
noncomputable section
namespace Law
open PySem PySem.Spec PyProof.Rows L2 Fw
variable {wf : Nat}
def rowO (rows : List (List PyData)) : Ob := .lst (rows.map fun row => .dat (.tuple row))
theorem rowO_l {g : Gh} {rows : List (List PyData)} : getL (g ++ [rowO rows]) g.length = some (rows.map fun row => .dat (.tuple row)) := by
  unfold getL
  simp [rowO]
theorem low_row {g : Gh} {rows : List (List PyData)} (hg : Low g) : Low (g ++ [rowO rows]) := by
  unfold Low at *
  rw [List.all_append, List.length_append, Bool.and_eq_true]
  constructor
  · rw [List.all_eq_true] at *
    intro o ho
    exact below_mono (by simp) o (hg o ho)
  · simp [rowO, belowO, belowD]
def more (row : List PyData) (i : Nat) : List (List PyData) := (List.range i).map fun j => row ++ [.int (j : Nat)]
abbrev XB : CSs := .cons (.expr (.mth .extend (.var 3) (.cons (.lc false (.nm 5) (.rng1 (.ix (.var 2) (.int 1))) [5] .no (.bin .add (.var 4) (.tup (.cons (.var 5) .nil)))) .nil))) .nil
theorem lx_turn (n i : Nat) (x0 x1 x5 : Option D) (a : PyData) (row : List PyData) (acc : List (List PyData)) (g : Gh) (hg : Low g) (hi : i ≤ 1000000) (hr : acc.length + i ≤ line) (hw : row.length < line) :
    exs gl (Fw.run gl Fs wf n) wf XB [x0, x1, some (.dat (.tuple [a, .int (i : Nat)])), some (.ref g.length), some (.dat (.tuple row)), x5] (g ++ [rowO acc]) = .ok (.nx [x0, x1, some (.dat (.tuple [a, .int (i : Nat)])), some (.ref g.length), some (.dat (.tuple row)), x5]) (g ++ [rowO (acc ++ more row i)]) := by
  have l : line = 16777216 := rfl
  have src : evi gl (Fw.run gl Fs wf n) (.rng1 (.ix (.var 2) (.int 1))) [x0, x1, some (.dat (.tuple [a, .int (i : Nat)])), some (.ref g.length), some (.dat (.tuple row)), x5] (g ++ [rowO acc]) = .ok ((List.range i).map fun (j : Nat) => Itm.one (.dat (.int (j : Nat))), none) (g ++ [rowO acc]) := by
    have z : Is gl (Fw.run gl Fs wf n) [x0, x1, some (.dat (.tuple [a, .int (i : Nat)])), some (.ref g.length), some (.dat (.tuple row)), x5] (g ++ [rowO acc]) (.ix (.var 2) (.int 1)) (.int (i : Nat)) := is_ix (p := .tuple [a, .int (i : Nat)]) (q := .int 1) (is_var rfl) is_int rfl
    unfold Is at z
    rw [yi_rng1, z, Rs.ok_bind, intOf_int]
    dsimp only
    have b : inB (i : Int) = true := by
      unfold inB
      rw [decide_eq_true_eq]
      omega
    rw [if_pos b, Int.toNat_natCast, rng_ixI]
    unfold ixI
    rw [List.range_eq_range']
  have C : Is gl (Fw.run gl Fs wf n) [x0, x1, some (.dat (.tuple [a, .int (i : Nat)])), some (.ref g.length), some (.dat (.tuple row)), x5] (g ++ [rowO acc]) (.lc false (.nm 5) (.rng1 (.ix (.var 2) (.int 1))) [5] .no (.bin .add (.var 4) (.tup (.cons (.var 5) .nil)))) (.list ((more row i).map .tuple)) := by
    have z := is_lc (cl := Fw.run gl Fs wf n) (c := .no) (t := .nm 5) (wp := [5]) (e := .bin .add (.var 4) (.tup (.cons (.var 5) .nil))) (fun it => match itD it with
      | .int j => some (.tuple (row ++ [.int j]))
      | _ => none) (low_row hg) src (by rw [List.length_map, List.length_range]; omega) ?_
    · rw [fm_one (List.range i) (fun (j : Nat) => D.dat (.int (j : Nat))) (fun j => PyData.tuple (row ++ [.int (j : Nat)])) _ (fun j => rfl)] at z
      unfold more
      rw [List.map_map]
      exact z
    · intro it hit zs
      obtain ⟨j, _, rfl⟩ := List.mem_map.mp hit
      refine ⟨[x0, x1, some (.dat (.tuple [a, .int (i : Nat)])), some (.ref g.length), some (.dat (.tuple row)), some (.dat (.int (j : Nat)))], rfl, .inr ⟨_, rfl, rfl, ?_⟩⟩
      exact is_bin (p := .tuple row) (q := .tuple [.int (j : Nat)]) (is_var rfl) (is_tup (ps := [.int (j : Nat)]) (are_cons (is_var rfl) are_nil) (show 1 ≤ line by decide)) (if_pos (show row.length + 1 ≤ line by omega))
  unfold Is at C
  rw [yxs_cons, yx_expr, y_mth, y_var (d := .ref g.length) rfl, Rs.ok_bind]
  have L : isL (.ref g.length) (g ++ [rowO acc]) = true := by show (getL _ _).isSome = true; rw [rowO_l]; rfl
  rw [if_pos L, ys_cons, C, Rs.ok_bind, ys_nil, Rs.ok_bind, Rs.ok_bind]
  have E : mtd .extend (.ref g.length) [.dat (.list ((more row i).map .tuple))] (g ++ [rowO acc]) = .ok (.dat .none) (g ++ [rowO (acc ++ more row i)]) := by
    show (match getL (g ++ [rowO acc]) g.length with
      | some xs => if xs.length + ((more row i).map PyData.tuple).length ≤ line then Rs.ok (D.dat .none) (putO (g ++ [rowO acc]) g.length (.lst (xs ++ ((more row i).map PyData.tuple).map D.dat))) else .bad
      | none => .bad) = _
    rw [rowO_l]
    dsimp only
    rw [if_pos (by rw [List.length_map, List.length_map]; unfold more; rw [List.length_map, List.length_range]; exact hr), put_last]
    unfold rowO
    rw [List.map_append, List.map_map]
    rfl
  rw [E, Rs.ok_bind, Rs.ok_bind]
  rfl
theorem for_nilW {body : Fr → Gh → Rs Fl} {t : Tg} {w : Wt} {fr : Fr} {g : Gh} (hw : stillL w g) : forGo body t w [] fr g = .ok (.nx fr) g := by
  unfold forGo
  rw [if_pos hw]
theorem for_consW {body : Fr → Gh → Rs Fl} {t : Tg} {w : Wt} {x : Itm} {xs : List Itm} {fr fr1 : Fr} {g : Gh} (hw : stillL w g) (h : setI t x fr = some fr1) : forGo body t w (x :: xs) fr g = (body fr1 g).bind fun f g1 => match f with
    | .nx fr2 => forGo body t w xs fr2 g1
    | .ct fr2 => forGo body t w xs fr2 g1
    | .bk fr2 => .ok (.nx fr2) g1
    | .rt d => .ok (.rt d) g1 := by
  conv => lhs; unfold forGo
  rw [if_pos hw, h]
  all_goals rfl
theorem grow_more (rows : List (List PyData)) (i : Nat) : grow rows i = rows.flatMap fun row => more row i := rfl
theorem lx_loop (n i : Nat) (x0 x1 : Option D) (a : PyData) (w : Wt) (g : Gh) (hg : Low g) (hi : i ≤ 1000000) (hw : ∀ o, stillL w (g ++ [o])) : ∀ (rows acc : List (List PyData)) (x4 x5 : Option D), acc.length + rows.length * i ≤ line → (∀ row ∈ rows, row.length < line) →
    ∃ y, forGo (fun fr g => exs gl (Fw.run gl Fs wf n) wf XB fr g) (.nm 4) w (rows.map fun row => Itm.one (.dat (.tuple row))) [x0, x1, some (.dat (.tuple [a, .int (i : Nat)])), some (.ref g.length), x4, x5] (g ++ [rowO acc]) = .ok (.nx [x0, x1, some (.dat (.tuple [a, .int (i : Nat)])), some (.ref g.length), y, x5]) (g ++ [rowO (acc ++ grow rows i)])
  | [], acc, x4, x5, _, _ => ⟨x4, by
    rw [List.map_nil, for_nilW (hw _)]
    unfold grow
    simp⟩
  | row :: rows, acc, x4, x5, hz, hr => by
    have e : (row :: rows).length * i = rows.length * i + i := by rw [List.length_cons, Nat.succ_mul]
    rw [e] at hz
    have ml : (more row i).length = i := by unfold more; simp
    obtain ⟨y, ih⟩ := lx_loop n i x0 x1 a w g hg hi hw rows (acc ++ more row i) (some (.dat (.tuple row))) x5 (by rw [List.length_append, ml]; omega) fun r h => hr r (List.mem_cons_of_mem _ h)
    refine ⟨y, ?_⟩
    rw [List.map_cons, for_consW (fr1 := [x0, x1, some (.dat (.tuple [a, .int (i : Nat)])), some (.ref g.length), some (.dat (.tuple row)), x5]) (hw _) rfl, lx_turn n i x0 x1 x5 a row acc g hg hi (by omega) (hr row (List.mem_cons_self)), Rs.ok_bind]
    dsimp only
    rw [ih, grow_more, grow_more, List.flatMap_cons, List.append_assoc]
end Law
end
set_option Elab.async false
set_option linter.all false
set_option maxRecDepth 100000
set_option maxHeartbeats 4000000
noncomputable section
namespace Law
open PySem PySem.Spec PyProof.Rows L2 Fw
variable {wf : Nat}
def At (d : D) (rows : List (List PyData)) (g : Gh) (n : Nat) : Prop := d = .dat (rowsD rows) ∨ ∃ s, n ≤ s ∧ d = .ref s ∧ getL g s = some (rows.map fun row => .dat (.tuple row))
abbrev OB : CSs := .cons (.set (.nm 3) (.lst true .nil)) (.cons (.for_ (.nm 4) (.seq (.var 1)) XB) (.cons (.set (.nm 1) (.var 3)) .nil))
theorem getL_app {g : Gh} {s : Nat} {ds : List D} {o : Ob} (h : getL g s = some ds) : getL (g ++ [o]) s = some ds := by
  have lt : s < g.length := by
    rcases Nat.lt_or_ge s g.length with h2 | h2
    · exact h2
    · unfold getL at h
      rw [List.getElem?_eq_none h2] at h
      cases h
  unfold getL at h ⊢
  rw [List.getElem?_append_left lt]
  exact h
theorem src_at {n : Nat} {d : D} {rows : List (List PyData)} {g : Gh} {m : Nat} {fr : Fr} {o : Ob} (h : At d rows g m) (hv : fr[1]? = some (some d)) : ∃ w, evi gl (Fw.run gl Fs wf n) (.seq (.var 1)) fr (g ++ [o]) = .ok (rows.map fun row => Itm.one (.dat (.tuple row)), w) (g ++ [o]) ∧ ∀ o, stillL w (g ++ [o]) := by
  rcases h with rfl | ⟨s, _, rfl, h⟩
  · refine ⟨none, ?_, fun _ => True.intro⟩
    rw [yi_seq, y_var hv, Rs.ok_bind]
    show Rs.ok (((rows.map PyData.tuple).map D.dat).map Itm.one, none) _ = _
    rw [List.map_map, List.map_map]
    rfl
  · refine ⟨some (s, rows.map fun row => .dat (.tuple row)), ?_, fun o => getL_app h⟩
    rw [yi_seq, y_var hv, Rs.ok_bind]
    show (match (getL (g ++ [o]) s).map fun ds => (ds, some (s, ds)) with
      | some z => Rs.ok (z.1.map Itm.one, z.2) (g ++ [o])
      | none => .bad) = _
    rw [getL_app h]
    show Rs.ok ((rows.map fun row => D.dat (.tuple row)).map Itm.one, _) _ = _
    rw [List.map_map]
    rfl
theorem ls_turn (n i m : Nat) (x0 x3 x4 x5 : Option D) (a : PyData) (d : D) (rows : List (List PyData)) (g : Gh) (hg : Low g) (hm : m ≤ g.length) (hi : i ≤ 1000000) (h : At d rows g m) (hz : rows.length * i ≤ line) (hr : ∀ row ∈ rows, row.length < line) :
    ∃ y z, exs gl (Fw.run gl Fs wf n) wf OB [x0, some d, some (.dat (.tuple [a, .int (i : Nat)])), x3, x4, x5] g = .ok (.nx [x0, some (.ref g.length), some (.dat (.tuple [a, .int (i : Nat)])), z, y, x5]) (g ++ [rowO (grow rows i)]) := by
  have s1 : ∀ ss : CSs, exs gl (Fw.run gl Fs wf n) wf (.cons (.set (.nm 3) (.lst true .nil)) ss) [x0, some d, some (.dat (.tuple [a, .int (i : Nat)])), x3, x4, x5] g =
      exs gl (Fw.run gl Fs wf n) wf ss [x0, some d, some (.dat (.tuple [a, .int (i : Nat)])), some (.ref g.length), x4, x5] (g ++ [rowO []]) := fun ss => rfl
  rw [s1]
  obtain ⟨w, S, W⟩ := src_at (wf := wf) (n := n) (fr := [x0, some d, some (.dat (.tuple [a, .int (i : Nat)])), some (.ref g.length), x4, x5]) (o := rowO []) h rfl
  obtain ⟨y, L⟩ := lx_loop (wf := wf) n i x0 (some d) a w g hg hi W rows [] x4 x5 (by simpa using hz) hr
  refine ⟨y, some (.ref g.length), ?_⟩
  rw [yxs_cons, yx_for, S, Rs.ok_bind]
  dsimp only
  rw [L, Rs.ok_bind]
  rfl
theorem ls_loop (n m : Nat) (x0 : Option D) : ∀ (ps : List PyData) (rows : List (List PyData)) (d : D) (x2 x3 x4 x5 : Option D) (g : Gh), Low g → m ≤ g.length → At d rows g m → Sized8 ps → rows.length * 8 ^ ps.length ≤ 4096 → (∀ row ∈ rows, row.length + ps.length ≤ 4) →
    ∃ d1 a b c g1, forGo (fun fr g => exs gl (Fw.run gl Fs wf n) wf OB fr g) (.nm 2) none (ps.map fun p => Itm.one (.dat p)) [x0, some d, x2, x3, x4, x5] g = .ok (.nx [x0, some d1, a, b, c, x5]) g1 ∧ At d1 (grown ps rows) g1 m ∧ g1.take g.length = g
  | [], rows, d, x2, x3, x4, x5, g, hg, hm, h, _, _, _ => ⟨d, x2, x3, x4, g, for_nil, h, List.take_length⟩
  | p :: ps, rows, d, x2, x3, x4, x5, g, hg, hm, h, hs, hl, hw => by
    obtain ⟨a0, i, rfl, h1, h2⟩ := hs p (List.mem_cons_self)
    have l : line = 16777216 := rfl
    have e8 : 8 ^ (PyData.tuple [a0, .int (i : Nat)] :: ps).length = 8 ^ ps.length * 8 := by rw [List.length_cons, Nat.pow_succ]
    rw [e8] at hl
    have pos : 1 ≤ 8 ^ ps.length := Nat.one_le_pow _ _ (by omega)
    have b1 : rows.length * i ≤ rows.length * (8 ^ ps.length * 8) := Nat.mul_le_mul_left _ (by omega)
    have b2 : rows.length * i * 8 ^ ps.length ≤ rows.length * (8 ^ ps.length * 8) := by
      rw [Nat.mul_assoc]
      refine Nat.mul_le_mul_left _ ?_
      rw [Nat.mul_comm]
      exact Nat.mul_le_mul_left _ h2
    obtain ⟨y, z, T⟩ := ls_turn (wf := wf) n i m x0 x3 x4 x5 a0 d rows g hg hm (by omega) h (by omega) (fun row hr => by have := hw row hr; omega)
    obtain ⟨d1, a, b, c, g1, ih, at1, tk⟩ := ls_loop n m x0 ps (grow rows i) (.ref g.length) (some (.dat (.tuple [a0, .int (i : Nat)]))) z y x5 (g ++ [rowO (grow rows i)]) (low_row hg) (by simp; omega) (.inr ⟨g.length, hm, rfl, rowO_l⟩) (fun q hq => hs q (List.mem_cons_of_mem _ hq)) (by rw [grow_len]; omega) (fun z hz => by
      obtain ⟨row, hr, j, _, rfl⟩ := grow_mem hz
      have := hw row hr
      simp only [List.length_append, List.length_cons, List.length_nil] at this ⊢
      omega)
    refine ⟨d1, a, b, c, g1, ?_, at1, ?_⟩
    · rw [List.map_cons, for_cons (fr1 := [x0, some d, some (.dat (.tuple [a0, .int (i : Nat)])), x3, x4, x5]) rfl, T, Rs.ok_bind]
      dsimp only
      rw [ih]
    · have := congrArg (List.take g.length) tk
      rw [List.take_take] at this
      simpa using this
theorem r_law_states (n : Nat) (c k e : List PyData) (g : Gh) (hg : Low g) (hs : Sized8 c) (hl : c.length ≤ 4) : rn wf (n + 1) 18 [.dat (.tuple [.tuple c, .tuple k, .tuple e])] g = .ok (.dat (rowsD (grown c [[]]))) g := by
  obtain ⟨d1, a, b, x, g1, L, at1, tk⟩ := ls_loop (wf := wf) n g.length (some (.dat (.tuple [.tuple c, .tuple k, .tuple e]))) c [[]] (.dat (rowsD [[]])) none none none none g hg (Nat.le_refl _) (.inl rfl) hs (by
    have : 8 ^ c.length ≤ 8 ^ 4 := Nat.pow_le_pow_right (by omega) hl
    have e : (8 : Nat) ^ 4 = 4096 := rfl
    simp only [List.length_cons, List.length_nil]
    omega) (by intro row hr; rcases List.mem_singleton.mp hr with rfl; simpa using hl)
  have body : exs gl (Fw.run gl Fs wf n) wf F__law_states.body [some (.dat (.tuple [.tuple c, .tuple k, .tuple e])), none, none, none, none, none] g = .ok (.rt d1) g1 := by
    show exs gl (Fw.run gl Fs wf n) wf (.cons (.set (.nm 1) (.lst false (.cons (.tup .nil) .nil))) _) [some (.dat (.tuple [.tuple c, .tuple k, .tuple e])), none, none, none, none, none] g = _
    rw [set_of (r := rowsD [[]]) (is_lst (ps := [.tuple []]) (are_cons (is_tup are_nil (Nat.zero_le _)) are_nil) (show 1 ≤ line by decide))]
    show exs gl (Fw.run gl Fs wf n) wf (.cons (.for_ (.nm 2) (.seq (.ix (.var 0) (.int 0))) OB) (.cons (.ret (.var 1)) .nil)) [some (.dat (.tuple [.tuple c, .tuple k, .tuple e])), some (.dat (rowsD [[]])), none, none, none, none] g = _
    have src : evi gl (Fw.run gl Fs wf n) (.seq (.ix (.var 0) (.int 0))) [some (.dat (.tuple [.tuple c, .tuple k, .tuple e])), some (.dat (rowsD [[]])), none, none, none, none] g = .ok (c.map fun q => Itm.one (.dat q), none) g := by
      have z : Is gl (Fw.run gl Fs wf n) [some (.dat (.tuple [.tuple c, .tuple k, .tuple e])), some (.dat (rowsD [[]])), none, none, none, none] g (.ix (.var 0) (.int 0)) (.tuple c) := is_ix (p := .tuple [.tuple c, .tuple k, .tuple e]) (q := .int 0) (is_var rfl) is_int rfl
      unfold Is at z
      rw [yi_seq, z, Rs.ok_bind]
      show Rs.ok ((c.map D.dat).map Itm.one, none) g = _
      rw [List.map_map]
      rfl
    rw [yxs_cons, yx_for, src, Rs.ok_bind]
    dsimp only
    rw [L, Rs.ok_bind]
    dsimp only
    rw [yxs_cons, yx_ret, y_var (d := d1) rfl, Rs.ok_bind, Rs.ok_bind]
  show Fw.run gl Fs wf (n + 1) 18 _ g = _
  have h18 : Fs[18]? = some F__law_states := rfl
  unfold Fw.run
  rw [h18]
  dsimp only
  have h1 : [D.dat (PyData.tuple [PyData.tuple c, PyData.tuple k, PyData.tuple e])].length = F__law_states.np := rfl
  rw [if_pos h1]
  have b2 : exs gl (Fw.run gl Fs wf n) wf F__law_states.body (([D.dat (.tuple [.tuple c, .tuple k, .tuple e])]).map some ++ List.replicate (F__law_states.ns - F__law_states.np) none) g = .ok (.rt d1) g1 := body
  rw [b2]
  dsimp only
  unfold fin
  rw [tk, if_pos (show g.all (belowO g.length) = true from hg)]
  rcases at1 with rfl | ⟨s, hs1, rfl, hgl⟩
  · rfl
  · dsimp only
    rw [if_neg (by omega)]
    have v : viaL g1 (.ref s) = some (rowsD (grown c [[]])) := by
      show viaR g1 s = _
      unfold viaR
      rw [hgl]
      have := datsOf_map ((grown c [[]]).map PyData.tuple)
      rw [List.map_map] at this
      show (datsOf ((grown c [[]]).map (D.dat ∘ PyData.tuple))).map PyData.list = _
      rw [this]
      rfl
    rw [v]
    rfl
end Law
end
set_option Elab.async false
set_option linter.all false
set_option maxRecDepth 100000
set_option maxHeartbeats 4000000
noncomputable section
namespace Law
open PySem PySem.Spec PyProof.Rows L2 Fw
variable {wf : Nat}
def names14 : List Str := [Str.ofString "a", Str.ofString "z9", Str.ofString "send", Str.ofString "c", Str.ofString "abcdefghijkl", Str.ofString "abcdefghijkm", Str.ofString "law1", Str.ofString "ex", Str.ofString "iff", Str.ofString "b", Str.ofString "n0", Str.ofString "exits2", Str.ofString "q", Str.ofString "while9"]
def pairE (p : Str × Nat) : PyData := .tuple [.str p.1, .int (p.2 : Nat)]
def prN : List (Str × Nat) → Nat
  | [] => 1
  | p :: ps => p.2 * prN ps
theorem prN_app (c : List (Str × Nat)) (p : Str × Nat) : prN (c ++ [p]) = prN c * p.2 := by
  induction c with
  | nil => simp [prN]
  | cons a c ih => simp [prN, ih, Nat.mul_assoc]
theorem prod_pairE : ∀ (c : List (Str × Nat)) (k : Nat), prod (c.map pairE) (k : Nat) = ((k * prN c : Nat) : Int)
  | [], k => by simp [prod, prN]
  | p :: c, k => by
    show prod (c.map pairE) ((k : Int) * (p.2 : Nat)) = _
    have e : ((k : Int) * (p.2 : Nat)) = ((k * p.2 : Nat) : Int) := by simp
    rw [e, prod_pairE c (k * p.2), prN, Nat.mul_assoc]
structure Right (c k : List (Str × Nat)) (e : List Str) : Prop where
  dist : (c.map (·.1) ++ k.map (·.1) ++ e).Nodup
  nms : ∀ x ∈ c.map (·.1) ++ k.map (·.1) ++ e, x ∈ names14
  szs : ∀ p ∈ c, 1 ≤ p.2 ∧ p.2 ≤ 8
  prs : ∀ p ∈ k, 1 ≤ p.2 ∧ p.2 ≤ 99
  cl : c.length ≤ 4
  kl : k.length ≤ 3
  e1 : 1 ≤ e.length
  el : e.length ≤ 4
  pr : prN c ≤ 64
def gnd (c k : List (Str × Nat)) (e : List Str) : PyData := .tuple [.tuple (c.map pairE), .tuple (k.map pairE), .tuple (e.map .str)]
theorem names_ok : ∀ x ∈ names14, nameS x = true := by decide +kernel
theorem names_sm : ∀ x ∈ names14, x.cps.toList.all (fun c => decide (c < 0x110000)) = true ∧ x.length ≤ 13 := by decide +kernel
theorem fb_pair (m : Nat) : ∀ (c : List (Str × Nat)) (i : Nat) (met : List Str), (∀ p ∈ c, nameS p.1 = true ∧ 1 ≤ p.2 ∧ p.2 ≤ m) → (met ++ c.map (·.1)).Nodup → fb (some (m : Nat)) (c.map pairE) i met = (none, met ++ c.map (·.1))
  | [], _, _, _, _ => by simp [fb]
  | p :: c, i, met, h, hd => by
    obtain ⟨h1, h2, h3⟩ := h p (List.mem_cons_self)
    have z : nm (some (m : Nat)) (pairE p) = some p.1 := by
      show (if (nameS p.1 && numIn 1 m (.int (p.2 : Nat))) = true then some p.1 else none) = _
      rw [h1, show numIn 1 m (.int (p.2 : Nat)) = true by show (decide _ && decide _) = true; rw [decide_eq_true (by omega), decide_eq_true (by omega)]; rfl]
      rfl
    rw [List.map_cons]
    unfold fb
    rw [z]
    dsimp only
    rw [List.map_cons] at hd
    have nm_ : p.1 ∉ met := fun hm => by
      rw [List.nodup_append] at hd
      exact hd.2.2 _ hm _ (List.mem_cons_self) rfl
    rw [if_neg nm_, fb_pair m c (i + 1) (met ++ [p.1]) (fun q hq => h q (List.mem_cons_of_mem _ hq)) (by simpa using hd)]
    simp
theorem fb_str : ∀ (e : List Str) (i : Nat) (met : List Str), (∀ x ∈ e, nameS x = true) → (met ++ e).Nodup → fb none (e.map .str) i met = (none, met ++ e)
  | [], _, _, _, _ => by simp [fb]
  | x :: e, i, met, h, hd => by
    have z : nm none (.str x) = some x := by
      show (if nameS x = true then some x else none) = _
      rw [h x (List.mem_cons_self)]
      rfl
    rw [List.map_cons]
    unfold fb
    rw [z]
    dsimp only
    have nm_ : x ∉ met := fun hm => by
      rw [List.nodup_append] at hd
      exact hd.2.2 _ hm _ (List.mem_cons_self) rfl
    rw [if_neg nm_, fb_str e (i + 1) (met ++ [x]) (fun q hq => h q (List.mem_cons_of_mem _ hq)) (by simpa using hd)]
    simp
theorem Right.said {c k : List (Str × Nat)} {e : List Str} (R : Right c k e) : said (gnd c k e) = none := by
  have d1 : (([] : List Str) ++ c.map (·.1)).Nodup := by
    have := R.dist
    rw [List.append_assoc] at this
    exact (List.nodup_append.mp this).1
  have d2 : (c.map (·.1) ++ k.map (·.1)).Nodup := (List.nodup_append.mp R.dist).1
  have n1 : ∀ p ∈ c, nameS p.1 = true ∧ 1 ≤ p.2 ∧ p.2 ≤ 8 := fun p hp => ⟨names_ok _ (R.nms _ (by simp; exact .inl ⟨_, hp⟩)), R.szs p hp⟩
  have n2 : ∀ p ∈ k, nameS p.1 = true ∧ 1 ≤ p.2 ∧ p.2 ≤ 99 := fun p hp => ⟨names_ok _ (R.nms _ (by simp; exact .inr (.inl ⟨_, hp⟩))), R.prs p hp⟩
  have n3 : ∀ x ∈ e, nameS x = true := fun x hx => names_ok _ (R.nms _ (by simp; exact .inr (.inr hx)))
  have f1 := fb_pair 8 c 0 [] n1 d1
  have f2 := fb_pair 99 k 0 (c.map (·.1)) n2 d2
  have f3 := fb_str e 0 (c.map (·.1) ++ k.map (·.1)) n3 R.dist
  have p1 : part1 0 (some 8) 0 4 (c.map pairE) [] = (none, c.map (·.1)) := by
    unfold part1
    have l := R.cl
    rw [if_pos (by rw [List.length_map, decide_eq_true (by omega), decide_eq_true (by omega)]; rfl)]
    have f1' : fb (some 8) (c.map pairE) 0 [] = (none, c.map (·.1)) := f1
    rw [f1']
    dsimp only
    have pp := prod_pairE c 1
    have pr := R.pr
    rw [if_neg]
    rintro ⟨_, h⟩
    have pp' : prod (c.map pairE) 1 = ((1 * prN c : Nat) : Int) := pp
    rw [pp'] at h
    omega
  have p2 : part1 1 (some 99) 0 3 (k.map pairE) (c.map (·.1)) = (none, c.map (·.1) ++ k.map (·.1)) := by
    unfold part1
    have l := R.kl
    rw [if_pos (by rw [List.length_map, decide_eq_true (by omega), decide_eq_true (by omega)]; rfl)]
    have f2' : fb (some 99) (k.map pairE) 0 (c.map (·.1)) = (none, c.map (·.1) ++ k.map (·.1)) := f2
    rw [f2']
    dsimp only
    rw [if_neg (fun h => by cases h.1)]
  have p3 : part1 2 none 1 4 (e.map .str) (c.map (·.1) ++ k.map (·.1)) = (none, c.map (·.1) ++ k.map (·.1) ++ e) := by
    unfold part1
    have l := R.el
    have l1 := R.e1
    rw [if_pos (by rw [List.length_map, decide_eq_true (by omega), decide_eq_true (by omega)]; rfl)]
    rw [f3]
    dsimp only
    rw [if_neg (fun h => by cases h.1)]
  show wrong (c.map pairE) (k.map pairE) (e.map .str) = none
  unfold wrong
  rw [p1]
  dsimp only
  rw [p2]
  dsimp only
  rw [p3]
theorem sm_name {x : Str} (h : x ∈ names14) : Sm 14 0 (.str x) := by
  obtain ⟨a, b⟩ := names_sm x h
  exact Sm.str a (by omega)
theorem sm_pair {p : Str × Nat} (h : p.1 ∈ names14) (hp : p.2 ≤ 99) : Sm 46 1 (pairE p) := by
  refine Sm.tup (n := 14) (fun q hq => ?_) (show (14 + 1) * 2 + 1 ≤ 46 by decide)
  simp only [List.mem_cons, List.not_mem_nil, or_false] at hq
  rcases hq with rfl | rfl
  · exact sm_name h
  · exact Sm.int (by omega) (Nat.le_trans (show (((p.2 : Nat) : Int)).natAbs ≤ 99 by omega) (by decide))
theorem Right.entC {c k : List (Str × Nat)} {e : List Str} (R : Right c k e) : ∀ p ∈ c.map pairE, Sm 46 1 p := fun p hp => by
  obtain ⟨q, hq, rfl⟩ := List.mem_map.mp hp
  have := R.szs q hq
  exact sm_pair (R.nms _ (by simp; exact .inl ⟨_, hq⟩)) (by omega)
theorem Right.entK {c k : List (Str × Nat)} {e : List Str} (R : Right c k e) : ∀ p ∈ k.map pairE, Sm 46 1 p := fun p hp => by
  obtain ⟨q, hq, rfl⟩ := List.mem_map.mp hp
  have := R.prs q hq
  exact sm_pair (R.nms _ (by simp; exact .inr (.inl ⟨_, hq⟩))) (by omega)
theorem Right.entE {c k : List (Str × Nat)} {e : List Str} (R : Right c k e) : ∀ p ∈ e.map PyData.str, Sm 46 1 p := fun p hp => by
  obtain ⟨q, hq, rfl⟩ := List.mem_map.mp hp
  exact (sm_name (R.nms _ (by simp; exact .inr (.inr hq)))).mono (by omega) (by omega)
mutual
theorem sz_szD : ∀ p : PyData, sz p = szD p
  | .none => rfl
  | .bool _ => rfl
  | .int _ => rfl
  | .str x => rfl
  | .list xs => by unfold sz szD; rw [szs_szDs xs]
  | .tuple xs => by unfold sz szD; rw [szs_szDs xs]
  | .dict _ => rfl
theorem szs_szDs : ∀ ps : List PyData, szs ps = szDs ps
  | [] => rfl
  | p :: ps => by unfold szs szDs; rw [sz_szD p, szs_szDs ps]
end
theorem Ok.of {n d : Nat} {p : PyData} (h : Sm n d p) (hn : n ≤ 8000) (hd : d ≤ 40) : Ok p := ⟨h.lay, h.show_, by rw [sz_szD]; exact Nat.le_trans h.small hn, Nat.le_trans h.deep hd⟩
end Law
end
set_option Elab.async false
set_option linter.all false
set_option maxRecDepth 100000
set_option maxHeartbeats 4000000
noncomputable section
namespace Law
open PySem PySem.Spec PyProof.Rows L2 Fw
section
variable {wf n : Nat} {g : Gh} {r : Nat} {E : Xn → Gh → Prop} {Q : D → Gh → Prop}
theorem k_take {m : Int} (hp : Pool g r) (hg : Low g) (hm : 0 < m ∧ m < 1073741824) (hq : ∀ (t : Nat) h, (t : Int) < m → Gr r g h → h.length = g.length → Q (.dat (.int (t : Nat))) h) :
    W (Fw.run gl Fs wf (n + 1) 15 [.ref r, .dat (.int m)] g) Q E := w_take (nm1 := "_law_take") rfl hp hg hm hq
theorem k_one {xs : List PyData} (h0 : xs ≠ []) (hz : xs.length < 1073741824) (hp : Pool g r) (hg : Low g)
    (hq : ∀ (q : PyData) h, q ∈ xs → Gr r g h → h.length = g.length → Q (.dat q) h) : W (Fw.run gl Fs wf (n + 2) 16 [.ref r, .dat (.list xs)] g) Q E := w_one (nm1 := "_law_take") (nm2 := "_law_one") (t := 15) rfl rfl (.inl rfl) h0 hz hp hg hq
theorem k_names (hp : Pool g r) (hg : Low g) (hq : ∀ (s : Nat) h (ys : List Str), ys.Perm names14 → g.length ≤ s → h[s]? = some (dlo (ys.map .str)) → Gr r g h → Q (.ref s) h) : W (Fw.run gl Fs wf (n + 3) 24 [.ref r] g) Q E := by
  refine w_run (d := F__law_names) rfl rfl ?_
  show W (exs gl (Fw.run gl Fs wf (n + 2)) wf F__law_names.body [some (.ref r), none] g) _ _
  refine x_set (w_is (p := .list (names14.map .str)) (is_lst (ps := names14.map .str) rfl (by decide)) ?_)
  refine x_ret (w_call (ws_cons (w_var rfl (ws_cons (w_var rfl (ws_nil ?_))))))
  refine w_mixed (nm1 := "_law_take") (nm3 := "_law_mixed") (t := 15) (xs := names14.map .str) rfl rfl (.inl rfl) (by decide) hp hg fun s h ys p1 p2 p3 p4 => ?_
  have : ∃ zs : List Str, ys = zs.map .str ∧ zs.Perm names14 := by
    have e : ∀ (xs : List Str) (ys : List PyData), ys.Perm (xs.map .str) → ∃ zs : List Str, ys = zs.map .str ∧ zs.Perm xs := by
      intro xs ys hperm
      let f : PyData → Str := fun p => match p with
        | .str x => x
        | _ => Str.ofString ""
      refine ⟨ys.map f, ?_, ?_⟩
      · rw [List.map_map]
        have : ∀ y ∈ ys, (PyData.str ∘ f) y = y := by
          intro y hy
          obtain ⟨x, _, rfl⟩ := List.mem_map.mp (hperm.mem_iff.mp hy)
          rfl
        conv => lhs; rw [← List.map_id ys]
        exact (List.map_congr_left this).symm
      · have := hperm.map f
        rw [List.map_map] at this
        have e2 : xs.map (f ∘ PyData.str) = xs := by
          conv => rhs; rw [← List.map_id xs]
          rfl
        rw [e2] at this
        exact this
    exact e _ _ p1
  obtain ⟨zs, rfl, pz⟩ := this
  show W (fin false g.length (.ref s) h) Q E
  have e : fin false g.length (.ref s) h = .ok (.ref s) h := by
    unfold fin
    split
    · dsimp only
      rw [if_neg (by omega), if_neg (by decide)]
    · rfl
  rw [e]
  exact W.okk (hq s h zs pz p2 p3 p4)
end
section
variable {wf n : Nat} {g : Gh} {r : Nat} {E : Xn → Gh → Prop}
abbrev DB1 : CSs := (.cons (.set (.nm 5) (.call 16 (.cons (.var 0) (.cons (.lst false (.cons (.int 1) (.cons (.int 2) (.cons (.bi .min2 (.cons (.int 8) (.cons (.var 3) .nil))) (.cons (.bin .add (.int 1) (.call 15 (.cons (.var 0) (.cons (.bi .min2 (.cons (.int 8) (.cons (.var 3) .nil))) .nil)))) .nil))))) .nil)))) (.cons (.set (.nm 5) (.bi .min2 (.cons (.var 5) (.cons (.var 3) .nil)))) (.cons (.expr (.mth .append (.var 2) (.cons (.tup (.cons (.mth .pop (.var 1) .nil) (.cons (.var 5) .nil))) .nil))) (.cons (.set (.nm 3) (.bin .fdiv (.var 3) (.var 5))) .nil))))
theorem min_d {i j : Nat} : biD .min2 [.int (i : Nat), .int (j : Nat)] = some (.int ((min i j : Nat) : Int)) := by
  show some (PyData.int (if (j : Int) < (i : Int) then (j : Int) else (i : Int))) = _
  congr 2
  split <;> omega
theorem dr_cell {Q : Fl → Gh → Prop} {s a room : Nat} {ys : List Str} {y : Str} {c : List (Str × Nat)} {x4 x5 x6 : Option D} (h1 : g[s]? = some (dlo ((ys ++ [y]).map .str))) (h2 : g[a]? = some (dlo (c.map pairE))) (hp : Pool g r) (hg : Low g)
    (sa : s ≠ a) (sr : s ≠ r) (ar : a ≠ r) (hr : 1 ≤ room) (hr2 : room ≤ 64) (hc : c.length < 100)
    (hq : ∀ (z : Nat) x h, 1 ≤ z → z ≤ 8 → z ≤ room → h[s]? = some (dlo (ys.map .str)) → h[a]? = some (dlo ((c ++ [(y, z)]).map pairE)) → h.length = g.length → (∀ i, i ≠ s → i ≠ a → i ≠ r → h[i]? = g[i]?) → Pool h r → Low h →
      Q (.nx [some (.ref r), some (.ref s), some (.ref a), some (.dat (.int ((room / z : Nat) : Int))), x4, x, x6]) h) :
    W (exs gl (Fw.run gl Fs wf (n + 2)) wf DB1 [some (.ref r), some (.ref s), some (.ref a), some (.dat (.int (room : Nat))), x4, x5, x6] g) Q E := by
  have M : ∀ h, Is gl (Fw.run gl Fs wf (n + 2)) [some (.ref r), some (.ref s), some (.ref a), some (.dat (.int (room : Nat))), x4, x5, x6] h (.bi .min2 (.cons (.int 8) (.cons (.var 3) .nil))) (.int ((min 8 room : Nat) : Int)) := fun h =>
    is_bi2 (p := .int ((8 : Nat) : Int)) is_int (is_var rfl) min_d
  refine x_set (w_call (ws_cons (w_var rfl (ws_cons (w_lst (ws_cons (w_is is_int (ws_cons (w_is is_int (ws_cons (w_is (M _) (ws_cons (w_bin (w_is is_int (w_call (ws_cons (w_var rfl (ws_cons (w_is (M _) (ws_nil ?_))))))))))))))))))))
  refine k_take (n := n + 1) hp hg ⟨by omega, by omega⟩ fun t h ht k1 k2 => ?_
  refine v_bin rfl (ws_nil ⟨[.int 1, .int 2, .int ((min 8 room : Nat) : Int), .int (1 + (t : Int))], rfl, (show 4 ≤ line by decide), ws_nil ?_⟩)
  refine k_one (n := n) (by simp) (show 4 < 1073741824 by decide) k1.pool k1.low fun q h' hq' k3 k4 => ?_
  have : ∃ z : Nat, q = .int (z : Nat) ∧ 1 ≤ z ∧ z ≤ 8 := by
    simp only [List.mem_cons, List.not_mem_nil, or_false] at hq'
    rcases hq' with rfl | rfl | rfl | rfl
    · exact ⟨1, rfl, by omega, by omega⟩
    · exact ⟨2, rfl, by omega, by omega⟩
    · exact ⟨min 8 room, rfl, by omega, by omega⟩
    · exact ⟨1 + t, by simp, by omega, by omega⟩
  obtain ⟨z, rfl, z1, z8⟩ := this
  have K := k1.trans k3
  have e1 : h'[s]? = some (dlo ((ys ++ [y]).map .str)) := (K.els s (lt_of h1) sr).trans h1
  have e2 : h'[a]? = some (dlo (c.map pairE)) := (K.els a (lt_of h2) ar).trans h2
  refine x_set (w_is (p := .int ((min z room : Nat) : Int)) (is_bi2 (is_var rfl) (is_var rfl) min_d) ?_)
  refine x_expr (w_mth (w_var rfl ⟨isL_lo e2, ws_cons (w_tup (ws_cons (w_mth (w_var rfl ⟨isL_lo e1, ws_nil ?_⟩))))⟩))
  rw [List.map_append] at e1
  refine mtd_pop (ps := ys.map .str) (p := .str y) e1 (ws_cons (w_var rfl (ws_nil ⟨[.str y, .int ((min z room : Nat) : Int)], rfl, (show 2 ≤ line by decide), ws_nil ?_⟩)))
  refine mtd_app (ps := c.map pairE) ((put_ne (Ne.symm sa)).trans e2) (by rw [List.length_map]; exact Nat.lt_of_lt_of_le hc (by decide)) ?_
  have zr : 0 < ((min z room : Nat) : Int) ∧ ((min z room : Nat) : Int) < 1073741824 := ⟨by omega, by omega⟩
  refine x_set (w_is (p := .int ((room / min z room : Nat) : Int)) (is_bin (is_var rfl) (is_var rfl) ?_) (x_nil ?_))
  · rw [fdiv_d zr]
    simp
  · refine hq (min z room) _ _ (by omega) (by omega) (by omega) ?_ ?_ ?_ ?_ ?_ ?_
    · exact (put_ne sa).trans (put_at (lt_of e1))
    · have := put_at (g := putO h' s (dlo (ys.map .str))) (r := a) (o := dlo (c.map pairE ++ [.tuple [.str y, .int ((min z room : Nat) : Int)]])) (by rw [putO_len]; exact lt_of e2)
      rw [this, List.map_append]
      rfl
    · rw [putO_len, putO_len]; omega
    · intro i i1 i2 i3
      rw [put_ne i2, put_ne i1]
      rcases Nat.lt_or_ge i g.length with l | l
      · exact K.els i l i3
      · rw [List.getElem?_eq_none l, List.getElem?_eq_none (by omega)]
    · obtain ⟨u, v, p1, p2, p3, p4⟩ := K.pool
      exact ⟨u, v, (put_ne (Ne.symm ar)).trans ((put_ne (Ne.symm sr)).trans p1), p2, p3, p4⟩
    · exact low_putLo (low_putLo K.low)
end
end Law
end
set_option Elab.async false
set_option linter.all false
set_option maxRecDepth 100000
set_option maxHeartbeats 4000000
noncomputable section
namespace Law
open PySem PySem.Spec PyProof.Rows L2 Fw
section
variable {wf n : Nat} {g : Gh} {r : Nat} {E : Xn → Gh → Prop}
abbrev DB2 : CSs := (.cons (.expr (.mth .append (.var 6) (.cons (.tup (.cons (.mth .pop (.var 1) .nil) (.cons (.call 16 (.cons (.var 0) (.cons (.lst false (.cons (.int 1) (.cons (.int 99) (.cons (.bin .add (.int 1) (.call 15 (.cons (.var 0) (.cons (.int 99) .nil)))) .nil)))) .nil))) .nil))) .nil))) .nil)
theorem dr_kind {Q : Fl → Gh → Prop} {s b : Nat} {ys : List Str} {y : Str} {c : List (Str × Nat)} {x2 x3 x4 x5 : Option D} (h1 : g[s]? = some (dlo ((ys ++ [y]).map .str))) (h2 : g[b]? = some (dlo (c.map pairE))) (hp : Pool g r) (hg : Low g)
    (sb : s ≠ b) (sr : s ≠ r) (br : b ≠ r) (hc : c.length < 100)
    (hq : ∀ (z : Nat) h, 1 ≤ z → z ≤ 99 → h[s]? = some (dlo (ys.map .str)) → h[b]? = some (dlo ((c ++ [(y, z)]).map pairE)) → h.length = g.length → (∀ i, i ≠ s → i ≠ b → i ≠ r → h[i]? = g[i]?) → Pool h r → Low h →
      Q (.nx [some (.ref r), some (.ref s), x2, x3, x4, x5, some (.ref b)]) h) :
    W (exs gl (Fw.run gl Fs wf (n + 2)) wf DB2 [some (.ref r), some (.ref s), x2, x3, x4, x5, some (.ref b)] g) Q E := by
  have h1' := h1
  rw [List.map_append] at h1'
  refine x_expr (w_mth (w_var rfl ⟨isL_lo h2, ws_cons (w_tup (ws_cons (w_mth (w_var rfl ⟨isL_lo h1, ws_nil ?_⟩))))⟩))
  refine mtd_pop (ps := ys.map .str) (p := .str y) h1' ?_
  have P1 : Pool (putO g s (dlo (ys.map .str))) r := by
    obtain ⟨u, v, p1, p2⟩ := hp
    exact ⟨u, v, (put_ne (Ne.symm sr)).trans p1, p2⟩
  refine ws_cons (w_call (ws_cons (w_var rfl (ws_cons (w_lst (ws_cons (w_is is_int (ws_cons (w_is is_int (ws_cons (w_bin (w_is is_int (w_call (ws_cons (w_var rfl (ws_cons (w_is is_int (ws_nil ?_))))))))))))))))))
  refine k_take (n := n + 1) P1 (low_putLo hg) ⟨by omega, by omega⟩ fun t h ht k1 k2 => ?_
  refine v_bin rfl (ws_nil ⟨[.int 1, .int 99, .int (1 + (t : Int))], rfl, (show 3 ≤ line by decide), ws_nil ?_⟩)
  refine k_one (n := n) (by simp) (show 3 < 1073741824 by decide) k1.pool k1.low fun q h' hq' k3 k4 => ?_
  have : ∃ z : Nat, q = .int (z : Nat) ∧ 1 ≤ z ∧ z ≤ 99 := by
    simp only [List.mem_cons, List.not_mem_nil, or_false] at hq'
    rcases hq' with rfl | rfl | rfl
    · exact ⟨1, rfl, by omega, by omega⟩
    · exact ⟨99, rfl, by omega, by omega⟩
    · exact ⟨1 + t, by simp, by omega, by omega⟩
  obtain ⟨z, rfl, z1, z8⟩ := this
  have K := k1.trans k3
  have ls := lt_of h1
  have lb := lt_of h2
  have e1 : h'[s]? = some (dlo (ys.map .str)) := (K.els s (by rw [putO_len]; exact ls) sr).trans (put_at ls)
  have e2 : h'[b]? = some (dlo (c.map pairE)) := ((K.els b (by rw [putO_len]; exact lb) br).trans (put_ne (Ne.symm sb))).trans h2
  refine ws_nil ⟨[.str y, .int (z : Nat)], rfl, (show 2 ≤ line by decide), ws_nil ?_⟩
  refine mtd_app (ps := c.map pairE) e2 (by rw [List.length_map]; exact Nat.lt_of_lt_of_le hc (by decide)) (x_nil ?_)
  rw [putO_len] at k2
  refine hq z _ z1 z8 ?_ ?_ ?_ ?_ ?_ ?_
  · exact (put_ne sb).trans e1
  · have := put_at (g := h') (r := b) (o := dlo (c.map pairE ++ [.tuple [.str y, .int ((z : Nat) : Int)]])) (lt_of e2)
    rw [this, List.map_append]
    rfl
  · rw [putO_len]; omega
  · intro i i1 i2 i3
    rw [put_ne i2]
    rcases Nat.lt_or_ge i g.length with l | l
    · exact (K.els i (by rw [putO_len]; exact l) i3).trans (put_ne i1)
    · rw [List.getElem?_eq_none l, List.getElem?_eq_none (by omega)]
  · obtain ⟨u, v, p1, p2⟩ := K.pool
    exact ⟨u, v, (put_ne (Ne.symm br)).trans p1, p2⟩
  · exact low_putLo K.low
theorem last_of {α : Type} {l : List α} (h : 0 < l.length) : ∃ ys y, l = ys ++ [y] := by
  have hn : l ≠ [] := by intro z; subst z; cases h
  exact ⟨l.dropLast, l.getLast hn, (List.dropLast_concat_getLast hn).symm⟩
theorem ls_nil {α : Type} {its : List Itm} {c : List α} {k : Nat} (h : its.length + c.length = k) (hi : its = []) : c.length = k := by subst hi; simpa using h
theorem names_move {ys c : List Str} {y : Str} (h : ((ys ++ [y]) ++ c).Perm names14) : (ys ++ (c ++ [y])).Perm names14 := by
  refine .trans ?_ h
  rw [List.append_assoc]
  exact (List.perm_append_comm (l₁ := c) (l₂ := [y])).append_left ys
theorem k_drawn {Q : D → Gh → Prop} (hp : Pool g r) (hg : Low g) (hq : ∀ c k e h, Right c k e → Gr r g h → h.length = g.length → Q (.dat (gnd c k e)) h) : W (Fw.run gl Fs wf (n + 4) 25 [.ref r] g) Q E := by
  refine w_run (d := F__law_drawn) rfl rfl ?_
  have rl := hp.lt
  show W (exs gl (Fw.run gl Fs wf (n + 3)) wf F__law_drawn.body [some (.ref r), none, none, none, none, none, none] g) _ _
  refine x_par3 (w_call (ws_cons (w_var rfl (ws_nil ?_))))
  refine k_names hp hg fun s h ys p1 p2 p3 p4 => ?_
  refine w_new (ws_nil ⟨Nat.zero_le _, w_is is_int ?_⟩)
  show W (exs gl (Fw.run gl Fs wf (n + 3)) wf _ [some (.ref r), some (.ref s), some (.ref h.length), some (.dat (.int 64)), none, none, none] (h ++ [dlo []])) _ _
  have sl := lt_of p3
  have hl := p4.le
  refine x_for (wi_rng (w_call (ws_cons (w_var rfl (ws_cons (w_is is_int (ws_nil ?_)))))))
  refine k_take (n := n + 2) (p4.new (ps := [])).pool (p4.new (ps := [])).low ⟨by omega, by omega⟩ fun t h2 ht k1 k2 => ⟨t, rfl, by omega, ?_⟩
  have k2' : h2.length = h.length + 1 := by rw [k2]; simp
  have G2 := (p4.new (ps := [])).trans k1
  refine w_for (w := none) (fun its fr h3 => ∃ (ys : List Str) (c : List (Str × Nat)) (room : Nat) (x4 x5 : Option D), its.length + c.length = t ∧ h3[s]? = some (dlo (ys.map .str)) ∧ h3[h.length]? = some (dlo (c.map pairE)) ∧ (ys ++ c.map (·.1)).Perm names14 ∧ (∀ p ∈ c, 1 ≤ p.2 ∧ p.2 ≤ 8) ∧ prN c * room ≤ 64 ∧ 1 ≤ room ∧ room ≤ 64 ∧ Gr r g h3 ∧ h3.length = h.length + 1 ∧ (∃ ks : List Nat, its = ks.map fun (k : Nat) => Itm.one (.dat (.int (k : Nat)))) ∧
      fr = [some (.ref r), some (.ref s), some (.ref h.length), some (.dat (.int (room : Nat))), x4, x5, none]) (fun _ _ _ _ => True.intro) ?_ ?_ _ _ _ ?_
  · rintro it rest fr h3 ⟨ys, c, room, x4, x5, a1, a2, a3, a4, a5, a6, a7, a8, a9, a10, ⟨ks, a11⟩, rfl⟩
    cases ks with
    | nil => cases a11
    | cons j ks =>
    cases a11
    refine ⟨_, rfl, ?_⟩
    have cl : c.length < t := by simp at a1; omega
    have yl : ys.length + c.length = 14 := by have := a4.length_eq; simp at this; rw [this]; rfl
    obtain ⟨ys, y, rfl⟩ := last_of (l := ys) (by omega)
    refine dr_cell (n := n + 1) (c := c) (x4 := some (.dat (.int (j : Nat)))) a2 a3 a9.pool a9.low (by omega) (by omega) (by omega) a7 a8 (by omega) fun z x h4 z1 z2 z3 b1 b2 b3 b4 b5 b6 => ?_
    have gd : Gr r g h4 := ⟨by omega, fun i hi hr => (b4 i (by omega) (by omega) hr).trans (a9.els i hi hr), b5, b6⟩
    refine ⟨ys, c ++ [(y, z)], room / z, _, x, ?_, b1, b2, ?_, ?_, ?_, ?_, ?_, gd, by omega, ⟨ks, rfl⟩, rfl⟩
    · simp at a1 ⊢; omega
    · rw [List.map_append]; exact names_move a4
    · intro p hp
      rcases List.mem_append.mp hp with hp | hp
      · exact a5 p hp
      · rcases List.mem_singleton.mp hp with rfl; exact ⟨z1, z2⟩
    · rw [prN_app, Nat.mul_assoc]
      exact Nat.le_trans (Nat.mul_le_mul_left _ (Nat.mul_div_le room z)) a6
    · exact (Nat.one_le_div_iff (by omega)).mpr z3
    · exact Nat.le_trans (Nat.div_le_self _ _) a8
  · rintro fr h3 ⟨ys, c, room, x4, x5, a1, a2, a3, a4, a5, a6, a7, a8, a9, a10, a11, rfl⟩
    have cl : c.length = t := by simpa using a1
    clear a1 a11
    refine x_nxt (x_set (w_new (ws_nil ⟨Nat.zero_le _, ?_⟩)))
    show W (exs gl (Fw.run gl Fs wf (n + 3)) wf _ [some (.ref r), some (.ref s), some (.ref h.length), some (.dat (.int (room : Nat))), x4, x5, some (.ref h3.length)] (h3 ++ [dlo []])) _ _
    refine x_for (wi_rng (w_call (ws_cons (w_var rfl (ws_cons (w_is is_int (ws_nil ?_)))))))
    have G3 := a9.new (ps := [])
    refine k_take (n := n + 2) G3.pool G3.low ⟨by omega, by omega⟩ fun t2 h4 ht2 k3 k4 => ⟨t2, rfl, by omega, ?_⟩
    have k4' : h4.length = h.length + 2 := by rw [k4]; simp; omega
    refine w_for (w := none) (fun its fr h3' => ∃ (ys : List Str) (k : List (Str × Nat)) (x4 : Option D), its.length + k.length = t2 ∧ h3'[s]? = some (dlo (ys.map .str)) ∧ h3'[h.length]? = some (dlo (c.map pairE)) ∧ h3'[h3.length]? = some (dlo (k.map pairE)) ∧ (ys ++ (c.map (·.1) ++ k.map (·.1))).Perm names14 ∧ (∀ p ∈ k, 1 ≤ p.2 ∧ p.2 ≤ 99) ∧ Gr r g h3' ∧ h3'.length = h.length + 2 ∧ (∃ ks : List Nat, its = ks.map fun (k : Nat) => Itm.one (.dat (.int (k : Nat)))) ∧
      fr = [some (.ref r), some (.ref s), some (.ref h.length), some (.dat (.int (room : Nat))), x4, x5, some (.ref h3.length)]) (fun _ _ _ _ => True.intro) ?_ ?_ _ _ _ ?_
    · rintro it rest fr h5 ⟨ys, k, x4, a1, c2, c3, c4, c5, c6, c7, c8, ⟨ks, a11⟩, rfl⟩
      cases ks with
      | nil => cases a11
      | cons j ks =>
      cases a11
      refine ⟨_, rfl, ?_⟩
      have kl : k.length < t2 := by simp at a1; omega
      have yl : ys.length + (c.length + k.length) = 14 := by have := c5.length_eq; simp at this; rw [this]; rfl
      obtain ⟨ys, y, rfl⟩ := last_of (l := ys) (by omega)
      refine dr_kind (n := n + 1) (c := k) (x4 := some (.dat (.int (j : Nat)))) c2 c4 c7.pool c7.low (by omega) (by omega) (by omega) (by omega) fun z h6 z1 z2 b1 b2 b3 b4 b5 b6 => ?_
      have gd : Gr r g h6 := ⟨by omega, fun i hi hr => (b4 i (by omega) (by omega) hr).trans (c7.els i hi hr), b5, b6⟩
      refine ⟨ys, k ++ [(y, z)], _, ?_, b1, (b4 _ (by omega) (by omega) (by omega)).trans c3, b2, ?_, ?_, gd, by omega, ⟨ks, rfl⟩, rfl⟩
      · simp at a1 ⊢; omega
      · rw [List.map_append, ← List.append_assoc (c.map (·.1))]; exact names_move c5
      · intro p hp
        rcases List.mem_append.mp hp with hp | hp
        · exact c6 p hp
        · rcases List.mem_singleton.mp hp with rfl; exact ⟨z1, z2⟩
    · rintro fr h5 ⟨ys, k, x4, a1, c2, c3, c4, c5, c6, c7, c8, a11, rfl⟩
      have kl : k.length = t2 := by simpa using a1
      clear a1 a11
      refine x_nxt (x_ret (w_tup (ws_cons (w_bi (ws_cons (w_var rfl (ws_nil ?_)))))))
      have tupOf : ∀ {hh : Gh} {j : Nat} {ps : List PyData} {Q : D → Gh → Prop} {E : Xn → Gh → Prop}, hh[j]? = some (dlo ps) → Q (.dat (.tuple ps)) hh → W (biV .tuple [.ref j] hh) Q E := by
        intro hh j ps Q E e q
        refine W.of_eq (a := .dat (.tuple ps)) ?_ q
        show Rs.ofP ((viaLs hh [.ref j]).bind fun ps => biD .tuple ps) hh = _
        have e2 : viaLs hh [.ref j] = some [.list ps] := by
          show (viaL hh (.ref j)).bind (fun p => (viaLs hh []).map (p :: ·)) = _
          rw [viaL_lo e]
          rfl
        rw [e2]
        rfl
      refine tupOf c3 (ws_cons (w_bi (ws_cons (w_var rfl (ws_nil (tupOf c4 (ws_cons (w_bi (ws_cons ?_)))))))))
      have cl4 : c.length ≤ 4 := by omega
      have kl3 : k.length ≤ 3 := by omega
      refine w_lcI (α := Nat) (it := fun (k : Nat) => Itm.one (.dat (.int (k : Nat)))) (fun rest zs h6 => ∃ (ys e : List Str), zs = e.map .str ∧ rest.length + e.length ≤ 4 ∧ 1 ≤ rest.length + e.length ∧ h6[s]? = some (dlo (ys.map .str)) ∧ (ys ++ (c.map (·.1) ++ k.map (·.1) ++ e)).Perm names14 ∧ Gr r g h6 ∧ h6.length = h5.length) (wi_rng (w_bin (w_is is_int (w_call (ws_cons (w_var rfl (ws_cons (w_is is_int (ws_nil ?_)))))))))  ?_ ?_ ?_
      · refine k_take (n := n + 2) c7.pool c7.low ⟨by omega, by omega⟩ fun t3 h6 ht3 k5 k6 => ?_
        refine v_bin rfl ⟨1 + t3, by simp, by omega, List.range (1 + t3), rfl, ys, [], rfl, by simp; omega, by simp, ?_, by simpa using c5, c7.trans k5, k6⟩
        exact (k5.els s (by omega) (by omega)).trans c2
      · rintro rest zs h6 ⟨ys, e, rfl, d1, d2, d3, d4, d5, d6⟩
        refine ⟨d5.low, ?_⟩
        rw [List.length_map]
        exact Nat.le_trans (show e.length + rest.length ≤ 4 by omega) (by decide)
      · rintro x rest zs h6 ⟨ys, e, rfl, d1, d2, d3, d4, d5, d6⟩
        refine ⟨_, rfl, ?_⟩
        have yl : ys.length + (c.length + k.length + e.length) = 14 := by have := d4.length_eq; simp only [List.length_append, List.length_map] at this; rw [this]; rfl
        have el : e.length < 4 := by simp at d1; omega
        obtain ⟨ys, y, rfl⟩ := last_of (l := ys) (by omega)
        rw [List.map_append] at d3
        have d3' : (h6 ++ [dlo (e.map .str)])[s]? = some (dlo (ys.map .str ++ [.str y])) := (List.getElem?_append_left (by omega)).trans d3
        refine w_mth (w_var rfl ⟨isL_lo d3', ws_nil (mtd_pop d3' ⟨.str y, putO h6 s (dlo (ys.map .str)), rfl, ?_, by rw [putO_len], ys, e ++ [y], by simp, by simp at d1 ⊢; omega, by simp at d2 ⊢; omega, put_at (by omega), ?_, d5.putB p2 rl, by rw [putO_len]; exact d6⟩)⟩)
        · unfold putO
          rw [List.set_append_left _ _ (by omega)]
        · rw [← List.append_assoc _ e]
          exact names_move d4
      · rintro zs h6 ⟨ys, e, rfl, d1, d2, d3, d4, d5, d6⟩
        refine ws_nil (v_bi (r := .tuple (e.map .str)) rfl (ws_nil ⟨[.tuple (c.map pairE), .tuple (k.map pairE), .tuple (e.map .str)], rfl, (show 3 ≤ line by decide), ?_⟩))
        have nd : (c.map (·.1) ++ k.map (·.1) ++ e).Nodup := by
          have : (ys ++ (c.map (·.1) ++ k.map (·.1) ++ e)).Nodup := d4.nodup_iff.mpr (by decide +kernel)
          exact (List.nodup_append.mp this).2.1
        have R : Right c k e := ⟨nd, fun x hx => d4.mem_iff.mp (List.mem_append.mpr (.inr hx)), a5, c6, cl4, kl3, by simpa using d2, by simpa using d1, Nat.le_trans (by rw [← Nat.mul_one (prN c)]; exact Nat.mul_le_mul (by rw [Nat.mul_one]; exact Nat.le_refl _) a7) a6⟩
        exact fin_data d5 hg rl fun h7 q1 q2 => hq c k e h7 R q1 q2
    · refine ⟨ys, [], x4, by simp, ?_, ?_, ?_, by simpa using a4, fun p hp => (nomatch hp), G3.trans k3, k4', ⟨List.range t2, rfl⟩, rfl⟩
      · exact (k3.els s (by simp; omega) (by omega)).trans ((List.getElem?_append_left (by omega)).trans a2)
      · exact (k3.els h.length (by simp; omega) (by omega)).trans ((List.getElem?_append_left (by omega)).trans a3)
      · exact (k3.els h3.length (by simp) (by omega)).trans new_at
  · refine ⟨ys, [], 64, none, none, by simp, ?_, ?_, by simpa using p1, fun p hp => (nomatch hp), by simp [prN], by omega, by omega, G2, k2', ⟨List.range t, rfl⟩, rfl⟩
    · exact (k1.els s (by simp; omega) (by omega)).trans ((List.getElem?_append_left (by omega)).trans p3)
    · exact (k1.els h.length (by simp) (by omega)).trans new_at
end
end Law
end
set_option Elab.async false
set_option linter.all false
set_option maxRecDepth 100000
set_option maxHeartbeats 4000000
noncomputable section
namespace Law
open PySem PySem.Spec PyProof.Rows L2 Fw
section
variable {wf n : Nat} {g : Gh} {r : Nat} {E : Xn → Gh → Prop}
abbrev str (x : String) : PyData := .str (Str.ofString x)
theorem sm_lits : ∀ x ∈ [Str.ofString "", Str.ofString "A", Str.ofString "9a", Str.ofString "a b", Str.ofString "abcdefghijklm", Str.ofString "if", Str.ofString "law", Str.ofString "cells", Str.ofString "good", Str.ofString "1", Str.ofString "m1", Str.ofString "m2", Str.ofString "m3", Str.ofString "a", Str.ofString "ground"],
    x.cps.toList.all (fun c => decide (c < 0x110000)) = true ∧ x.length ≤ 13 := by decide +kernel
theorem sm_lit {x : Str} (h : x ∈ [Str.ofString "", Str.ofString "A", Str.ofString "9a", Str.ofString "a b", Str.ofString "abcdefghijklm", Str.ofString "if", Str.ofString "law", Str.ofString "cells", Str.ofString "good", Str.ofString "1", Str.ofString "m1", Str.ofString "m2", Str.ofString "m3", Str.ofString "a", Str.ofString "ground"]) : Sm 14 0 (.str x) := by
  obtain ⟨a, b⟩ := sm_lits x h
  exact Sm.str a (by omega)
theorem sm_int {i : Int} (h : i.natAbs ≤ 10 ^ 30) : Sm 14 0 (.int i) := Sm.int (by omega) (Nat.le_trans h (by decide))
theorem sm_two {a b : PyData} (ha : Sm 14 0 a) (hb : Sm 14 0 b) : Sm 46 1 (.tuple [a, b]) := Sm.tup (n := 14) (fun q hq => by
  simp only [List.mem_cons, List.not_mem_nil, or_false] at hq
  rcases hq with rfl | rfl
  · exact ha
  · exact hb) (show (14 + 1) * 2 + 1 ≤ 46 by decide)
theorem sm_up {a : PyData} (ha : Sm 14 0 a) : Sm 46 1 a := ha.mono (by omega) (by omega)
def oddNames (c k : List (Str × Nat)) (e : List Str) : List PyData := ((c ++ k).map fun p => PyData.str p.1) ++ e.map .str
theorem odd_sm {c k : List (Str × Nat)} {e : List Str} (R : Right c k e) : ∀ p ∈ oddNames c k e, Sm 14 0 p := fun p hp => by
  rcases List.mem_append.mp hp with hp | hp
  · obtain ⟨q, hq, rfl⟩ := List.mem_map.mp hp
    refine sm_name (R.nms _ ?_)
    rcases List.mem_append.mp hq with h | h
    · exact List.mem_append.mpr (.inl (List.mem_append.mpr (.inl (List.mem_map_of_mem h))))
    · exact List.mem_append.mpr (.inl (List.mem_append.mpr (.inr (List.mem_map_of_mem h))))
  · obtain ⟨q, hq, rfl⟩ := List.mem_map.mp hp
    exact sm_name (R.nms _ (List.mem_append.mpr (.inr hq)))
def oddS : List PyData := [str "", str "A", str "9a", str "a b", str "abcdefghijklm", str "if", str "law", str "cells", str "good", .none, .int 7]
theorem oddS_sm : ∀ p ∈ oddS, Sm 14 0 p := by
  intro p hp
  simp only [oddS, List.mem_cons, List.not_mem_nil, or_false] at hp
  rcases hp with rfl | rfl | rfl | rfl | rfl | rfl | rfl | rfl | rfl | rfl | rfl
  all_goals first | exact sm_lit (by simp) | exact Sm.non (by omega) | exact sm_int (by decide)
def oddN : List PyData := [.int 0, .int (-1), .int 9, .int 8, .int 100, .int 99, .int (10 ^ 30), .none, str "1", .bool true, .int 1]
theorem oddN_sm : ∀ p ∈ oddN, Sm 14 0 p := by
  intro p hp
  simp only [oddN, List.mem_cons, List.not_mem_nil, or_false] at hp
  rcases hp with rfl | rfl | rfl | rfl | rfl | rfl | rfl | rfl | rfl | rfl | rfl
  all_goals first | exact sm_lit (by simp) | exact Sm.non (by omega) | exact sm_int (by decide) | exact Sm.bool (by omega)
theorem k_odd {Q : D → Gh → Prop} {c k : List (Str × Nat)} {e : List Str} {part : Nat} (R : Right c k e) (hp : Pool g r) (hg : Low g) (hq : ∀ p h, Sm 46 1 p → Gr r g h → h.length = g.length → Q (.dat p) h) : W (Fw.run gl Fs wf (n + 3) 26 [.ref r, .dat (gnd c k e), .dat (.int (part : Nat))] g) Q E := by
  refine w_run (d := F__law_odd_entry) rfl rfl ?_
  have rl := hp.lt
  have lc := R.cl
  have lk := R.kl
  have le := R.el
  have l : line = 16777216 := rfl
  show W (exs gl (Fw.run gl Fs wf (n + 2)) wf F__law_odd_entry.body [some (.ref r), some (.dat (gnd c k e)), some (.dat (.int (part : Nat))), none, none, none] g) _ _
  have ix : ∀ (i : Int) p, ixD (gnd c k e) (.int i) = some p → ∀ fr : Fr, fr[1]? = some (some (.dat (gnd c k e))) → ∀ h, Is gl (Fw.run gl Fs wf (n + 2)) fr h (.ix (.var 1) (.int i)) p := fun i p hi fr hv h => is_ix (is_var hv) is_int hi
  refine x_set (w_is (p := .list (oddNames c k e)) (is_bin (p := .list ((c ++ k).map fun p => PyData.str p.1)) (q := .list (e.map .str)) ?_ (is_bi (p := .tuple (e.map .str)) (ix 2 _ rfl _ rfl _) rfl) (add_lst (by simp; omega))) ?_)
  · refine is_lcM (xs := c ++ k) (it := fun p => Itm.one (.dat (pairE p))) (fun p => PyData.str p.1) hg (it_tup (enc := pairE) (is_bin (p := .tuple (c.map pairE)) (q := .tuple (k.map pairE)) (ix 0 _ rfl _ rfl _) (ix 1 _ rfl _ rfl _) ?_)) (by simp; omega) fun p hp zs => ⟨_, rfl, is_ix (p := pairE p) (q := .int 0) (is_var rfl) is_int rfl⟩
    rw [List.map_append]
    exact add_tup (by simp; omega)
  show W (exs gl (Fw.run gl Fs wf (n + 2)) wf _ [some (.ref r), some (.dat (gnd c k e)), some (.dat (.int (part : Nat))), some (.dat (.list (oddNames c k e))), none, none] g) _ _
  have n1 : (oddNames c k e).length ≤ 11 := by unfold oddNames; simp; omega
  have L1 : Is gl (Fw.run gl Fs wf (n + 2)) [some (.ref r), some (.dat (gnd c k e)), some (.dat (.int (part : Nat))), some (.dat (.list (oddNames c k e))), none, none] g (.bin .add (.lst false (.cons (.str (Str.ofString "")) (.cons (.str (Str.ofString "A")) (.cons (.str (Str.ofString "9a")) (.cons (.str (Str.ofString "a b")) (.cons (.str (Str.ofString "abcdefghijklm")) (.cons (.str (Str.ofString "if")) (.cons (.str (Str.ofString "law")) (.cons (.str (Str.ofString "cells")) (.cons (.str (Str.ofString "good")) (.cons .non (.cons (.int 7) .nil)))))))))))) (.var 3)) (.list (oddS ++ oddNames c k e)) :=
    is_bin (p := .list oddS) (q := .list (oddNames c k e)) (is_lst (ps := oddS) rfl (by decide)) (is_var rfl) (add_lst (by have : oddS.length = 11 := rfl; omega))
  refine x_set (w_call (ws_cons (w_var rfl (ws_cons (w_is L1 (ws_nil ?_))))))
  refine k_one (n := n) (by simp [oddS]) (by have : oddS.length = 11 := rfl; rw [List.length_append]; omega) hp hg fun a h1 ha k1 k2 => ?_
  have sa : Sm 14 0 a := by
    rcases List.mem_append.mp ha with ha | ha
    · exact oddS_sm a ha
    · exact odd_sm R a ha
  refine x_ifp (is_cmp (p := .int (part : Nat)) (q := .int 2) (is_var rfl) is_int eq_int) (fun _ => ?_) fun _ => ?_
  · refine x_ret (w_call (ws_cons (w_var rfl (ws_cons (w_is (p := .list [a, a, .tuple [str "good", .int 1]]) (is_lst (ps := [a, a, .tuple [str "good", .int 1]]) (are_cons (is_var rfl) (are_cons (is_var rfl) (are_cons (is_tup (ps := [str "good", .int 1]) rfl (show 2 ≤ line by decide)) are_nil))) (show 3 ≤ line by decide)) (ws_nil ?_))))))
    refine k_one (n := n) (by simp) (show 3 < 1073741824 by decide) k1.pool k1.low fun b h2 hb k3 k4 => ?_
    have sb : Sm 46 1 b := by
      simp only [List.mem_cons, List.not_mem_nil, or_false] at hb
      rcases hb with rfl | rfl | rfl
      · exact sm_up sa
      · exact sm_up sa
      · exact sm_two (sm_lit (by simp)) (sm_int (by decide))
    exact fin_data (k1.trans k3) hg rl fun h3 q1 q2 => hq b h3 sb q1 q2
  · refine x_nil (x_nxt (x_set (w_call (ws_cons (w_var rfl (ws_cons (w_is (p := .list oddN) (is_lst (ps := oddN) rfl (by decide)) (ws_nil ?_))))))))
    refine k_one (n := n) (by simp [oddN]) (by decide) k1.pool k1.low fun b h2 hb k3 k4 => ?_
    have sb := oddN_sm b hb
    refine x_ret (w_call (ws_cons (w_var rfl (ws_cons (w_is (p := .list [.tuple [a, .int 1], .tuple [str "good", b], .tuple [str "good"], .tuple [str "good", .int 1, .int 1], str "good", .none, .tuple [a, b]])
      (is_lst (ps := [.tuple [a, .int 1], .tuple [str "good", b], .tuple [str "good"], .tuple [str "good", .int 1, .int 1], str "good", .none, .tuple [a, b]])
        (are_cons (is_tup (ps := [a, .int 1]) (are_cons (is_var rfl) (are_cons is_int are_nil)) (show 2 ≤ line by decide)) (are_cons (is_tup (ps := [str "good", b]) (are_cons is_str (are_cons (is_var rfl) are_nil)) (show 2 ≤ line by decide)) (are_cons (is_tup (ps := [str "good"]) rfl (show 1 ≤ line by decide)) (are_cons (is_tup (ps := [str "good", .int 1, .int 1]) rfl (show 3 ≤ line by decide)) (are_cons is_str (are_cons is_non (are_cons (is_tup (ps := [a, b]) (are_cons (is_var rfl) (are_cons (is_var rfl) are_nil)) (show 2 ≤ line by decide)) are_nil)))))))
        (show 7 ≤ line by decide)) (ws_nil ?_))))))
    refine k_one (n := n) (by simp) (show 7 < 1073741824 by decide) (k1.trans k3).pool k3.low fun d h3 hd k5 k6 => ?_
    have sd : Sm 46 1 d := by
      have g1 : Sm 14 0 (str "good") := sm_lit (by simp)
      have i1 : Sm 14 0 (.int 1) := sm_int (by decide)
      simp only [List.mem_cons, List.not_mem_nil, or_false] at hd
      rcases hd with rfl | rfl | rfl | rfl | rfl | rfl | rfl
      · exact sm_two sa i1
      · exact sm_two g1 sb
      · exact Sm.tup (n := 14) (fun q hq => by rcases List.mem_singleton.mp hq with rfl; exact g1) (show (14 + 1) * 1 + 1 ≤ 46 by decide)
      · exact Sm.tup (n := 14) (fun q hq => by
          simp only [List.mem_cons, List.not_mem_nil, or_false] at hq
          rcases hq with rfl | rfl | rfl
          · exact g1
          · exact i1
          · exact i1) (show (14 + 1) * 3 + 1 ≤ 46 by decide)
      · exact sm_up g1
      · exact Sm.non (by omega)
      · exact sm_two sa sb
    exact fin_data ((k1.trans k3).trans k5) hg rl fun h4 q1 q2 => hq d h4 sd q1 q2
end
end Law
end
set_option Elab.async false
set_option linter.all false
set_option maxRecDepth 100000
set_option maxHeartbeats 4000000
noncomputable section
namespace Law
open PySem PySem.Spec PyProof.Rows L2 Fw
section
variable {wf n : Nat} {g : Gh} {r : Nat} {E : Xn → Gh → Prop}
def RowP (m : Nat) (p : PyData) : Prop := ∃ es, p = .tuple es ∧ es.length ≤ m ∧ ∀ e ∈ es, Sm 46 1 e
def RowQ (m : Nat) (p : PyData) : Prop := RowP m p ∨ (Sm 14 0 p ∧ isTup p = false)
theorem RowP.mono {m k : Nat} {p : PyData} (h : RowP m p) (hk : m ≤ k) : RowP k p := by
  obtain ⟨es, h1, h2, h3⟩ := h
  exact ⟨es, h1, by omega, h3⟩
def M1 : PyData := .tuple [str "m1", .int 1]
theorem k_spoilt {Q : D → Gh → Prop} {c k : List (Str × Nat)} {e : List Str} {xs : List PyData} {m : Nat} (R : Right c k e) (hx : xs.length = 3) (hr : ∀ x ∈ xs, RowP m x) (hm : m ≤ 100) (hp : Pool g r) (hg : Low g)
    (hq : ∀ ys h, ys.length = 3 → (∀ y ∈ ys, RowQ (2 * m + 5) y) → Gr r g h → h.length = g.length → Q (.dat (.tuple ys)) h) : W (Fw.run gl Fs wf (n + 4) 27 [.ref r, .dat (gnd c k e), .dat (.tuple xs)] g) Q E := by
  refine w_run (d := F__law_spoilt) rfl rfl ?_
  have rl := hp.lt
  have l : line = 16777216 := rfl
  show W (exs gl (Fw.run gl Fs wf (n + 3)) wf F__law_spoilt.body [some (.ref r), some (.dat (gnd c k e)), some (.dat (.tuple xs)), none, none, none, none] g) _ _
  refine x_par (w_call (ws_cons (w_var rfl (ws_cons (w_is is_int (ws_nil ?_))))))
  refine k_take (n := n + 2) hp hg ⟨by omega, by omega⟩ fun t h1 ht k1 k2 => ?_
  refine w_call (ws_cons (w_var rfl (ws_cons (w_is is_int (ws_nil ?_)))))
  refine k_take (n := n + 2) k1.pool k1.low ⟨by omega, by omega⟩ fun v h2 hv k3 k4 => ?_
  have G2 := k1.trans k3
  have ht' : t < xs.length := by omega
  have rx := hr xs[t] (List.getElem_mem ht')
  obtain ⟨es, ex_, el, ee⟩ := rx
  have X := ix_tup ht'
  rw [ex_] at X
  refine x_set (w_is (is_ix (p := .tuple xs) (q := .int (t : Nat)) (is_var rfl) (is_var rfl) X) ?_)
  show W (exs gl (Fw.run gl Fs wf (n + 3)) wf _ [some (.ref r), some (.dat (gnd c k e)), some (.dat (.tuple xs)), some (.dat (.int (t : Nat))), some (.dat (.int (v : Nat))), some (.dat (.tuple es)), none] h2) _ _
  -- the end: the row goes to its place
  have fin_ : ∀ (p : PyData) (x6 : Option D) (h : Gh), RowQ (2 * m + 5) p → Gr r g h → W (exs gl (Fw.run gl Fs wf (n + 3)) wf (.cons (.ret (.bin .add (.bin .add (.sl (.var 2) .no (.so (.var 3))) (.tup (.cons (.var 5) .nil))) (.sl (.var 2) (.so (.bin .add (.var 3) (.int 1))) .no))) .nil) [some (.ref r), some (.dat (gnd c k e)), some (.dat (.tuple xs)), some (.dat (.int (t : Nat))), some (.dat (.int (v : Nat))), some (.dat p), x6] h)
      (fun f g1 => match f with
      | .rt v => W (fin false g.length v g1) Q E
      | .nx _ => W (fin false g.length (.dat .none) g1) Q E
      | _ => False) (fun x g1 => E x (finX g.length g1)) := by
    intro p x6 h rp G
    have e1 : (((t : Nat) : Int) + 1) = ((t + 1 : Nat) : Int) := by simp
    refine x_ret (w_is (p := .tuple ((xs.take t ++ [p]) ++ xs.drop (t + 1))) (is_bin (p := .tuple (xs.take t ++ [p])) (q := .tuple (xs.drop (t + 1))) (is_bin (p := .tuple (xs.take t)) (q := .tuple [p]) (is_sl (is_var rfl) io_no (io_so (is_var rfl)) sl_take) (is_tup (ps := [p]) (are_cons (is_var rfl) are_nil) (show 1 ≤ line by decide)) (add_tup (by simp; omega)))
      (is_sl (is_var rfl) (io_so (is_bin (p := .int (t : Nat)) (q := .int 1) (r := .int ((t + 1 : Nat) : Int)) (is_var rfl) is_int (by rw [← e1]; rfl))) io_no sl_drop) (add_tup (by simp; omega))) ?_)
    refine fin_data G hg rl fun h3 q1 q2 => hq _ h3 (by simp; omega) (fun y hy => ?_) q1 q2
    rcases List.mem_append.mp hy with hy | hy
    · rcases List.mem_append.mp hy with hy | hy
      · exact .inl ((hr y (List.mem_of_mem_take hy)).mono (by omega))
      · rcases List.mem_singleton.mp hy with rfl
        exact rp
    · exact .inl ((hr y (List.mem_of_mem_drop hy)).mono (by omega))
  have g1 : Sm 14 0 (str "m1") := sm_lit (by simp)
  have i1 : Sm 14 0 (.int 1) := sm_int (by decide)
  refine x_ifp (is_cmp (p := .int (v : Nat)) (q := .int 0) (is_var rfl) is_int eq_int) (fun _ => ?_) fun _ => ?_
  · refine x_set (w_bin (w_var rfl (w_bi (ws_cons ?_))))
    refine w_lcD (α := Nat) (xs := List.range 5) (it := fun (k : Nat) => Itm.one (.dat (.int (k : Nat)))) (r := r) (fun _ p => p ∈ [str "m1", M1]) (W.of_eq (it_rng (j := 5) is_int (by omega)) ⟨rfl, Gr.refl G2.pool G2.low, rfl⟩) (by decide) G2.pool ?_ ?_
    · intro x _ h hp3 hl3
      refine ⟨_, rfl, ?_⟩
      refine w_call (ws_cons (w_var rfl (ws_cons (w_is (p := .list [str "m1", M1]) (is_lst (ps := [str "m1", M1]) rfl (show 2 ≤ line by decide)) (ws_nil ?_)))))
      exact k_one (n := n + 1) (by simp) (show 2 < 1073741824 by decide) hp3 hl3 fun q h4 hq4 q1 q2 => ⟨q, rfl, hq4, q1, q2⟩
    · intro zs h hz hzs G3 _
      refine ws_nil (v_bi (r := .tuple zs) rfl (v_bin (add_tup (by rw [hz]; simp; omega)) (x_nil (x_nxt (fin_ _ _ _ (.inl ⟨_, rfl, ?_, ?_⟩) (G2.trans G3))))))
      · rw [List.length_append, hz]
        simp
        omega
      · intro q hq
        rcases List.mem_append.mp hq with hq | hq
        · exact ee q hq
        · obtain ⟨_, _, hx⟩ := hzs q hq
          simp only [List.mem_cons, List.not_mem_nil, or_false] at hx
          rcases hx with rfl | rfl
          · exact sm_up g1
          · exact sm_two g1 i1
  · refine x_ifp (is_cmp (p := .int (v : Nat)) (q := .int 1) (is_var rfl) is_int eq_int) (fun _ => ?_) fun _ => ?_
    · refine x_set (w_is (p := .tuple []) (is_tup are_nil (Nat.zero_le _)) (x_nil (x_nxt (x_nil (x_nxt (fin_ _ _ _ (.inl ⟨[], rfl, Nat.zero_le _, fun _ h => nomatch h⟩) G2))))))
    · refine x_ifp (is_and (is_cmp (p := .int (v : Nat)) (q := .int 2) (is_var rfl) is_int eq_int) fun _ => is_cmp (p := .int (t : Nat)) (q := .int 0) (is_var rfl) is_int eq_int) (fun _ => ?_) fun _ => ?_
      · refine x_set (w_tup (ws_cons (w_is (p := .tuple [str "m1", .int 8]) (is_tup (ps := [str "m1", .int 8]) rfl (show 2 ≤ line by decide)) (ws_cons (w_is (p := .tuple [str "m2", .int 8]) (is_tup (ps := [str "m2", .int 8]) rfl (show 2 ≤ line by decide)) (ws_cons (w_tup (ws_cons (w_is is_str (ws_cons (w_call (ws_cons (w_var rfl (ws_cons (w_is (p := .list [.int 1, .int 2]) (is_lst (ps := [.int 1, .int 2]) rfl (show 2 ≤ line by decide)) (ws_nil ?_))))))))))))))))
        refine k_one (n := n + 1) (by simp) (show 2 < 1073741824 by decide) G2.pool G2.low fun q h4 hq4 q1 q2 => ?_
        refine ws_nil ⟨[str "m3", q], rfl, (show 2 ≤ line by decide), ws_nil ⟨[.tuple [str "m1", .int 8], .tuple [str "m2", .int 8], .tuple [str "m3", q]], rfl, (show 3 ≤ line by decide), x_nil (x_nxt (x_nil (x_nxt (x_nil (x_nxt (fin_ _ _ _ (.inl ⟨_, rfl, ?_, ?_⟩) (G2.trans q1)))))))⟩⟩
        · show 3 ≤ 2 * m + 5
          omega
        · have sq : Sm 14 0 q := by
            simp only [List.mem_cons, List.not_mem_nil, or_false] at hq4
            rcases hq4 with rfl | rfl
            · exact sm_int (by decide)
            · exact sm_int (by decide)
          intro z hz
          simp only [List.mem_cons, List.not_mem_nil, or_false] at hz
          rcases hz with rfl | rfl | rfl
          · exact sm_two g1 (sm_int (by decide))
          · exact sm_two (sm_lit (by simp)) (sm_int (by decide))
          · exact sm_two (sm_lit (by simp)) sq
      · refine x_ifp (is_cmp (p := .int (v : Nat)) (q := .int 3) (is_var rfl) is_int eq_int) (fun _ => ?_) fun _ => ?_
        · refine x_set (w_call (ws_cons (w_var rfl (ws_cons (w_is (p := .list [.none, str "a", .int 7, .tuple es]) (is_lst (ps := [.none, str "a", .int 7, .tuple es]) (are_cons is_non (are_cons is_str (are_cons is_int (are_cons (is_var rfl) are_nil)))) (show 4 ≤ line by decide)) (ws_nil ?_))))))
          refine k_one (n := n + 1) (by simp) (show 4 < 1073741824 by decide) G2.pool G2.low fun q h4 hq4 q1 q2 => ?_
          refine x_nil (x_nxt (x_nil (x_nxt (x_nil (x_nxt (x_nil (x_nxt (fin_ _ _ _ ?_ (G2.trans q1)))))))))
          simp only [List.mem_cons, List.not_mem_nil, or_false] at hq4
          rcases hq4 with rfl | rfl | rfl | rfl
          · exact .inr ⟨Sm.non (by omega), rfl⟩
          · exact .inr ⟨sm_lit (by simp), rfl⟩
          · exact .inr ⟨sm_int (by decide), rfl⟩
          · exact .inl ⟨es, rfl, by omega, ee⟩
        · refine x_set (w_call (ws_cons (w_var rfl (ws_cons (w_is (p := .int ((es.length : Int) + 1)) (is_bin (p := .int es.length) (q := .int 1) (is_bi (p := .tuple es) (is_var rfl) rfl) is_int rfl) (ws_nil ?_))))))
          refine k_take (n := n + 2) G2.pool G2.low ⟨by omega, by omega⟩ fun a h4 ha q1 q2 => ?_
          refine x_set (w_bin (w_bin (w_is (is_sl (is_var rfl) io_no (io_so (is_var rfl)) sl_take) (w_tup (ws_cons (w_call (ws_cons (w_var rfl (ws_cons (w_var rfl (ws_cons (w_var rfl (ws_nil ?_)))))))))))))
          refine k_odd (n := n) R (G2.trans q1).pool q1.low fun o h5 ho q3 q4 => ?_
          refine ws_nil ⟨[o], rfl, (show 1 ≤ line by decide), v_bin (add_tup (by simp; omega)) ?_⟩
          have G5 := (G2.trans q1).trans q3
          obtain ⟨b, hb⟩ : ∃ b : Nat, Is gl (Fw.run gl Fs wf (n + 3)) [some (.ref r), some (.dat (gnd c k e)), some (.dat (.tuple xs)), some (.dat (.int (t : Nat))), some (.dat (.int (v : Nat))), some (.dat (.tuple es)), some (.dat (.int (a : Nat)))] h5 (.bin .add (.var 6) (.bi .int (.cons (.cmp .gt (.var 4) (.int 5)) .nil))) (.int (b : Nat)) := by
            refine ⟨a + (if decide (5 < (v : Int)) = true then 1 else 0), is_bin (p := .int (a : Nat)) (q := .int (if decide (5 < (v : Int)) = true then 1 else 0)) (is_var rfl) (is_bi (is_cmp (p := .int (v : Nat)) (q := .int 5) (is_var rfl) is_int gt_int) rfl) ?_⟩
            show some (PyData.int ((a : Int) + (if decide (5 < (v : Int)) = true then 1 else 0))) = _
            split <;> simp
          refine w_is (is_sl (p := .tuple es) (is_var rfl) (io_so hb) io_no sl_drop) (v_bin (add_tup (by simp; omega)) (x_nil (x_nxt (x_nil (x_nxt (x_nil (x_nxt (x_nil (x_nxt (fin_ _ _ _ (.inl ⟨_, rfl, ?_, ?_⟩) G5))))))))))
          · simp
            omega
          · intro q hq
            rcases List.mem_append.mp hq with hq | hq
            · rcases List.mem_append.mp hq with hq | hq
              · exact ee q (List.mem_of_mem_take hq)
              · rcases List.mem_singleton.mp hq with rfl
                exact ho
            · exact ee q (List.mem_of_mem_drop hq)
end
end Law
end
set_option Elab.async false
set_option linter.all false
set_option maxRecDepth 100000
set_option maxHeartbeats 4000000
noncomputable section
namespace Law
open PySem PySem.Spec PyProof.Rows L2 Fw
theorem grown_len : ∀ (c : List (Str × Nat)) (rows : List (List PyData)), (grown (c.map pairE) rows).length = rows.length * prN c
  | [], rows => by simp [grown, prN]
  | p :: c, rows => by
    show (grown (c.map pairE) (grow rows (sizeN (pairE p)))).length = _
    rw [grown_len c, grow_len, prN, show sizeN (pairE p) = p.2 from rfl, Nat.mul_assoc]
theorem grown_sm : ∀ (ps : List PyData) (rows : List (List PyData)) (m : Nat), Sized8 ps → (∀ row ∈ rows, row.length ≤ m ∧ ∀ x ∈ row, Sm 14 0 x) → ∀ row ∈ grown ps rows, row.length ≤ m + ps.length ∧ ∀ x ∈ row, Sm 14 0 x
  | [], rows, m, _, h => h
  | p :: ps, rows, m, hs, h => by
    obtain ⟨a, i, rfl, h1, h2⟩ := hs p (List.mem_cons_self)
    have ih := grown_sm ps (grow rows i) (m + 1) (fun q hq => hs q (List.mem_cons_of_mem _ hq)) (fun z hz => by
      obtain ⟨row, hr, j, hj, rfl⟩ := grow_mem hz
      obtain ⟨q1, q2⟩ := h row hr
      refine ⟨by simp; omega, fun x hx => ?_⟩
      rcases List.mem_append.mp hx with hx | hx
      · exact q2 x hx
      · rcases List.mem_singleton.mp hx with rfl
        exact sm_int (Nat.le_trans (show ((j : Nat) : Int).natAbs ≤ 8 by omega) (by decide)))
    intro row hr
    obtain ⟨q1, q2⟩ := ih row hr
    exact ⟨by rw [List.length_cons]; omega, q2⟩
theorem rep_zero (k : Nat) : (List.replicate k [PyData.int 0]).flatten = List.replicate k (PyData.int 0) := by
  induction k with
  | zero => rfl
  | succ k ih => rw [List.replicate_succ, List.flatten_cons, ih, List.replicate_succ]; rfl
theorem ne_same {x : Str} : cmpD .ne (.str x) (.str x) = some false := by
  show some (!(x == x)) = _
  simp
section
variable {wf : Nat}
theorem Right.sm {c k : List (Str × Nat)} {e : List Str} (R : Right c k e) : Sm 2000 3 (gnd c k e) := by
  refine Sm.tup (n := 300) (d := 2) (fun q hq => ?_) (show (300 + 1) * 3 + 1 ≤ 2000 by decide)
  have l1 := R.cl
  have l2 := R.kl
  have l3 := R.el
  simp only [List.mem_cons, List.not_mem_nil, or_false] at hq
  rcases hq with rfl | rfl | rfl
  · exact Sm.tup R.entC (by simp; omega)
  · exact Sm.tup R.entK (by simp; omega)
  · exact Sm.tup R.entE (by simp; omega)
theorem rowP_c {c k : List (Str × Nat)} {e : List Str} (R : Right c k e) : ∀ x ∈ [PyData.tuple (c.map pairE), .tuple (k.map pairE), .tuple (e.map .str)], RowP 4 x := fun x hx => by
  have l1 := R.cl
  have l2 := R.kl
  have l3 := R.el
  simp only [List.mem_cons, List.not_mem_nil, or_false] at hx
  rcases hx with rfl | rfl | rfl
  · exact ⟨_, rfl, by simp; omega, R.entC⟩
  · exact ⟨_, rfl, by simp; omega, R.entK⟩
  · exact ⟨_, rfl, by simp; omega, R.entE⟩
theorem rowQ_sm {m : Nat} {p : PyData} (h : RowQ m p) (hm : m ≤ 40) : Sm 2000 2 p := by
  rcases h with ⟨es, rfl, h2, h3⟩ | ⟨h, _⟩
  · refine Sm.tup h3 ?_
    have := Nat.mul_le_mul_left (46 + 1) (Nat.le_trans h2 hm)
    omega
  · exact h.mono (by omega) (by omega)
theorem rowsQ_ok {m : Nat} {ys : List PyData} (h : ∀ y ∈ ys, RowQ m y) (hl : ys.length = 3) (hm : m ≤ 40) : Ok (.tuple ys) :=
  Ok.of (Sm.tup (n := 2000) (d := 2) (m := 7000) (fun y hy => rowQ_sm (h y hy) hm) (by rw [hl]; omega)) (by omega) (by omega)
theorem law_ends (ns : List Int) (hn : ns.length ≤ 63) : W (Fw.run gl Fs wf 30 29 [.dat (.list (ns.map .int))] []) (fun d _ => d = .dat (.bool true)) E0 := by
  refine w_run (d := F_law) rfl rfl ?_
  have done : ∀ (fz : Bool) (h : Gh), W (fin fz 0 (.dat (.bool true)) h) (fun d _ => d = .dat (.bool true)) E0 := fun fz h => by
    have e : fin fz 0 (.dat (.bool true)) h = .ok (.dat (.bool true)) (h.take 0) := by
      unfold fin
      rw [List.take_zero, if_pos (by rfl)]
    rw [e]
    exact W.okk rfl
  have l : line = 16777216 := rfl
  show W (exs gl (Fw.run gl Fs wf 29) wf F_law.body [some (.dat (.list (ns.map .int))), none, none, none, none, none, none, none] []) _ _
  refine x_set (w_call (ws_cons (w_var rfl (ws_cons (w_is is_int (ws_nil ?_))))))
  refine w_pool (nm1 := "_law_pool") (k := 0) rfl (by omega) rfl hn fun h0 hp0 hg0 _ => ?_
  show W (exs gl (Fw.run gl Fs wf 29) wf _ [some (.dat (.list (ns.map .int))), some (.ref 0), none, none, none, none, none, none] h0) _ _
  have hp0 : Pool h0 0 := hp0
  have lw0 : Low h0 := hg0.low
  refine x_set (w_call (ws_cons (w_var rfl (ws_nil ?_))))
  refine k_drawn (n := 25) hp0 lw0 fun c k e h1 R G1 L1 => ?_
  have sm := R.sm
  have ok : Ok (gnd c k e) := Ok.of sm (by omega) (by omega)
  have sd : said (.tuple [.tuple (c.map pairE), .tuple (k.map pairE), .tuple (e.map .str)]) = none := R.said
  have okT : Ok (.tuple [.tuple (c.map pairE), .tuple (k.map pairE), .tuple (e.map .str)]) := ok
  have s8 := said_c8 (show wrong (c.map pairE) (k.map pairE) (e.map .str) = none from sd)
  have lc := R.cl
  have lk := R.kl
  have le := R.el
  have S : ∀ (h : Gh) (fr : Fr), Low h → fr[2]? = some (some (.dat (gnd c k e))) → Is gl (Fw.run gl Fs wf 29) fr h (.call 18 (.cons (.var 2) .nil)) (rowsD (grown (c.map pairE) [[]])) := fun h fr lw hv =>
    is_call (ps := [gnd c k e]) (are_cons (is_var hv) are_nil) (r_law_states 28 _ _ _ h lw s8 (by simp; omega))
  refine x_set (w_is (S h1 _ G1.low rfl) ?_)
  show W (exs gl (Fw.run gl Fs wf 29) wf _ [some (.dat (.list (ns.map .int))), some (.ref 0), some (.dat (gnd c k e)), some (.dat (rowsD (grown (c.map pairE) [[]]))), none, none, none, none] h1) _ _
  have rig : ∀ (h : Gh) (fr : Fr) (i : Nat) (p : PyData), Low h → Ok p → fr[i]? = some (some (.dat p)) → Is gl (Fw.run gl Fs wf 29) fr h (.call 28 (.cons (.var i) .nil)) (.bool true) := fun h fr i p lw okp hv =>
    is_call (ps := [p]) (are_cons (is_var hv) are_nil) (r_right 22 p h lw okp)
  have rows_ok : reprOk (.tuple ((grown (c.map pairE) [[]]).map .tuple)) = true := by
    have gs := grown_sm (c.map pairE) [[]] 0 s8 (fun row hr => by rcases List.mem_singleton.mp hr with rfl; exact ⟨Nat.le_refl _, fun x hx => nomatch hx⟩)
    refine (Sm.tup (n := 61) (d := 1) (m := 4000) (fun q hq => ?_) ?_).repr (by omega) (by omega)
    · obtain ⟨row, hr, rfl⟩ := List.mem_map.mp hq
      obtain ⟨q1, q2⟩ := gs row hr
      refine Sm.tup q2 ?_
      have : row.length ≤ 4 := by simp at q1; omega
      omega
    · rw [List.length_map, grown_len]
      have := R.pr
      simp
      omega
  refine x_ifp (p := false) (is_or (p := false) (is_cmp (is_call (ps := [gnd c k e]) (are_cons (is_var rfl) are_nil) (r_fault 26 (gnd c k e) h1 G1.low ok)) is_non ?_) fun _ => is_or (p := false) (is_not (p := true) (rig h1 _ 2 _ G1.low ok rfl)) fun _ => is_cmp (is_bi (is_call (ps := [gnd c k e]) (are_cons (is_var rfl) are_nil) (r_states 23 _ _ _ h1 G1.low okT sd)) (repr_of rows_ok)) (is_bi (is_bi (p := rowsD (grown (c.map pairE) [[]])) (is_var rfl) rfl) (repr_of rows_ok)) ne_same) (fun h => nomatch h) fun _ => ?_
  · rw [show said (gnd c k e) = none from R.said]
    rfl
  refine x_nil (x_nxt ?_)
  have pn : (prod (c.map pairE) 1) = ((prN c : Nat) : Int) := by
    have := prod_pairE c 1
    rw [Nat.one_mul] at this
    exact this
  have ln : ((grown (c.map pairE) [[]]).map PyData.tuple).length = prN c := by rw [List.length_map, grown_len]; simp
  have int_ok : reprOk (.int ((prN c : Nat) : Int)) = true := by
    have := R.pr
    exact (sm_int (Nat.le_trans (show ((prN c : Nat) : Int).natAbs ≤ 64 by omega) (by decide))).repr (by omega) (by omega)
  have z_ok : reprOk (.tuple ((k.map pairE).map fun _ => PyData.int 0)) = true := by
    refine (Sm.tup (n := 14) (d := 0) (m := 100) (fun q hq => ?_) (by simp; omega)).repr (by omega) (by omega)
    obtain ⟨_, _, rfl⟩ := List.mem_map.mp hq
    exact sm_int (by decide)
  have mulz : binD .mul (.tuple [.int 0]) (.int ((k.map pairE).length : Nat)) = some (.tuple ((k.map pairE).map fun _ => PyData.int 0)) := by
    have cnd : [PyData.int 0] ≠ [] ∧ -(2 ^ 63 : Int) ≤ ((k.map pairE).length : Nat) ∧ (((k.map pairE).length : Nat) : Int) ≤ 1000 ∧ [PyData.int 0].length ≤ 1000 := by
      refine ⟨by simp, ?_, ?_, by simp⟩
      · rw [List.length_map]; omega
      · rw [List.length_map]; omega
    refine (if_pos cnd).trans ?_
    rw [Int.toNat_natCast, rep_zero]
    congr 2
    generalize (k.map pairE) = z
    induction z with
    | nil => rfl
    | cons a z ih => rw [List.length_cons, List.replicate_succ, ih, List.map_cons]
  refine x_ifp (p := false) (is_or (p := false) (is_cmp (is_bi (is_call (ps := [gnd c k e]) (are_cons (is_var rfl) are_nil) (r_many 23 _ _ _ h1 G1.low okT sd)) (by rw [pn]; exact repr_of int_ok)) (is_bi (is_bi (p := rowsD (grown (c.map pairE) [[]])) (r := .int ((prN c : Nat) : Int)) (is_var rfl) (by show some (PyData.int (((grown (c.map pairE) [[]]).map PyData.tuple).length : Nat)) = _; rw [ln])) (repr_of int_ok)) ne_same) fun _ =>
    is_cmp (is_bi (is_call (ps := [gnd c k e]) (are_cons (is_var rfl) are_nil) (r_nought 23 _ _ _ h1 G1.low okT sd)) (repr_of z_ok)) (is_bi (is_bin (p := .tuple [.int 0]) (q := .int ((k.map pairE).length : Nat)) (is_tup (ps := [.int 0]) rfl (show 1 ≤ line by decide)) (is_bi (p := .tuple (k.map pairE)) (is_ix (p := gnd c k e) (q := .int 1) (is_var rfl) is_int rfl) rfl) mulz) (repr_of z_ok)) ne_same) (fun h => nomatch h) fun _ => ?_
  refine x_nil (x_nxt ?_)
  refine x_for (W.of_eq (it_rng (j := 6) is_int (by omega)) ?_)
  refine w_for (w := none) (fun its fr h => ∃ x4 x5 x6, Gr 0 h0 h ∧ (∃ ks : List Nat, its = ks.map fun (k : Nat) => Itm.one (.dat (.int (k : Nat)))) ∧ fr = [some (.dat (.list (ns.map .int))), some (.ref 0), some (.dat (gnd c k e)), some (.dat (rowsD (grown (c.map pairE) [[]]))), x4, x5, x6, none]) (fun _ _ _ _ => True.intro) ?_ ?_ _ _ _ ⟨none, none, none, G1, ⟨_, rfl⟩, rfl⟩
  · rintro it rest fr h ⟨x4, x5, x6, Gh_, ⟨ks, ek⟩, rfl⟩
    cases ks with
    | nil => cases ek
    | cons j ks =>
    cases ek
    refine ⟨_, rfl, ?_⟩
    refine x_set (w_call (ws_cons (w_var rfl (ws_cons (w_var rfl (ws_cons (w_var rfl (ws_nil ?_))))))))
    refine k_spoilt (n := 25) (m := 4) R (xs := [.tuple (c.map pairE), .tuple (k.map pairE), .tuple (e.map .str)]) rfl (rowP_c R) (by omega) Gh_.pool Gh_.low fun ys h2 yl yq G2 _ => ?_
    have okY := rowsQ_ok yq yl (by omega)
    have G3 := Gh_.trans G2
    show W (exs gl (Fw.run gl Fs wf 29) wf _ [some (.dat (.list (ns.map .int))), some (.ref 0), some (.dat (gnd c k e)), some (.dat (rowsD (grown (c.map pairE) [[]]))), some (.dat (.int (j : Nat))), some (.dat (.tuple ys)), x6, none] h2) _ _
    refine x_ifp (is_not (p := true) (rig h2 _ 5 _ G3.low okY rfl)) (fun h => nomatch h) fun _ => x_nil (x_nxt ?_)
    have fl : Is gl (Fw.run gl Fs wf 29) [some (.dat (.list (ns.map .int))), some (.ref 0), some (.dat (gnd c k e)), some (.dat (rowsD (grown (c.map pairE) [[]]))), some (.dat (.int (j : Nat))), some (.dat (.tuple ys)), x6, none] h2
        (.lc false (.nm 6) (.seq (.var 5)) [6] (.so (.not (.bi (.isi (Str.ofString "tuple")) (.cons (.var 6) .nil)))) (.var 6)) (.list ((ys.filter fun p => !isTup p).map id)) :=
      is_lcF (xs := ys) (it := fun p => Itm.one (.dat p)) (fun p => !isTup p) id G3.low (it_tup0 (is_var rfl)) (by rw [yl]; decide) fun p hp zs => ⟨_, rfl, is_not (is_bi (is_var rfl) (isi_tup p)), fun _ => is_var rfl⟩
    have fe : cmpD .eq (.list ((ys.filter fun p => !isTup p).map id)) (.list []) = some ((ys.filter fun p => !isTup p).map id).isEmpty := by
      have sh : SeqAt.shaped (.list ((ys.filter fun p => !isTup p).map id)) = true := (Sm.lst (n := 2000) (d := 2) (m := 7000) (fun q hq => by
        rw [List.map_id] at hq
        exact rowQ_sm (yq q (List.mem_filter.mp hq).1) (by omega)) (by
        rw [List.map_id]
        have := List.length_filter_le (fun p => !isTup p) ys
        have z := Nat.mul_le_mul_left (2000 + 1) this
        omega)).shaped (by omega)
      have z : ∀ qs : List PyData, cmpD .eq (.list qs) (.list []) = if SeqAt.shaped (.list qs) && SeqAt.shaped (.list []) then some (PyData.eqv (.list qs) (.list [])) else none := fun _ => rfl
      rw [z, sh, show SeqAt.shaped (.list []) = true by decide]
      generalize (ys.filter fun p => !isTup p).map id = qs
      cases qs <;> rfl
    refine x_ifp (is_and (p := true) (is_bi (p := .tuple ys) (is_var rfl) rfl) fun _ => is_cmp fl (is_lst are_nil (Nat.zero_le _)) fe) (fun hall => ?_) fun _ => x_nil (x_nxt (x_nil ⟨_, _, _, G3, ⟨ks, rfl⟩, rfl⟩))
    have allT : ∀ y ∈ ys, RowP 13 y := by
      rw [Bool.true_and, List.map_id, List.isEmpty_iff] at hall
      intro y hy
      rcases yq y hy with h | ⟨_, h⟩
      · exact h
      · have : y ∈ ys.filter fun p => !isTup p := List.mem_filter.mpr ⟨hy, by rw [h]; rfl⟩
        rw [hall] at this
        cases this
    have e1 : (1 : Int) = ((1 : Nat) : Int) := rfl
    refine x_if (w_not (w_call (ws_cons (w_call (ws_cons (w_var rfl (ws_cons (w_var rfl (ws_cons (w_is (p := .tuple ([PyData.tuple (c.map pairE), .tuple (k.map pairE), .tuple (e.map .str)].take 1 ++ ys.drop 1)) (is_bin (p := .tuple ([PyData.tuple (c.map pairE), .tuple (k.map pairE), .tuple (e.map .str)].take 1)) (q := .tuple (ys.drop 1)) (is_sl (p := gnd c k e) (is_var rfl) io_no (io_so (i := ((1 : Nat) : Int)) is_int) sl_take) (is_sl (p := .tuple ys) (is_var rfl) (io_so (i := ((1 : Nat) : Int)) is_int) io_no sl_drop) (add_tup (by simp; omega))) (ws_nil ?_)))))))))))
    refine k_spoilt (n := 25) (m := 13) R (by simp; omega) (fun x hx => ?_) (by omega) G3.pool G3.low fun zs h4 zl zq G4 _ => ?_
    · rcases List.mem_append.mp hx with hx | hx
      · exact (rowP_c R x (List.mem_of_mem_take hx)).mono (by omega)
      · exact allT x (List.mem_of_mem_drop hx)
    · have okZ := rowsQ_ok zq zl (by omega)
      have G5 := G3.trans G4
      refine ws_nil (W.of_eq (r_right 22 (.tuple zs) h4 G5.low okZ) ⟨true, rfl, false, rfl, (fun h => nomatch h), fun _ => x_nil (x_nxt (x_nil (x_nxt (x_nil ⟨_, _, _, G5, ⟨ks, rfl⟩, rfl⟩))))⟩)
  · rintro fr h ⟨x4, x5, x6, Gh_, _, rfl⟩
    refine x_nxt ?_
    have src : Is gl (Fw.run gl Fs wf 29) [some (.dat (.list (ns.map .int))), some (.ref 0), some (.dat (gnd c k e)), some (.dat (rowsD (grown (c.map pairE) [[]]))), x4, x5, x6, none] h (.lst false (.cons .non (.cons (.tup .nil) (.cons (.sl (.var 2) .no (.so (.int 2))) (.cons (.bin .add (.var 2) (.tup (.cons (.tup .nil) .nil))) (.cons (.int 7) (.cons (.str (Str.ofString "ground")) (.cons (.tup (.cons (.var 2) .nil)) .nil))))))))
        (.list [.none, .tuple [], .tuple [.tuple (c.map pairE), .tuple (k.map pairE)], .tuple [.tuple (c.map pairE), .tuple (k.map pairE), .tuple (e.map .str), .tuple []], .int 7, str "ground", .tuple [gnd c k e]]) :=
      is_lst (ps := [.none, .tuple [], .tuple [.tuple (c.map pairE), .tuple (k.map pairE)], .tuple [.tuple (c.map pairE), .tuple (k.map pairE), .tuple (e.map .str), .tuple []], .int 7, str "ground", .tuple [gnd c k e]])
        (are_cons is_non (are_cons (is_tup are_nil (Nat.zero_le _)) (are_cons (is_sl (p := gnd c k e) (is_var rfl) io_no (io_so is_int) rfl) (are_cons (is_bin (p := gnd c k e) (q := .tuple [.tuple []]) (is_var rfl) (is_tup (ps := [.tuple []]) (are_cons (is_tup are_nil (Nat.zero_le _)) are_nil) (show 1 ≤ line by decide)) (add_tup (show 3 + 1 ≤ line by decide))) (are_cons is_int (are_cons is_str (are_cons (is_tup (ps := [gnd c k e]) (are_cons (is_var rfl) are_nil) (show 1 ≤ line by decide)) are_nil)))))))
        (show 7 ≤ line by decide)
    have r3 : ∀ x ∈ [PyData.tuple (c.map pairE), .tuple (k.map pairE), .tuple (e.map .str), .tuple []], Sm 300 2 x := fun x hx => by
      simp only [List.mem_cons, List.not_mem_nil, or_false] at hx
      rcases hx with rfl | rfl | rfl | rfl
      · exact Sm.tup R.entC (by simp; omega)
      · exact Sm.tup R.entK (by simp; omega)
      · exact Sm.tup R.entE (by simp; omega)
      · exact Sm.tup (n := 1) (d := 1) (fun _ h => nomatch h) (by simp)
    have okAll : ∀ x ∈ [PyData.none, .tuple [], .tuple [.tuple (c.map pairE), .tuple (k.map pairE)], .tuple [.tuple (c.map pairE), .tuple (k.map pairE), .tuple (e.map .str), .tuple []], .int 7, str "ground", .tuple [gnd c k e]], Ok x := fun x hx => by
      simp only [List.mem_cons, List.not_mem_nil, or_false] at hx
      rcases hx with rfl | rfl | rfl | rfl | rfl | rfl | rfl
      · exact Ok.of (Sm.non (n := 1) (d := 0) (by omega)) (by omega) (by omega)
      · exact Ok.of (Sm.tup (n := 1) (d := 1) (m := 1) (fun _ h => nomatch h) (by simp)) (by omega) (by omega)
      · exact Ok.of (Sm.tup (n := 300) (d := 2) (m := 2000) (fun q hq => r3 q (by simp only [List.mem_cons, List.not_mem_nil, or_false] at hq ⊢; rcases hq with h | h <;> simp [h])) (show (300 + 1) * 2 + 1 ≤ 2000 by decide)) (by omega) (by omega)
      · exact Ok.of (Sm.tup (n := 300) (d := 2) (m := 2000) r3 (show (300 + 1) * 4 + 1 ≤ 2000 by decide)) (by omega) (by omega)
      · exact Ok.of (sm_int (by decide)) (by omega) (by omega)
      · exact Ok.of (sm_lit (by simp)) (by omega) (by omega)
      · exact Ok.of (Sm.tup (n := 2000) (d := 3) (m := 3000) (fun q hq => by rcases List.mem_singleton.mp hq with rfl; exact sm) (show (2000 + 1) * 1 + 1 ≤ 3000 by decide)) (by omega) (by omega)
    refine x_for (W.of_eq (it_lst0 src) ?_)
    refine w_for (w := none) (fun its fr h' => h' = h ∧ ∃ x7, ∃ qs : List PyData, (∀ q ∈ qs, Ok q) ∧ its = (qs.map fun x => Itm.one (.dat x)) ∧ fr = [some (.dat (.list (ns.map .int))), some (.ref 0), some (.dat (gnd c k e)), some (.dat (rowsD (grown (c.map pairE) [[]]))), x4, x5, x6, x7]) (fun _ _ _ _ => True.intro) ?_ ?_ _ _ _ ⟨rfl, none, _, okAll, rfl, rfl⟩
    · rintro it rest fr h' ⟨rfl, x7, qs, hqs, eq_, rfl⟩
      cases qs with
      | nil => cases eq_
      | cons q qs =>
      cases eq_
      refine ⟨_, rfl, ?_⟩
      refine x_ifp (is_not (p := true) (rig h' _ 7 q Gh_.low (hqs q (List.mem_cons_self)) rfl)) (fun h => nomatch h) fun _ => x_nil (x_nxt (x_nil ⟨rfl, _, qs, fun z hz => hqs z (List.mem_cons_of_mem _ hz), rfl, rfl⟩))
    · rintro fr h' ⟨rfl, x7, qs, hqs, eq_, rfl⟩
      exact x_nxt (x_ret (w_is (rig h' _ 2 _ Gh_.low ok rfl) (done _ _)))
theorem holds : ∀ ns : List Int, ns.length ≤ 63 → (∀ z ∈ ns, Builtin.Int.intBits z ≤ 1048576) → ∃ g, Fw.run gl Fs 1 30 29 [.dat (.list (ns.map .int))] [] = .ok (.dat (.bool true)) g := by
  intro ns hn _
  obtain ⟨a, g, h1, rfl⟩ := (law_ends (wf := 1) ns hn).out
  exact ⟨g, h1⟩
end
end Law
end
set_option Elab.async false
set_option linter.all false
set_option maxRecDepth 100000
open PySem PySem.W PySem.Calls PyProof.Rows
set_option maxHeartbeats 0 in
theorem PySem.Challenge.cw_lawsleft_k00_grounds_made_and_refused_holds : PySem.Challenge.rw_lawsleft_k00_grounds_made_and_refused.Holds := by
  w_on; o_law
  refine HandSHeadRun.head_any (r := OpenLaw.row PySem.Challenge.rw_lawsleft_k00_grounds_made_and_refused) (q := view (OpenLaw.row PySem.Challenge.rw_lawsleft_k00_grounds_made_and_refused).prog [Law.lawAt]) (H := Law.hk) (ob := Law.ob) (M := 3000) (loose := Law.loose) (d := HandSHeadRun.topDef (OpenLaw.row PySem.Challenge.rw_lawsleft_k00_grounds_made_and_refused).prog Law.lawAt) (kwd := []) Law.ob_eq
    (by kernel_rfl) (fun s => by kernel_rfl) Law.run (by kernel_rfl) (by kernel_rfl) (by kernel_rfl) (by rfl) (by first | assumption | decide +kernel) (by decide +kernel) ⟨rfl, rfl, rfl, rfl, rfl, by decide +kernel⟩ ?hw ?hc
  case hw => w_witness2
  case hc => exact Law.law_by (wf := 1) (n := 30) ⟨rfl, by decide, by decide⟩ (by kernel_rfl) (by kernel_rfl) Law.holds
