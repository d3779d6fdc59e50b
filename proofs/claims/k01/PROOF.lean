import PyProof.Rows.All
import Wide.All
import OpenK.AllK
import Wide.FinOn
import HandS.ForMost
import HandS.Walk
import HandS.Zip
import HandS.Conv
import HandS.TupAny
import HandS.TupMul
import HandS.TupLe
import HandS.IsInst
import HandS.Wide
import HandS.Style
import HandS.Deep
import HandS.Flow
import KE.SortData
import KE.DataMinMax
import KE.DataFind
import HandS.Head0
import HandS.Head1
import HandS.Head2
import HandS.HeadEnd
import HandS.HeadHook1
import HandS.HeadHook2
import HandS.Defaults
import KE.KTupSum
import HandS.RaiseMore
import PyProof.EnumMake
import PyProof.Draws
import KE.GoesMore
import KE.GoesEnum
import PyProof.FitsInt
import PySem.Challenge.RW_legsandfares_k01_whole_partings_breaks_a
set_option Elab.async false
set_option linter.all false
set_option maxRecDepth 100000
set_option maxHeartbeats 0
/-! Ev: a small evaluator of the pure part of the language, over deep values and an own store. -/
namespace Ev
open PySem
/-- deep values: tuples by value, lists that are only read by value, lists and dicts by their number in the store -/
inductive D where
  | non | bl (b : Bool) | int (i : Int) | str (s : Str) | tup (xs : List D) | fl (xs : List D) | ref (n : Nat)
  deriving Inhabited
/-- kinds of dicts: keys intsD and texts; keys tuples of these -/
inductive Fl where
  | k | t
  deriving DecidableEq, Inhabited
/-- what stands in the store -/
inductive O where
  | lst (xs : List D)
  | dct (f : Fl) (kvs : List (D × D))
  deriving Inhabited
abbrev Sto := List O
abbrev SL := List (Option D)
inductive Exc where
  | mk (c : Nat) (args : List D)
inductive Res (α : Type) where
  | ok (a : α) (h : Sto)
  | exc (e : Exc) (h : Sto)
  | bad
  deriving Inhabited
def Res.bind {α β : Type} (r : Res α) (f : α → Sto → Res β) : Res β :=
  match r with
  | .ok a h => f a h
  | .exc e h => .exc e h
  | .bad => .bad
@[simp] theorem Res.bind_ok {α β : Type} (a : α) (h : Sto) (f : α → Sto → Res β) : (Res.ok a h).bind f = f a h := rfl
theorem Res.bind_bad {α β : Type} (f : α → Sto → Res β) : (Res.bad : Res α).bind f = .bad := rfl
theorem Res.bind_exc {α β : Type} (e : Exc) (h : Sto) (f : α → Sto → Res β) : (Res.exc e h : Res α).bind f = .exc e h := rfl
def Res.map {α β : Type} (r : Res α) (f : α → β) : Res β := r.bind fun a h => .ok (f a) h
mutual
/-- all references are below n -/
def D.clo (n : Nat) : D → Bool
  | .tup xs => D.clos n xs
  | .fl xs => D.clos n xs
  | .ref m => decide (m < n)
  | _ => true
def D.clos (n : Nat) : List D → Bool
  | [] => true
  | x :: xs => D.clo n x && D.clos n xs
end
def O.clo (n : Nat) : O → Bool
  | .lst xs => D.clos n xs
  | .dct _ kvs => D.clos n (kvs.map (·.1)) && D.clos n (kvs.map (·.2))
def Sto.clo (n : Nat) : Sto → Bool
  | [] => true
  | o :: r => O.clo n o && Sto.clo n r
/-- all references of a store are within it -/
def Sto.wf (h : Sto) : Prop := Sto.clo h.length h = true
/-- what was laid behind the first n objects is left, where nothing refers to it; a list or dict handed back is kept -/
def trunc (n : Nat) (d : D) (h : Sto) : Res D :=
  if Sto.clo n (h.take n) then
    if d.clo n then .ok d (h.take n)
    else match d with
      | .ref m => match h[m]? with
        | some o => if n ≤ m && O.clo n o then .ok (.ref n) (h.take n ++ [o]) else .ok d h
        | none => .ok d h
      | _ => .ok d h
  else .ok d h
/-- all of a list, or none -/
def allP {α β : Type} (f : α → Option β) : List α → Option (List β)
  | [] => some []
  | x :: xs => match f x, allP f xs with
    | some y, some ys => some (y :: ys)
    | _, _ => none
/-- a value as the library's data; the first number bounds the depth -/
def toP (h : Sto) : Nat → D → Option PyData
  | _, .non => some .none
  | _, .bl b => some (.bool b)
  | _, .int i => some (.int i)
  | _, .str s => some (.str s)
  | 0, .tup _ => none
  | 0, .fl _ => none
  | 0, .ref _ => none
  | k + 1, .tup xs => (allP (toP h k) xs).map .tuple
  | k + 1, .fl xs => (allP (toP h k) xs).map .list
  | k + 1, .ref m => match h[m]? with
    | some (.lst xs) => (allP (toP h k) xs).map .list
    | _ => none
def dP : Nat := 30
inductive BOp where
  | add | sub | mul | fdiv | mod | pow
inductive COp where
  | eq | ne | lt | le | gt | ge | isN | notN | mem | nin
/-- built-in calls -/
inductive Bi where
  | len | abs | max2 | min2 | int | isInt | isBool | isTup | isStr | isList | isDict | all | any | sum | tuple | list | sorted | minl | maxl | repr | str
/-- methods that read -/
inductive Me where
  | count | index | get1 | get2 | join | split
/-- methods that change an object -/
inductive Mu where
  | append | extend | pop | popAt
inductive Tg where
  | nm (i : Nat)
  | tup (ts : List Tg)
inductive X where
  | var (i : Nat)
  | cst (d : D)
  | glob (d : D)
  | tup (xs : List X)
  | lst (xs : List X)
  | bin (o : BOp) (a b : X)
  | neg (a : X)
  | not (a : X)
  | cmp (o : COp) (a b : X)
  | chain (o p : COp) (a b c : X)
  | and (a b : X)
  | or (a b : X)
  | one (a : X)
  | ife (c a b : X)
  | call (f : Nat) (as : List X)
  | bi (b : Bi) (as : List X)
  | me (m : Me) (o : X) (as : List X)
  | mu (m : Mu) (o : X) (as : List X)
  | idx (a i : X)
  | slice (a : X) (lo hi : Option X)
  | rev (a : X)
  | comp (elt : X) (tg : Tg) (it : X) (cond : Option X) (own : List Nat)
  | dnew (f : Fl)
  | range (as : List X)
  | zip (a b : X)
  | enum (a : X)
  | items (a : X)
  | vals (a : X)
  | trunc (a : X)
  | lrange (as : List X)
  | trange (as : List X)
inductive S where
  | asg (t : Tg) (e : X)
  | par2 (i j : Nat) (a b : X)
  | par3 (i j l : Nat) (a b c : X)
  | setIx (a i e : X)
  | aug (i : Nat) (o : BOp) (e : X)
  | augIx (a i : X) (o : BOp) (e : X)
  | ite (c : X) (t e : List S)
  | for (t : Tg) (it : X) (body : List S) (kill : List Nat)
  | while (c : X) (body : List S) (kill : List Nat)
  | ret (e : X)
  | retN
  | expr (e : X)
  | brk
  | cnt
  | pass
  | raise
/-- integer bounds that the rules ask -/
def mulOk (i j : Int) : Prop := (-(2 ^ 64) < i ∧ i < 2 ^ 64) ∨ (-(2 ^ 64) < j ∧ j < 2 ^ 64) ∨ (i.natAbs < 2 ^ 4000 ∧ j.natAbs < 2 ^ 4000)
def divOk (j : Int) : Prop := 0 < j ∧ j.natAbs < 2 ^ 4000
instance (i j : Int) : Decidable (mulOk i j) := by unfold mulOk; exact inferInstance
instance (j : Int) : Decidable (divOk j) := by unfold divOk; exact inferInstance
def rep {α : Type} (xs : List α) (k : Int) : List α := (List.replicate k.toNat xs).flatten
def binop (o : BOp) (x y : D) (h : Sto) : Res D :=
  match o, x, y with
  | .add, .int i, .int j => .ok (.int (i + j)) h
  | .add, .str a, .str b => if a.length + b.length ≤ sizeLine then .ok (.str (a ++ b)) h else .bad
  | .add, .tup a, .tup b => if a.length + b.length ≤ sizeLine then .ok (.tup (a ++ b)) h else .bad
  | .add, .ref m, .ref n => match h[m]?, h[n]? with
    | some (.lst a), some (.lst b) => if a.length + b.length ≤ sizeLine then .ok (.ref h.length) (h ++ [.lst (a ++ b)]) else .bad
    | _, _ => .bad
  | .sub, .int i, .int j => .ok (.int (i - j)) h
  | .mul, .int i, .int j => if mulOk i j then .ok (.int (i * j)) h else .bad
  | .mul, .tup a, .int k => if -(2 ^ 63) ≤ k ∧ k < 2 ^ 63 ∧ a.length * k.toNat ≤ sizeLine then .ok (.tup (rep a k)) h else .bad
  | .mul, .ref m, .int k => match h[m]? with
    | some (.lst a) => if -(2 ^ 63) ≤ k ∧ k < 2 ^ 63 ∧ a.length * k.toNat ≤ sizeLine then .ok (.ref h.length) (h ++ [.lst (rep a k)]) else .bad
    | _ => .bad
  | .fdiv, .int i, .int j => if divOk j then .ok (.int (i / j)) h else .bad
  | .mod, .int i, .int j => if 0 < j then .ok (.int (i % j)) h else .bad
  | .pow, .int i, .int j => if 0 ≤ j ∧ j ≤ 1000000 ∧ i.natAbs < 2 ^ 64 then .ok (.int (i ^ j.toNat)) h else .bad
  | _, _, _ => .bad
/-- the items of a sequence -/
@[simp] def seqOf (h : Sto) : D → Option (List D)
  | .tup xs => some xs
  | .fl xs => some xs
  | .ref m => match h[m]? with
    | some (.lst xs) => some xs
    | _ => none
  | _ => none
def cmpop (o : COp) (x y : D) (h : Sto) : Res D :=
  match o with
  | .eq => match toP h dP x, toP h dP y with
    | some a, some b => if a.canLay0 && b.canLay0 then .ok (.bl (PyData.eqv a b)) h else .bad
    | _, _ => .bad
  | .ne => match toP h dP x, toP h dP y with
    | some a, some b => if a.canLay0 && b.canLay0 then .ok (.bl (!PyData.eqv a b)) h else .bad
    | _, _ => .bad
  | .lt => match x, y with
    | .int i, .int j => .ok (.bl (decide (i < j))) h
    | _, _ => match toP h dP x, toP h dP y with
      | some (.tuple a), some (.tuple b) => if PySem.W.alikeAll a b then .ok (.bl (PySem.W.dataLt (.tuple a) (.tuple b))) h else .bad
      | _, _ => .bad
  | .le => match x, y with
    | .int i, .int j => .ok (.bl (decide (i ≤ j))) h
    | _, _ => .bad
  | .gt => match x, y with
    | .int i, .int j => .ok (.bl (decide (j < i))) h
    | _, _ => .bad
  | .ge => match x, y with
    | .int i, .int j => .ok (.bl (decide (j ≤ i))) h
    | _, _ => .bad
  | .isN => match x, y with
    | .non, .non => .ok (.bl true) h
    | _, .non => .ok (.bl false) h
    | _, _ => .bad
  | .notN => match x, y with
    | .non, .non => .ok (.bl false) h
    | _, .non => .ok (.bl true) h
    | _, _ => .bad
  | .mem => match y with
    | _ => match seqOf h y, toP h dP x with
      | some ys, some a => match allP (toP h dP) ys with
        | some bs => if a.canLay0 && PyData.canLayAll0 bs then .ok (.bl (bs.any fun b => PyData.eqv b a)) h else .bad
        | none => .bad
      | _, _ => .bad
  | .nin => match y with
    | _ => match seqOf h y, toP h dP x with
      | some ys, some a => match allP (toP h dP) ys with
        | some bs => if a.canLay0 && PyData.canLayAll0 bs then .ok (.bl (!bs.any fun b => PyData.eqv b a)) h else .bad
        | none => .bad
      | _, _ => .bad
/-- a value's truth -/
@[simp] def truth (h : Sto) : D → Option Bool
  | .non => some false
  | .bl b => some b
  | .int i => some (i != 0)
  | .tup xs => some (!xs.isEmpty)
  | .ref m => match h[m]? with
    | some (.lst xs) => some (!xs.isEmpty)
    | _ => none
  | .fl xs => some (!xs.isEmpty)
  | .str _ => none
def allBl : List D → Option (List Bool) := allP fun | .bl b => some b | _ => none
def allInt : List D → Option (List Int) := allP fun | .int i => some i | _ => none
def allStr : List D → Option (List Str) := allP fun | .str i => some i | _ => none
def enc (h : Sto) (d : D) : PyData := (toP h dP d).getD .none
def alikeB (ps : List PyData) : Bool := ps.all fun a => ps.all fun b => PySem.W.alike a b
def sortableB (ps : List PyData) : Bool := (ps.all fun p => match p with | .tuple (_ :: _) => true | _ => false) || (ps.all fun p => match p with | .tuple _ => false | .none => false | _ => true)
/-- the items in Python's order, by the library's order of data -/
def sortD (h : Sto) (xs : List D) : Option (List D) :=
  match allP (toP h dP) xs with
  | none => none
  | some ps => if alikeB ps && sortableB ps && decide (xs.length ≤ sizeLine) then some (xs.mergeSort (PySem.W.dataLe false (enc h))) else none
mutual
/-- data without lists, back -/
def ofP : PyData → D
  | .none => .non
  | .bool b => .bl b
  | .int i => .int i
  | .str s => .str s
  | .tuple xs => .tup (ofPs xs)
  | .list xs => .fl (ofPs xs)
  | .dict _ => .non
def ofPs : List PyData → List D
  | [] => []
  | x :: xs => ofP x :: ofPs xs
end
def noNone (ps : List PyData) : Bool := ps.all fun p => match p with | .none => false | _ => true
/-- a list of the store -/
def lstOf (h : Sto) : D → Option (List D)
  | .fl xs => some xs
  | .ref m => match h[m]? with
    | some (.lst xs) => some xs
    | _ => none
  | _ => none
@[simp] def biop (b : Bi) (ds : List D) (h : Sto) : Res D :=
  match b, ds with
  | .len, [.tup xs] => .ok (.int xs.length) h
  | .len, [.fl xs] => .ok (.int xs.length) h
  | .len, [.str s] => if s.length ≤ sizeLine then .ok (.int s.length) h else .bad
  | .len, [.ref m] => match h[m]? with
    | some (.lst xs) => .ok (.int xs.length) h
    | some (.dct _ kvs) => .ok (.int kvs.length) h
    | none => .bad
  | .abs, [.int i] => .ok (.int (if i < 0 then -i else i)) h
  | .max2, [.int i, .int j] => .ok (.int (if j > i then j else i)) h
  | .min2, [.int i, .int j] => .ok (.int (if j < i then j else i)) h
  | .int, [.int i] => .ok (.int i) h
  | .int, [.bl k] => .ok (.int (if k then 1 else 0)) h
  | .isInt, [x] => .ok (.bl (match x with | .int _ => true | .bl _ => true | _ => false)) h
  | .isBool, [x] => .ok (.bl (match x with | .bl _ => true | _ => false)) h
  | .isTup, [x] => .ok (.bl (match x with | .tup _ => true | _ => false)) h
  | .isStr, [x] => .ok (.bl (match x with | .str _ => true | _ => false)) h
  | .isList, [x] => .ok (.bl (match x with | .fl _ => true | .ref m => (match h[m]? with | some (.lst _) => true | _ => false) | _ => false)) h
  | .isDict, [x] => .ok (.bl (match x with | .ref m => (match h[m]? with | some (.dct _ _) => true | _ => false) | _ => false)) h
  | .all, [x] => match (lstOf h x).bind allBl with
    | some bs => .ok (.bl (bs.all id)) h
    | none => .bad
  | .any, [x] => match (lstOf h x).bind allBl with
    | some bs => .ok (.bl (bs.any id)) h
    | none => .bad
  | .sum, [x] => match (seqOf h x).bind allInt with
    | some is => .ok (.int is.sum) h
    | none => .bad
  | .tuple, [x] => match seqOf h x with
    | some xs => .ok (.tup xs) h
    | none => .bad
  | .list, [x] => match seqOf h x with
    | some xs => .ok (.ref h.length) (h ++ [.lst xs])
    | none => .bad
  | .sorted, [x] => match (lstOf h x).bind (sortD h) with
    | some xs => .ok (.ref h.length) (h ++ [.lst xs])
    | none => .bad
  | .minl, [x] => match seqOf h x with
    | some xs => match allP (toP h dP) xs with
      | some (p :: ps) => if alikeB (p :: ps) && noNone (p :: ps) && D.clos 0 xs then .ok (ofP (PySem.W.minD p ps)) h else .bad
      | _ => .bad
    | none => .bad
  | .maxl, [x] => match seqOf h x with
    | some xs => match allP (toP h dP) xs with
      | some (p :: ps) => if alikeB (p :: ps) && noNone (p :: ps) && D.clos 0 xs then .ok (ofP (PySem.W.maxD p ps)) h else .bad
      | _ => .bad
    | none => .bad
  | .repr, [x] => match toP h dP x with
    | some p => if p.showable && decide (p.shown.length ≤ sizeLine) then .ok (.str p.shown) h else .bad
    | none => .bad
  | .str, [.int i] => if i.natAbs.log2 < 1920 then .ok (.str (toString i)) h else .bad
  | .str, [.str s] => .ok (.str s) h
  | _, _ => .bad
/-- the first place of an equal item -/
def placeOf (a : PyData) (bs : List PyData) : Option Nat := bs.findIdx? fun b => PyData.eqv b a
def meop (m : Me) (o : D) (ds : List D) (h : Sto) : Res D :=
  match m, ds with
  | .count, [y] => match lstOf h o, toP h dP y with
    | some xs, some a => match allP (toP h dP) xs with
      | some bs => if PyData.plainAll bs && a.plain then .ok (.int (bs.countP fun b => PyData.eqv b a)) h else .bad
      | none => .bad
    | _, _ => .bad
  | .index, [y] => match lstOf h o, toP h dP y with
    | some xs, some a => match allP (toP h dP) xs with
      | some bs => if PyData.canLayAll0 bs && a.canLay0 then match placeOf a bs with
        | some j => .ok (.int j) h
        | none => .bad
        else .bad
      | none => .bad
    | _, _ => .bad
  | _, _ => .bad
/-- the kind of object that a method is of -/
inductive Kd where
  | list | str | dict
def Me.kd : Me → Kd
  | .count => .list | .index => .list | .get1 => .dict | .get2 => .dict | .join => .str | .split => .str
def Kd.ok (h : Sto) (x : D) : Kd → Bool
  | .list => (lstOf h x).isSome
  | .str => match x with | .str _ => true | _ => false
  | .dict => match x with | .ref m => (match h[m]? with | some (.dct _ _) => true | _ => false) | _ => false
def muop (m : Mu) (o : D) (ds : List D) (h : Sto) : Res D :=
  match o with
  | .ref n => match h[n]? with
    | some (.lst xs) => match m, ds with
      | .append, [y] => if xs.length < sizeLine then .ok .non (h.set n (.lst (xs ++ [y]))) else .bad
      | .extend, [.ref m] => match h[m]? with
        | some (.lst ys) => if xs.length + ys.length ≤ sizeLine then .ok .non (h.set n (.lst (xs ++ ys))) else .bad
        | _ => .bad
      | .pop, [] => match xs.getLast? with
        | some y => .ok y (h.set n (.lst xs.dropLast))
        | none => .bad
      | .popAt, [.int i] => if 0 ≤ i ∧ i < 2 ^ 63 then match xs[i.toNat]? with
        | some y => .ok y (h.set n (.lst (xs.eraseIdx i.toNat)))
        | none => .bad
        else .bad
      | _, _ => .bad
    | _ => .bad
  | _ => .bad
/-- the item at a place, counted from the end below 0 -/
@[simp] def idxop (x i : D) (h : Sto) : Res D :=
  match i with
  | .int i => match seqOf h x with
    | some xs => match L2.atI xs i with
      | some d => .ok d h
      | none => .bad
    | none => .bad
  | _ => .bad
def cutD (xs : List D) (lo hi : Option Int) : List D := (xs.drop (HT.sIx xs.length 0 lo)).take (HT.sIx xs.length xs.length hi - HT.sIx xs.length 0 lo)
def sliceop (x : D) (lo hi : Option Int) (h : Sto) : Res D :=
  match x with
  | .tup xs => .ok (.tup (cutD xs lo hi)) h
  | _ => match seqOf h x with
    | some xs => .ok (.ref h.length) (h ++ [.lst (cutD xs lo hi)])
    | none => .bad
def revop (x : D) (h : Sto) : Res D :=
  match x with
  | .tup xs => .ok (.tup xs.reverse) h
  | _ => match seqOf h x with
    | some xs => .ok (.ref h.length) (h ++ [.lst xs.reverse])
    | none => .bad
/-- what must stand as it is while something is walked -/
abbrev Chk := List (Nat × O)
def chkOk : Chk → Sto → Prop
  | [], _ => True
  | (n, o) :: r, h => h[n]? = some o ∧ chkOk r h
/-- a list that nothing else refers to is taken off the store's end -/
def itemsOf (n : Nat) (d : D) (h : Sto) : Res (List D × Chk) :=
  match d with
  | .tup xs => .ok (xs, []) h
  | .fl xs => .ok (xs, []) h
  | .ref m => match h[m]? with
    | some (.lst xs) => if n ≤ m && decide (m + 1 = h.length) && Sto.clo m h.dropLast && D.clos m xs then .ok (xs, []) h.dropLast else .ok (xs, [(m, .lst xs)]) h
    | _ => .bad
  | _ => .bad
def assign : Tg → D → SL → Option SL
  | .nm i, d, sl => some (sl.set i (some d))
  | .tup ts, .tup ds, sl => assigns ts ds sl
  | .tup _, _, _ => none
where assigns : List Tg → List D → SL → Option SL
  | [], [], sl => some sl
  | t :: ts, d :: ds, sl => match assign t d sl with
    | some sl' => assigns ts ds sl'
    | none => none
  | _, _, _ => none
def kills : List Nat → SL → SL
  | [], sl => sl
  | i :: r, sl => kills r (sl.set i none)
/-- the bounds of a range of step 1 -/
def rngOf : List D → Option (Int × Int)
  | [.int j] => if -(2 ^ 62) ≤ j ∧ j ≤ 16777216 then some (0, j) else none
  | [.int i, .int j] => if 0 ≤ i ∧ i ≤ 16777216 ∧ 0 ≤ j ∧ j ≤ 16777216 then some (i, j) else none
  | _ => none
/-- the object that a walk of a value must find unchanged -/
def chkOf (h : Sto) : D → Chk
  | .ref m => match h[m]? with
    | some o => [(m, o)]
    | none => []
  | _ => []
def zipop (x y : D) (h : Sto) : Res (List D × Chk) :=
  match x, y with
  | .tup xs, .tup ys => .ok ((xs.zip ys).map fun p => .tup [p.1, p.2], []) h
  | _, _ => match lstOf h x, lstOf h y with
    | some xs, some ys => .ok ((xs.zip ys).map fun p => .tup [p.1, p.2], chkOf h x ++ chkOf h y) h
    | _, _ => .bad
def pairsFrom : Nat → List D → List D
  | _, [] => []
  | i, x :: xs => .tup [.int (i : Nat), x] :: pairsFrom (i + 1) xs
def enumop (x : D) (h : Sto) : Res (List D × Chk) :=
  match seqOf h x with
  | some xs => .ok (pairsFrom 0 xs, chkOf h x) h
  | none => .bad
abbrev CallT := Nat → List D → Sto → Res D
open Classical in
noncomputable def compLoop (f : D → Sto → Res (Option D)) (ch : Chk) : List D → Sto → Res (List D)
  | [], h => .ok [] h
  | x :: xs, h => (f x h).bind fun y h1 => if chkOk ch h1 then (compLoop f ch xs h1).bind fun ys h2 => .ok (match y with | some y => y :: ys | none => ys) h2 else .bad
def intsD (lo : Int) (n : Nat) : List D := (List.range n).map fun i => .int (lo + (i : Nat))
mutual
noncomputable def ev (c : CallT) : X → SL → Sto → Res D
  | .var i, sl, h => match sl[i]? with
    | some (some d) => .ok d h
    | _ => .bad
  | .cst d, _, h => .ok d h
  | .glob d, _, h => .ok d h
  | .tup xs, sl, h => (evs c xs sl h).bind fun ds h => .ok (.tup ds) h
  | .lst xs, sl, h => (evs c xs sl h).bind fun ds h => .ok (.ref h.length) (h ++ [.lst ds])
  | .bin o a b, sl, h => (ev c a sl h).bind fun x h => (ev c b sl h).bind fun y h => binop o x y h
  | .neg a, sl, h => (ev c a sl h).bind fun x h => match x with
    | .int i => .ok (.int (-i)) h
    | _ => .bad
  | .not a, sl, h => (ev c a sl h).bind fun x h => match truth h x with
    | some b => .ok (.bl (!b)) h
    | none => .bad
  | .cmp o a b, sl, h => (ev c a sl h).bind fun x h => (ev c b sl h).bind fun y h => cmpop o x y h
  | .chain o p a b e, sl, h => (ev c a sl h).bind fun x h => (ev c b sl h).bind fun y h => (cmpop o x y h).bind fun z h => match z with
    | .bl true => (ev c e sl h).bind fun w h => cmpop p y w h
    | .bl false => .ok (.bl false) h
    | _ => .bad
  | .and a b, sl, h => (ev c a sl h).bind fun x h => match x with
    | .bl true => ev c b sl h
    | .bl false => .ok (.bl false) h
    | _ => .bad
  | .or a b, sl, h => (ev c a sl h).bind fun x h => match x with
    | .bl true => .ok (.bl true) h
    | .bl false => ev c b sl h
    | _ => .bad
  | .one a, sl, h => ev c a sl h
  | .ife e a b, sl, h => (ev c e sl h).bind fun x h => match truth h x with
    | some true => ev c a sl h
    | some false => ev c b sl h
    | none => .bad
  | .call f as, sl, h => (evs c as sl h).bind fun ds h => c f ds h
  | .bi b as, sl, h => (evs c as sl h).bind fun ds h => biop b ds h
  | .me m o as, sl, h => (ev c o sl h).bind fun x h => if m.kd.ok h x then (evs c as sl h).bind fun ds h => meop m x ds h else .bad
  | .mu m o as, sl, h => (ev c o sl h).bind fun x h => if Kd.list.ok h x then (evs c as sl h).bind fun ds h => muop m x ds h else .bad
  | .idx a i, sl, h => (ev c a sl h).bind fun x h => (ev c i sl h).bind fun y h => idxop x y h
  | .slice a lo hi, sl, h => (ev c a sl h).bind fun x h => (evo c lo sl h).bind fun l h => (evo c hi sl h).bind fun u h => sliceop x l u h
  | .rev a, sl, h => (ev c a sl h).bind fun x h => revop x h
  | .comp elt tg it cond own, sl, h => (evI c it sl h).bind fun xc h => if sizeLine < xc.1.length then .bad else (compLoop (fun x h => match assign tg x (kills own sl) with
      | some sl' => (evc c cond sl' h).bind fun b h => if b then (ev c elt sl' h).bind fun y h => .ok (some y) h else .ok none h
      | none => .bad) xc.2 xc.1 h).bind fun ys h => .ok (.ref h.length) (h ++ [.lst ys])
  | .dnew f, _, h => .ok (.ref h.length) (h ++ [.dct f []])
  | .range _, _, _ => .bad
  | .zip _ _, _, _ => .bad
  | .enum _, _, _ => .bad
  | .items _, _, _ => .bad
  | .vals _, _, _ => .bad
  | .trunc a, sl, h => (ev c a sl h).bind fun d h' => trunc h.length d h'
  | .lrange as, sl, h => (evs c as sl h).bind fun ds h => match rngOf ds with
    | some (i, j) => .ok (.ref h.length) (h ++ [.lst (intsD i (j - i).toNat)])
    | none => .bad
  | .trange as, sl, h => (evs c as sl h).bind fun ds h => match rngOf ds with
    | some (i, j) => .ok (.tup (intsD i (j - i).toNat)) h
    | none => .bad
noncomputable def evs (c : CallT) : List X → SL → Sto → Res (List D)
  | [], _, h => .ok [] h
  | x :: xs, sl, h => (ev c x sl h).bind fun d h => (evs c xs sl h).bind fun ds h => .ok (d :: ds) h
/-- an optional part of a slice -/
noncomputable def evo (c : CallT) : Option X → SL → Sto → Res (Option Int)
  | none, _, h => .ok none h
  | some x, sl, h => (ev c x sl h).bind fun d h => match d with
    | .int i => .ok (some i) h
    | _ => .bad
/-- a comprehension's condition -/
noncomputable def evc (c : CallT) : Option X → SL → Sto → Res Bool
  | none, _, h => .ok true h
  | some x, sl, h => (ev c x sl h).bind fun d h => match truth h d with
    | some b => .ok b h
    | none => .bad
/-- what is walked: its items, what must stay as it is meanwhile -/
noncomputable def evI (c : CallT) : X → SL → Sto → Res (List D × Chk)
  | .range as, sl, h => (evs c as sl h).bind fun ds h => match ds with
    | [.int j] => if -(2 ^ 62) ≤ j ∧ j ≤ sizeLine then .ok (intsD 0 j.toNat, []) h else .bad
    | [.int i, .int j] => if -(2 ^ 62) ≤ i ∧ i < 2 ^ 62 ∧ -(2 ^ 62) ≤ j ∧ j < 2 ^ 62 ∧ j - i ≤ sizeLine then .ok (intsD i (j - i).toNat, []) h else .bad
    | [.int i, .int j, .int k] => if k = -1 ∧ -(2 ^ 61) ≤ i ∧ i < 2 ^ 61 ∧ -(2 ^ 61) ≤ j ∧ j < 2 ^ 61 ∧ i - j ≤ sizeLine then .ok ((List.range (i - j).toNat).map fun n => .int (i - (n : Nat)), []) h else .bad
    | _ => .bad
  | .zip a b, sl, h => (ev c a sl h).bind fun x h => (ev c b sl h).bind fun y h => zipop x y h
  | .enum a, sl, h => (ev c a sl h).bind fun x h => enumop x h
  | .items _, _, _ => .bad
  | .vals _, _, _ => .bad
  | x, sl, h => (ev c x sl h).bind fun d h' => itemsOf h.length d h'
end
/-! ### statements -/
inductive Out where
  | nx (sl : SL)
  | brk (sl : SL)
  | cnt (sl : SL)
  | ret (d : D)
def SL.clo (n : Nat) : SL → Bool
  | [] => true
  | none :: r => SL.clo n r
  | some d :: r => d.clo n && SL.clo n r
/-- a turn's end: names that nobody reads again are forgotten, and what was laid meanwhile where nothing refers to it -/
def turnEnd (n : Nat) (kill : List Nat) (sl : SL) (h : Sto) : SL × Sto :=
  if SL.clo n (kills kill sl) && Sto.clo n (h.take n) then (kills kill sl, h.take n) else (kills kill sl, h)
open Classical in
noncomputable def forLoop (f : D → SL → Sto → Res Out) (ch : Chk) (kill : List Nat) (n : Nat) : List D → SL → Sto → Res Out
  | [], sl, h => .ok (.nx sl) h
  | x :: xs, sl, h => (f x sl h).bind fun o h1 => match o with
    | .nx sl1 => if chkOk ch (turnEnd n kill sl1 h1).2 then forLoop f ch kill n xs (turnEnd n kill sl1 h1).1 (turnEnd n kill sl1 h1).2 else .bad
    | .cnt sl1 => if chkOk ch (turnEnd n kill sl1 h1).2 then forLoop f ch kill n xs (turnEnd n kill sl1 h1).1 (turnEnd n kill sl1 h1).2 else .bad
    | .brk sl1 => .ok (.nx sl1) h1
    | .ret d => .ok (.ret d) h1
def whileN (cond : SL → Sto → Res Bool) (body : SL → Sto → Res Out) (kill : List Nat) (n : Nat) : Nat → SL → Sto → Res Out
  | 0, _, _ => .bad
  | k + 1, sl, h => (cond sl h).bind fun b h1 => if b then (body sl h1).bind fun o h2 => match o with
      | .nx sl1 => whileN cond body kill n k (turnEnd n kill sl1 h2).1 (turnEnd n kill sl1 h2).2
      | .cnt sl1 => whileN cond body kill n k (turnEnd n kill sl1 h2).1 (turnEnd n kill sl1 h2).2
      | .brk sl1 => .ok (.nx sl1) h2
      | .ret d => .ok (.ret d) h2
    else .ok (.nx sl) h1
open Classical in
/-- a while loop, where it ends -/
noncomputable def whileLim (cond : SL → Sto → Res Bool) (body : SL → Sto → Res Out) (kill : List Nat) (n : Nat) (sl : SL) (h : Sto) : Res Out :=
  if e : ∃ k, whileN cond body kill n k sl h ≠ .bad then whileN cond body kill n e.choose sl h else .bad
def augop (o : BOp) (x y : D) (h : Sto) : Res D :=
  match o, x, y with
  | .add, .int i, .int j => .ok (.int (i + j)) h
  | .sub, .int i, .int j => .ok (.int (i - j)) h
  | _, _, _ => .bad
/-- x[i] = v -/
@[simp] def setop (x i v : D) (h : Sto) : Res Unit :=
  match x, i with
  | .ref n, .int k => match h[n]? with
    | some (.lst xs) => match L2.ixN xs.length k with
      | some j => .ok () (h.set n (.lst (xs.set j v)))
      | none => .bad
    | _ => .bad
  | _, _ => .bad
mutual
noncomputable def exs (c : CallT) : S → SL → Sto → Res Out
  | .asg t e, sl, h => (ev c e sl h).bind fun d h => match assign t d sl with
    | some sl' => .ok (.nx sl') h
    | none => .bad
  | .par2 i j a b, sl, h => (ev c a sl h).bind fun x h => (ev c b sl h).bind fun y h => .ok (.nx ((sl.set i (some x)).set j (some y))) h
  | .par3 i j l a b e, sl, h => (ev c a sl h).bind fun x h => (ev c b sl h).bind fun y h => (ev c e sl h).bind fun z h => .ok (.nx (((sl.set i (some x)).set j (some y)).set l (some z))) h
  | .setIx a i e, sl, h => (ev c e sl h).bind fun v h => (ev c a sl h).bind fun x h => (ev c i sl h).bind fun y h => (setop x y v h).bind fun _ h => .ok (.nx sl) h
  | .aug i o e, sl, h => match sl[i]? with
    | some (some x) => (ev c e sl h).bind fun y h => (augop o x y h).bind fun z h => .ok (.nx (sl.set i (some z))) h
    | _ => .bad
  | .augIx a i o e, sl, h => (ev c a sl h).bind fun x h => (ev c i sl h).bind fun y h => (idxop x y h).bind fun z h => (ev c e sl h).bind fun w h => (augop o z w h).bind fun v h => (setop x y v h).bind fun _ h => .ok (.nx sl) h
  | .ite e t u, sl, h => (ev c e sl h).bind fun d h => match truth h d with
    | some true => exss c t sl h
    | some false => exss c u sl h
    | none => .bad
  | .for t it body kill, sl, h => (evI c it sl h).bind fun xc h => forLoop (fun x sl h => match assign t x sl with
      | some sl' => exss c body sl' h
      | none => .bad) xc.2 kill h.length xc.1 sl h
  | .while e body kill, sl, h => whileLim (fun sl h => (ev c e sl h).bind fun d h => match truth h d with
      | some b => .ok b h
      | none => .bad) (fun sl h => exss c body sl h) kill h.length sl h
  | .ret e, sl, h => (ev c e sl h).bind fun d h => .ok (.ret d) h
  | .retN, _, h => .ok (.ret .non) h
  | .expr e, sl, h => (ev c e sl h).bind fun _ h => .ok (.nx sl) h
  | .brk, sl, h => .ok (.brk sl) h
  | .cnt, sl, h => .ok (.cnt sl) h
  | .pass, sl, h => .ok (.nx sl) h
  | .raise, _, _ => .bad
noncomputable def exss (c : CallT) : List S → SL → Sto → Res Out
  | [], sl, h => .ok (.nx sl) h
  | s :: r, sl, h => (exs c s sl h).bind fun o h => match o with
    | .nx sl' => exss c r sl' h
    | .brk sl' => .ok (.brk sl') h
    | .cnt sl' => .ok (.cnt sl') h
    | .ret d => .ok (.ret d) h
end
structure Fn where
  np : Nat
  ns : Nat
  body : List S
  deriving Inhabited
/-- a def's call in a store -/
noncomputable def runF (c : CallT) (f : Fn) (ds : List D) (h : Sto) : Res D :=
  if ds.length = f.np then (exss c f.body (ds.map some ++ List.replicate (f.ns - f.np) none) h).bind fun o h' => match o with
    | .ret d => .ok d h'
    | .nx _ => .ok .non h'
    | _ => .bad
  else .bad
/-- what a call that was handed no object of the store leaves there -/
def outOf (h : Sto) (d : D) (h' : Sto) : Option (D × Sto) :=
  if d.clo 0 then some (d, h) else match d with
    | .ref m => match h'[m]? with
      | some o => if O.clo 0 o then some (.ref h.length, h ++ [o]) else none
      | none => none
    | _ => none
/-- a call that is handed no object, in a store of its own -/
noncomputable def ownF (c : CallT) (f : Fn) (ds : List D) (h : Sto) : Option (D × Sto) :=
  if D.clos 0 ds then match runF c f ds [] with
    | .ok d h' => outOf h d h'
    | _ => none
  else none
/-- calls, k deep: a call that is handed no object runs in a store of its own -/
noncomputable def callN (fns : List Fn) : Nat → CallT
  | 0, _, _, _ => .bad
  | k + 1, f, ds, h => match fns[f]? with
    | some fn => match ownF (callN fns k) fn ds h with
      | some p => .ok p.1 p.2
      | none => (runF (callN fns k) fn ds h).bind fun d h' => trunc h.length d h'
    | none => .bad
end Ev
/-! Ev: what the deep values and the store stand for in the layer's heap. -/
namespace Ev
open PySem PySem.Spec PyProof.Rows L2
/-- a list that nobody changes -/
def SqF (K : PySem.W.Frag) (H : Hp) (a : Addr) (xs : List V) : Prop :=
  (∃ o, H a = some (.frz o (.lst xs))) ∨
    ∃ (o : Obj) (its : Array Value) (n : Nat), K.lookup a = some o ∧ o.cls = .type "list" ∧ o.dict = none ∧ o.data = .seq its n ∧ its.size ≤ sizeLine ∧ Vals xs its.toList
theorem SqF.l {K : PySem.W.Frag} {H : Hp} {a : Addr} {xs : List V} (h : SqF K H a xs) : SqL K H a xs := by
  rcases h with h | h
  · exact .inl (.inr h)
  · exact .inr h
mutual
inductive RD (K : PySem.W.Frag) (H : Hp) (ρ : List Addr) : D → V → Prop
  | non : RD K H ρ .non .non
  | bl (b : Bool) : RD K H ρ (.bl b) (.bl b)
  | int (i : Int) : RD K H ρ (.int i) (.int i)
  | str (s : Str) : RD K H ρ (.str s) (.str s)
  | tup {a : Addr} {xs : List D} {vs : List V} : SqT K H a vs → RDs K H ρ xs vs → RD K H ρ (.tup xs) (.ref a)
  | fl {a : Addr} {xs : List D} {vs : List V} : SqF K H a vs → RDs K H ρ xs vs → RD K H ρ (.fl xs) (.ref a)
  | ref {n : Nat} {a : Addr} : ρ[n]? = some a → RD K H ρ (.ref n) (.ref a)
inductive RDs (K : PySem.W.Frag) (H : Hp) (ρ : List Addr) : List D → List V → Prop
  | nil : RDs K H ρ [] []
  | cons {d : D} {v : V} {ds : List D} {vs : List V} : RD K H ρ d v → RDs K H ρ ds vs → RDs K H ρ (d :: ds) (v :: vs)
end
inductive RKey : D → Key → Prop
  | int (i : Int) : RKey (.int i) (.inl i)
  | str (s : Str) : RKey (.str s) (.inr s)
inductive RKs (K : PySem.W.Frag) (H : Hp) (ρ : List Addr) : List (D × D) → List (Key × V) → Prop
  | nil : RKs K H ρ [] []
  | cons {k d : D} {q : Key} {v : V} {r : List (D × D)} {s : List (Key × V)} : RKey k q → RD K H ρ d v → RKs K H ρ r s → RKs K H ρ ((k, d) :: r) ((q, v) :: s)
inductive RO (K : PySem.W.Frag) (H : Hp) (ρ : List Addr) : O → HO → Prop
  | lst {xs : List D} {vs : List V} : RDs K H ρ xs vs → RO K H ρ (.lst xs) (.lst vs)
  | dk {kvs : List (D × D)} {ws : List (Key × V)} : RKs K H ρ kvs ws → RO K H ρ (.dct .k kvs) (.dK ws)
structure RS (K : PySem.W.Frag) (H : Hp) (ρ : List Addr) (h : Sto) : Prop where
  len : ρ.length = h.length
  nd : ρ.Nodup
  at_ : ∀ (n : Nat) (o : O), h[n]? = some o → ∃ a ho, ρ[n]? = some a ∧ H a = some ho ∧ RO K H ρ o ho
/-- what may have happened between two states -/
structure Post (ρ : List Addr) (H : Hp) (ρ' : List Addr) (H' : Hp) : Prop where
  pre : ρ <+: ρ'
  keep : ∀ a o, H a = some o → a ∉ ρ → H' a = some o
  new : ∀ a, a ∈ ρ' → a ∉ ρ → H a = none
structure Ext (K : PySem.W.Frag) (ρ : List Addr) (H : Hp) (ρ' : List Addr) (H' : Hp) : Prop where
  tup : ∀ a xs, SqT K H a xs → SqT K H' a xs
  fl : ∀ a xs, SqF K H a xs → SqF K H' a xs
  pre : ρ <+: ρ'
variable {K : PySem.W.Frag} {H H' H1 H2 : Hp} {ρ ρ' ρ1 ρ2 : List Addr} {h h' : Sto}
theorem pre_get {α : Type} {l m : List α} (p : l <+: m) {n : Nat} {a : α} (e : l[n]? = some a) : m[n]? = some a := by
  obtain ⟨t, rfl⟩ := p
  have hn : n < l.length := (List.getElem?_eq_some_iff.mp e).1
  rw [List.getElem?_append_left hn]; exact e
mutual
theorem RD.ext (x : Ext K ρ H ρ' H') : ∀ {d : D} {v : V}, RD K H ρ d v → RD K H' ρ' d v
  | _, _, .non => .non
  | _, _, .bl b => .bl b
  | _, _, .int i => .int i
  | _, _, .str s => .str s
  | _, _, .tup s r => .tup (x.tup _ _ s) (RDs.ext x r)
  | _, _, .fl s r => .fl (x.fl _ _ s) (RDs.ext x r)
  | _, _, .ref e => .ref (pre_get x.pre e)
theorem RDs.ext (x : Ext K ρ H ρ' H') : ∀ {ds : List D} {vs : List V}, RDs K H ρ ds vs → RDs K H' ρ' ds vs
  | _, _, .nil => .nil
  | _, _, .cons a b => .cons (RD.ext x a) (RDs.ext x b)
end
theorem RKs.ext (x : Ext K ρ H ρ' H') : ∀ {ds : List (D × D)} {vs : List (Key × V)}, RKs K H ρ ds vs → RKs K H' ρ' ds vs
  | _, _, .nil => .nil
  | _, _, .cons k a b => .cons k (RD.ext x a) (RKs.ext x b)
theorem RO.ext (x : Ext K ρ H ρ' H') {o : O} {ho : HO} (r : RO K H ρ o ho) : RO K H' ρ' o ho := by
  cases r with
  | lst r => exact .lst (r.ext x)
  | dk r => exact .dk (r.ext x)
theorem RO.notup {o : O} {ho : HO} (r : RO K H ρ o ho) : (∀ xs, ho ≠ .tup xs) ∧ ∀ ob u, ho ≠ .frz ob u := by
  cases r <;> exact ⟨fun _ e => (by cases e), fun _ _ e => (by cases e)⟩
theorem RS.of_mem (r : RS K H ρ h) {a : Addr} (m : a ∈ ρ) : ∃ (n : Nat) (o : O) (ho : HO), ρ[n]? = some a ∧ h[n]? = some o ∧ H a = some ho ∧ RO K H ρ o ho := by
  obtain ⟨n, hn, e⟩ := List.mem_iff_getElem.mp m
  have hh : n < h.length := by rw [← r.len]; exact hn
  have e1 : ρ[n]? = some a := by rw [List.getElem?_eq_getElem hn, e]
  obtain ⟨b, ho, q1, q2, q3⟩ := r.at_ n h[n] (List.getElem?_eq_getElem hh)
  rw [e1] at q1; cases q1
  exact ⟨n, h[n], ho, e1, List.getElem?_eq_getElem hh, q2, q3⟩
theorem RS.tup_out (r : RS K H ρ h) {a : Addr} {xs : List V} (s : Rd H a (.tup xs)) : a ∉ ρ := fun m => by
  obtain ⟨n, o, ho, _, _, e, ro⟩ := r.of_mem m
  rcases s with s | ⟨ob, s⟩
  · rw [e] at s; cases s; exact ro.notup.1 _ rfl
  · rw [e] at s; cases s; exact ro.notup.2 _ _ rfl
theorem Post.ext (p : Post ρ H ρ' H') (r : RS K H ρ h) : Ext K ρ H ρ' H' := by
  refine ⟨fun a xs s => ?_, fun a xs s => ?_, p.pre⟩
  rcases s with s | s
  · have hn := r.tup_out s
    rcases s with s | ⟨ob, s⟩
    · exact .inl (.inl (p.keep _ _ s hn))
    · exact .inl (.inr ⟨ob, p.keep _ _ s hn⟩)
  · exact .inr s
  · rcases s with ⟨o, s⟩ | s
    · refine .inl ⟨o, p.keep _ _ s fun m => ?_⟩
      obtain ⟨_, _, ho, _, _, e, ro⟩ := r.of_mem m
      rw [e] at s; cases s; exact ro.notup.2 _ _ rfl
    · exact .inr s
theorem Post.refl : Post ρ H ρ H := ⟨List.prefix_refl _, fun _ _ e _ => e, fun _ m n => absurd m n⟩
theorem Post.trans (p : Post ρ H ρ1 H1) (q : Post ρ1 H1 ρ2 H2) : Post ρ H ρ2 H2 := by
  refine ⟨p.pre.trans q.pre, fun a o e n => ?_, fun a m n => ?_⟩
  · refine q.keep a o (p.keep a o e n) fun m => ?_
    have z := p.new a m n
    rw [z] at e; cases e
  · by_cases m1 : a ∈ ρ1
    · exact p.new a m1 n
    · cases z : H a with
      | none => rfl
      | some o =>
        have e := q.new a m m1
        rw [p.keep a o z n] at e; cases e
/-- something new that is not followed -/
theorem Post.fresh {p : Addr} {o : HO} (hp : H p = none) (r : RS K H ρ h) : Post ρ H ρ (upd H p o) :=
  ⟨List.prefix_refl _, fun a u e _ => by rw [upd_ne (ne_of_none e hp)]; exact e, fun _ m n => absurd m n⟩
theorem RS.fresh {p : Addr} {o : HO} (r : RS K H ρ h) (hp : H p = none) : RS K (upd H p o) ρ h := by
  have x := (Post.fresh (o := o) hp r).ext r
  refine ⟨r.len, r.nd, fun n o' e => ?_⟩
  obtain ⟨a, ho, h1, h2, h3⟩ := r.at_ n o' e
  exact ⟨a, ho, h1, by rw [upd_ne (ne_of_none h2 hp)]; exact h2, h3.ext x⟩
theorem RS.none_out (r : RS K H ρ h) {p : Addr} (hp : H p = none) : p ∉ ρ := fun m => by
  obtain ⟨_, _, ho, _, _, e, _⟩ := r.of_mem m
  rw [hp] at e; cases e
theorem Post.alloc {p : Addr} {o : HO} (hp : H p = none) (r : RS K H ρ h) : Post ρ H (ρ ++ [p]) (upd H p o) := by
  refine ⟨List.prefix_append _ _, fun a u e _ => by rw [upd_ne (ne_of_none e hp)]; exact e, fun a m n => ?_⟩
  rcases List.mem_append.mp m with m | m
  · exact absurd m n
  · have e : a = p := by simpa using m
    subst e; exact hp
theorem RS.alloc {p : Addr} {o : O} {ho : HO} (r : RS K H ρ h) (hp : H p = none) (ro : RO K H ρ o ho) : RS K (upd H p ho) (ρ ++ [p]) (h ++ [o]) := by
  have x := (Post.alloc (o := ho) hp r).ext r
  have hn := r.none_out hp
  refine ⟨by simp [r.len], ?_, fun n o' e => ?_⟩
  · rw [List.nodup_append]
    exact ⟨r.nd, List.pairwise_singleton _ _, fun a ha b hb e => hn (by
      have e2 : b = p := by simpa using hb
      rw [e, e2] at ha
      exact ha)⟩
  · by_cases hlt : n < h.length
    · rw [List.getElem?_append_left hlt] at e
      obtain ⟨a, hq, h1, h2, h3⟩ := r.at_ n o' e
      exact ⟨a, hq, pre_get x.pre h1, by rw [upd_ne (ne_of_none h2 hp)]; exact h2, h3.ext x⟩
    · have hlt2 : n < (h ++ [o]).length := (List.getElem?_eq_some_iff.mp e).1
      have hnn : n = h.length := by simp at hlt2; omega
      subst hnn
      rw [List.getElem?_append_right (Nat.le_refl _)] at e
      simp at e
      subst e
      refine ⟨p, ho, by rw [← r.len]; simp, upd_same, ro.ext x⟩
theorem RD.top {p : Addr} (r : RS K H ρ h) : RD K H' (ρ ++ [p]) (.ref h.length) (.ref p) := .ref (by rw [← r.len]; simp)
/-- an object is changed -/
theorem RS.write {n : Nat} {a : Addr} {o : O} {ho old : HO} (r : RS K H ρ h) (ha : ρ[n]? = some a) (hold : H a = some old) (hn : ∀ xs, old ≠ .tup xs) (hn2 : ∀ ob xs, old ≠ .frz ob (.tup xs)) (ro : RO K H ρ o ho) :
    RS K (upd H a ho) ρ (h.set n o) ∧ Post ρ H ρ (upd H a ho) := by
  have ma : a ∈ ρ := List.mem_of_getElem? ha
  have p : Post ρ H ρ (upd H a ho) := ⟨List.prefix_refl _, fun b u e nb => by
    rw [upd_ne (show b ≠ a from fun z => nb (by rw [z]; exact ma))]; exact e, fun _ m n => absurd m n⟩
  have x := p.ext r
  refine ⟨⟨by simp [r.len], r.nd, fun m o' e => ?_⟩, p⟩
  by_cases hm : m = n
  · subst hm
    have hlt : m < h.length := by
      have := (List.getElem?_eq_some_iff.mp e).1
      simpa using this
    rw [List.getElem?_set_self hlt] at e
    cases e
    exact ⟨a, ho, ha, upd_same, ro.ext x⟩
  · rw [List.getElem?_set_ne (Ne.symm hm)] at e
    obtain ⟨b, hb, h1, h2, h3⟩ := r.at_ m o' e
    have hab : b ≠ a := fun z => hm (by
      subst z
      have l1 := (List.getElem?_eq_some_iff.mp h1)
      have l2 := (List.getElem?_eq_some_iff.mp ha)
      obtain ⟨l1, q1⟩ := l1
      obtain ⟨l2, q2⟩ := l2
      exact (List.getElem_inj r.nd).mp (q1.trans q2.symm))
    exact ⟨b, hb, h1, by rw [upd_ne hab]; exact h2, h3.ext x⟩
/-- a list or dict that is not followed is changed -/
theorem ext_wr {a : Addr} {old ho : HO} (hold : H a = some old) (n1 : ∀ xs, old ≠ .tup xs) (n2 : ∀ ob u, old ≠ .frz ob u) : Ext K ρ H ρ (upd H a ho) := by
  have ne : ∀ {b : Addr} {o : HO}, H b = some o → o ≠ old → b ≠ a := fun e n z => n (by rw [z, hold] at e; cases e; rfl)
  refine ⟨fun b xs s => ?_, fun b xs s => ?_, List.prefix_refl _⟩
  · rcases s with s | s
    · rcases s with s | ⟨ob, s⟩
      · exact .inl (.inl (by rw [upd_ne (ne s fun z => n1 _ z.symm)]; exact s))
      · exact .inl (.inr ⟨ob, by rw [upd_ne (ne s fun z => n2 _ _ z.symm)]; exact s⟩)
    · exact .inr s
  · rcases s with ⟨o, s⟩ | s
    · exact .inl ⟨o, by rw [upd_ne (ne s fun z => n2 _ _ z.symm)]; exact s⟩
    · exact .inr s
theorem RS.wr {a : Addr} {old ho : HO} (r : RS K H ρ h) (hold : H a = some old) (na : a ∉ ρ) (n1 : ∀ xs, old ≠ .tup xs) (n2 : ∀ ob u, old ≠ .frz ob u) : RS K (upd H a ho) ρ h := by
  have x := ext_wr (K := K) (ρ := ρ) (ho := ho) hold n1 n2
  refine ⟨r.len, r.nd, fun n o' e => ?_⟩
  obtain ⟨b, hq, h1, h2, h3⟩ := r.at_ n o' e
  have hb : b ≠ a := fun z => na (by rw [← z]; exact List.mem_of_getElem? h1)
  exact ⟨b, hq, h1, by rw [upd_ne hb]; exact h2, h3.ext x⟩
theorem RS.join {a : Addr} {o : O} {ho : HO} (r : RS K H ρ h) (e : H a = some ho) (na : a ∉ ρ) (ro : RO K H ρ o ho) : RS K H (ρ ++ [a]) (h ++ [o]) := by
  have x : Ext K ρ H (ρ ++ [a]) H := ⟨fun _ _ s => s, fun _ _ s => s, List.prefix_append _ _⟩
  refine ⟨by simp [r.len], ?_, fun n o' e' => ?_⟩
  · rw [List.nodup_append]
    exact ⟨r.nd, List.pairwise_singleton _ _, fun y hy z hz ez => by
      have e5 : z = a := by simpa using hz
      rw [ez, e5] at hy
      exact na hy⟩
  · by_cases hlt : n < h.length
    · rw [List.getElem?_append_left hlt] at e'
      obtain ⟨b, hq, h1, h2, h3⟩ := r.at_ n o' e'
      exact ⟨b, hq, pre_get x.pre h1, h2, h3.ext x⟩
    · have hlt2 : n < (h ++ [o]).length := (List.getElem?_eq_some_iff.mp e').1
      have hnn : n = h.length := by simp at hlt2; omega
      subst hnn
      rw [List.getElem?_append_right (Nat.le_refl _)] at e'
      simp at e'
      subst e'
      exact ⟨a, ho, by rw [← r.len]; simp, e, ro.ext x⟩
/-- slots -/
def Rsl (K : PySem.W.Frag) (H : Hp) (ρ : List Addr) (sl : SL) (σ : L2.St) : Prop :=
  sl.length = σ.length ∧ ∀ (i : Nat) (d : D), sl[i]? = some (some d) → ∃ v, σ[i]? = some (some v) ∧ RD K H ρ d v
theorem Rsl.ext {sl : SL} {σ : L2.St} (x : Ext K ρ H ρ' H') (r : Rsl K H ρ sl σ) : Rsl K H' ρ' sl σ :=
  ⟨r.1, fun i d e => let ⟨v, h1, h2⟩ := r.2 i d e; ⟨v, h1, h2.ext x⟩⟩
theorem Rsl.set {sl : SL} {σ : L2.St} {i : Nat} {d : D} {v : V} (r : Rsl K H ρ sl σ) (rd : RD K H ρ d v) : Rsl K H ρ (sl.set i (some d)) (σ.set i (some v)) := by
  refine ⟨by simp [r.1], fun j d' e => ?_⟩
  by_cases hj : j = i
  · subst hj
    have hlt : j < sl.length := by
      have := (List.getElem?_eq_some_iff.mp e).1
      simpa using this
    rw [List.getElem?_set_self hlt] at e
    cases e
    exact ⟨v, by rw [List.getElem?_set_self (by rw [← r.1]; exact hlt)], rd⟩
  · rw [List.getElem?_set_ne (Ne.symm hj)] at e
    obtain ⟨w, h1, h2⟩ := r.2 j d' e
    exact ⟨w, by rw [List.getElem?_set_ne (Ne.symm hj)]; exact h1, h2⟩
theorem Rsl.none {sl : SL} {σ : L2.St} {i : Nat} (r : Rsl K H ρ sl σ) : Rsl K H ρ (sl.set i none) σ := by
  refine ⟨by simp [r.1], fun j d' e => ?_⟩
  by_cases hj : j = i
  · subst hj
    have hlt : j < sl.length := by
      have := (List.getElem?_eq_some_iff.mp e).1
      simpa using this
    rw [List.getElem?_set_self hlt] at e
    cases e
  · rw [List.getElem?_set_ne (Ne.symm hj)] at e
    exact r.2 j d' e
theorem Rsl.kills {σ : L2.St} : ∀ (l : List Nat) {sl : SL}, Rsl K H ρ sl σ → Rsl K H ρ (kills l sl) σ
  | [], _, r => r
  | _ :: l, _, r => Rsl.kills l r.none
theorem kills_none : ∀ (l : List Nat) {sl : SL} {i : Nat} {d : D}, (kills l sl)[i]? = some (some d) → i ∉ l ∧ sl[i]? = some (some d)
  | [], _, _, _, e => ⟨by simp, e⟩
  | j :: l, sl, i, d, e => by
    obtain ⟨h1, h2⟩ := kills_none l (sl := sl.set j none) e
    by_cases hj : i = j
    · subst hj
      have hlt : i < sl.length := by
        have := (List.getElem?_eq_some_iff.mp h2).1
        simpa using this
      rw [List.getElem?_set_self hlt] at h2
      cases h2
    · rw [List.getElem?_set_ne (Ne.symm hj)] at h2
      exact ⟨by simp [hj, h1], h2⟩
theorem kills_length : ∀ (l : List Nat) (sl : SL), (kills l sl).length = sl.length
  | [], _ => rfl
  | j :: l, sl => by show (kills l (sl.set j none)).length = _; rw [kills_length l]; simp
/-- a comprehension's own slots are wiped on both sides -/
theorem Rsl.wiped {sl : SL} {σ : L2.St} (l : List Nat) (r : Rsl K H ρ sl σ) : Rsl K H ρ (Ev.kills l sl) (wipe σ l) := by
  refine ⟨by rw [kills_length, wipe_length]; exact r.1, fun i d e => ?_⟩
  obtain ⟨h1, h2⟩ := kills_none l e
  obtain ⟨v, q1, q2⟩ := r.2 i d h2
  exact ⟨v, by rw [wipe_out h1]; exact q1, q2⟩
theorem RDs.length {ds : List D} {vs : List V} : RDs K H ρ ds vs → ds.length = vs.length
  | .nil => rfl
  | .cons _ r => congrArg Nat.succ r.length
theorem RDs.get : ∀ {ds : List D} {vs : List V} {i : Nat} {d : D}, RDs K H ρ ds vs → ds[i]? = some d → ∃ v, vs[i]? = some v ∧ RD K H ρ d v
  | _, _, _, _, .nil, e => by simp at e
  | _, _, 0, _, .cons r _, e => by simp at e; subst e; exact ⟨_, rfl, r⟩
  | _, _, i + 1, _, .cons _ t, e => by
    obtain ⟨v, h1, h2⟩ := RDs.get (i := i) t (by simpa using e)
    exact ⟨v, by simpa using h1, h2⟩
theorem RDs.append : ∀ {xs ys : List D} {us ws : List V}, RDs K H ρ xs us → RDs K H ρ ys ws → RDs K H ρ (xs ++ ys) (us ++ ws)
  | _, _, _, _, .nil, s => s
  | _, _, _, _, .cons r t, s => .cons r (RDs.append t s)
theorem RDs.take : ∀ {xs : List D} {us : List V} (n : Nat), RDs K H ρ xs us → RDs K H ρ (xs.take n) (us.take n)
  | _, _, 0, _ => .nil
  | _, _, _ + 1, .nil => .nil
  | _, _, n + 1, .cons r t => .cons r (RDs.take n t)
theorem RDs.drop : ∀ {xs : List D} {us : List V} (n : Nat), RDs K H ρ xs us → RDs K H ρ (xs.drop n) (us.drop n)
  | _, _, 0, r => r
  | _, _, _ + 1, .nil => .nil
  | _, _, n + 1, .cons _ t => RDs.drop n t
theorem RDs.reverse : ∀ {xs : List D} {us : List V}, RDs K H ρ xs us → RDs K H ρ xs.reverse us.reverse
  | _, _, .nil => .nil
  | _, _, .cons r t => by rw [List.reverse_cons, List.reverse_cons]; exact (RDs.reverse t).append (.cons r .nil)
theorem RDs.rep {xs : List D} {us : List V} (r : RDs K H ρ xs us) : ∀ k : Nat, RDs K H ρ (List.replicate k xs).flatten (List.replicate k us).flatten
  | 0 => .nil
  | k + 1 => by rw [List.replicate_succ, List.replicate_succ, List.flatten_cons, List.flatten_cons]; exact r.append (RDs.rep r k)
theorem RDs.set {d : D} {v : V} (rd : RD K H ρ d v) : ∀ {xs : List D} {us : List V} (i : Nat), RDs K H ρ xs us → RDs K H ρ (xs.set i d) (us.set i v)
  | _, _, _, .nil => .nil
  | _, _, 0, .cons _ t => .cons rd t
  | _, _, i + 1, .cons q t => .cons q (RDs.set rd i t)
theorem RDs.eraseIdx : ∀ {xs : List D} {us : List V} (i : Nat), RDs K H ρ xs us → RDs K H ρ (xs.eraseIdx i) (us.eraseIdx i)
  | _, _, _, .nil => .nil
  | _, _, 0, .cons _ t => t
  | _, _, i + 1, .cons q t => .cons q (RDs.eraseIdx i t)
theorem RDs.dropLast : ∀ {xs : List D} {us : List V}, RDs K H ρ xs us → RDs K H ρ xs.dropLast us.dropLast
  | _, _, .nil => .nil
  | _, _, .cons _ .nil => .nil
  | _, _, .cons r (.cons r2 t) => .cons r (RDs.dropLast (.cons r2 t))
end Ev
/-! Ev: the operators. -/
namespace Ev
open PySem PySem.Spec PyProof.Rows L2
def Fin (K : PySem.W.Frag) (ρ : List Addr) (H : Hp) (d : D) (h' : Sto) (Q : VK) : Prop := ∀ v H' ρ', Post ρ H ρ' H' → RS K H' ρ' h' → RD K H' ρ' d v → Q v H'
section
variable {K : PySem.W.Frag} {H H' H1 H2 : Hp} {ρ ρ' ρ1 ρ2 : List Addr} {h h' : Sto} {Q : VK}
theorem Fin.trans {d : D} (f : Fin K ρ H d h' Q) (p : Post ρ H ρ1 H1) : Fin K ρ1 H1 d h' Q := fun v H' ρ' q r s => f v H' ρ' (p.trans q) r s
theorem fin_same {d : D} {v : V} (f : Fin K ρ H d h Q) (r : RS K H ρ h) (rd : RD K H ρ d v) : Q v H := f v H ρ .refl r rd
theorem fin_tup {ds : List D} {vs : List V} {p : Addr} (f : Fin K ρ H (.tup ds) h Q) (r : RS K H ρ h) (hp : H p = none) (rd : RDs K H ρ ds vs) : Q (.ref p) (upd H p (.tup vs)) :=
  f _ _ ρ (.fresh hp r) (r.fresh hp) (.tup (SqT.of upd_same) (rd.ext ((Post.fresh hp r).ext r)))
theorem fin_alloc {o : O} {ho : HO} {p : Addr} (f : Fin K ρ H (.ref h.length) (h ++ [o]) Q) (r : RS K H ρ h) (hp : H p = none) (ro : RO K H ρ o ho) : Q (.ref p) (upd H p ho) :=
  f _ _ (ρ ++ [p]) (.alloc hp r) (r.alloc hp ro) (.top r)
/-- a sequence of the store or a tuple, as the layer reads it -/
theorem seq_of (r : RS K H ρ h) {d : D} {v : V} (rd : RD K H ρ d v) {xs : List D} (e : seqOf h d = some xs) : ∃ a vs, v = .ref a ∧ RDs K H ρ xs vs ∧ ((SqT K H a vs ∧ d = .tup xs) ∨ (SqL K H a vs ∧ ((∃ n, d = .ref n ∧ ρ[n]? = some a) ∨ d = .fl xs))) := by
  cases rd with
  | @fl a ys vs s rs =>
    simp only [seqOf] at e
    cases e
    exact ⟨a, vs, rfl, rs, .inr ⟨s.l, .inr rfl⟩⟩
  | @tup a ys vs s rs =>
    simp only [seqOf] at e
    cases e
    exact ⟨a, vs, rfl, rs, .inl ⟨s, rfl⟩⟩
  | @ref n a en =>
    simp only [seqOf] at e
    cases q : h[n]? with
    | none => rw [q] at e; cases e
    | some o =>
      rw [q] at e
      obtain ⟨b, ho, h1, h2, h3⟩ := r.at_ n o q
      rw [en] at h1; cases h1
      cases h3 with
      | lst r3 => cases e; exact ⟨a, _, rfl, r3, .inr ⟨.inl (.inl h2), .inl ⟨n, rfl, en⟩⟩⟩
      | dk r3 => cases e
  | non => cases e
  | bl b => cases e
  | int i => cases e
  | str s => cases e
theorem ref_of (r : RS K H ρ h) {n : Nat} {v : V} (rd : RD K H ρ (.ref n) v) {o : O} (e : h[n]? = some o) : ∃ a ho, v = .ref a ∧ ρ[n]? = some a ∧ H a = some ho ∧ RO K H ρ o ho := by
  cases rd with
  | @ref n a en =>
    obtain ⟨b, ho, h1, h2, h3⟩ := r.at_ n o e
    rw [en] at h1; cases h1
    exact ⟨a, ho, rfl, en, h2, h3⟩
end
def rSem (K : PySem.W.Frag) (f : D → D → Sto → Res D) : R2 := fun x y H Q => ∃ h ρ a b d h', RS K H ρ h ∧ RD K H ρ a x ∧ RD K H ρ b y ∧ f a b h = .ok d h' ∧ Fin K ρ H d h' Q
section
variable {X : Cx}
theorem ofOp {f : Value → Value → Sem Value} {r r' : R2} (h : OpR X f r) (g : ∀ x y H Q, r' x y H Q → r x y H Q) : OpR X f r' :=
  fun pins s σ H x y v u Q I rx ry q => h pins s σ H x y v u Q I rx ry (g x y H Q q)
theorem sem_add : OpR X (binaryOp .Add) (rSem X.K (binop .add)) := by
  refine ofOp (op_add.or (op_add_str.or (op_catA.or op_cat))) ?_
  rintro x y H Q ⟨h, ρ, a, b, d, h', r, ra, rb, e, f⟩
  unfold binop at e
  split at e <;> try (first | cases e; done)
  all_goals (rename_i q1; try cases q1)
  · cases e; cases ra; cases rb
    exact .inl ⟨_, _, rfl, rfl, fin_same f r (.int _)⟩
  · split at e
    · cases e; cases ra; cases rb
      exact .inr (.inl ⟨_, _, rfl, rfl, by assumption, fin_same f r (.str _)⟩)
    · cases e
  · split at e
    · rename_i hz
      cases e
      cases ra with
      | @tup a1 _ vs sa ra =>
        cases rb with
        | @tup b1 _ ws sb rb =>
          refine .inr (.inr (.inl ⟨a1, b1, vs, ws, rfl, rfl, sa, sb, by rw [← ra.length, ← rb.length]; exact hz, fun e1 => ?_, fun _ e1 => ?_, fun _ _ p hp => ?_⟩))
          · subst e1; cases ra
            exact fin_same f r (.tup sb (by simpa using rb))
          · subst e1; cases rb
            exact fin_same f r (.tup sa (by simpa using ra))
          · exact fin_tup f r hp (ra.append rb)
    · cases e
  · split at e
    · rename_i qa qb
      split at e
      · rename_i hz
        cases e
        obtain ⟨a1, ho1, rfl, e1, e2, e3⟩ := ref_of r ra qa
        obtain ⟨b1, ho2, rfl, g1, g2, g3⟩ := ref_of r rb qb
        cases e3 with
        | lst e3 =>
          cases g3 with
          | lst g3 =>
            exact .inr (.inr (.inr ⟨a1, b1, _, _, rfl, rfl, e2, g2, by rw [← e3.length, ← g3.length]; exact hz, fun p hp => fin_alloc f r hp (.lst (e3.append g3))⟩))
      · cases e
    · cases e
theorem sem_sub : OpR X (binaryOp .Sub) (rSem X.K (binop .sub)) := by
  refine ofOp op_sub ?_
  rintro x y H Q ⟨h, ρ, a, b, d, h', r, ra, rb, e, f⟩
  unfold binop at e
  split at e <;> try (first | cases e; done)
  all_goals (rename_i q1; try cases q1)
  cases e; cases ra; cases rb
  exact ⟨_, _, rfl, rfl, fin_same f r (.int _)⟩
theorem mulOk_intMulOk {i j : Int} (h : mulOk i j) : IntMulOk i j := by
  rcases h with h | h | ⟨h1, h2⟩
  · exact CMul.ok (.inl h)
  · exact CMul.ok (.inr h)
  · exact CMulW.ok (wide_mul h1 h2 (by decide) (by decide) (by decide))
/-- tuple * int, whatever the two -/
def rRepA (K : PySem.W.Frag) : R2 := fun x y H Q => ∃ l k xs, x = .ref l ∧ y = .int k ∧ SqT K H l xs ∧ -(2 ^ 63) ≤ k ∧ k < 2 ^ 63 ∧ xs.length * k.toNat ≤ sizeLine ∧ ((xs = [] ∨ k = 1) → Q (.ref l) H) ∧ (¬ (xs = [] ∨ k = 1) → ∀ p, H p = none → Q (.ref p) (upd H p (.tup (rep xs k))))
theorem tuple_mul_same (l : Addr) (items : Array Value) (n : Nat) (dd : Option Addr) (sl : Array (Option Value)) (x : Int) (u : Tok) (c0 : (decide (x < -(2 ^ 63)) || decide (x ≥ 2 ^ 63)) = false) (c1 : (items.isEmpty || x == 1) = true) :
    Meets (Builtin.«tuple.__mul__» ⟨[.ref l, .int x u], []⟩) (fun _ R s => s.heap.get? l = some { cls := .type "tuple", dict := dd, data := .seq items n, slots := sl } ∧
      R (.ok (.ret (Value.ref l))) s) :=
  .of_wp fun prog w A R s h => by
    obtain ⟨hp, g, d, tk, os⟩ := s
    obtain ⟨hl, h⟩ := h
    have f1 := AutoSeq1.idx_int
    wp_walk using AutoSeq1.wpAny_loadPart' hl
    repeat (first
      | (refine wpAny_ite_false (decide_eq_false (by rw [c0]; exact Bool.false_ne_true)) ?_; wp_walk using AutoSeq1.wpAny_loadPart' hl)
      | (refine wpAny_ite_true (decide_eq_true c1) ?_; wp_walk using AutoSeq1.wpAny_loadPart' hl))
    exact ⟨_, rfl, h⟩
theorem tuple_mul_none (l : Addr) (items : Array Value) (n : Nat) (dd : Option Addr) (sl : Array (Option Value)) (x : Int) (u : Tok) (c0 : (decide (x < -(2 ^ 63)) || decide (x ≥ 2 ^ 63)) = false) (c1 : (items.isEmpty || x == 1) = false) (c2 : (decide (x ≤ 0) || items.isEmpty) = true) :
    Meets (Builtin.«tuple.__mul__» ⟨[.ref l, .int x u], []⟩) (fun _ R s => s.heap.get? l = some { cls := .type "tuple", dict := dd, data := .seq items n, slots := sl } ∧
      R (.ok (.ret (Value.ref s.heap.objs.size))) { s with heap := s.heap.push { cls := Value.type "tuple", data := Data.seq #[] }, toks := s.toks }) :=
  .of_wp fun prog w A R s h => by
    obtain ⟨hp, g, d, tk, os⟩ := s
    obtain ⟨hl, h⟩ := h
    have f1 := AutoSeq1.idx_int
    wp_walk using AutoSeq1.wpAny_loadPart' hl
    repeat (first
      | (refine wpAny_ite_false (decide_eq_false (by rw [c0]; exact Bool.false_ne_true)) ?_; wp_walk using AutoSeq1.wpAny_loadPart' hl)
      | (refine wpAny_ite_false (decide_eq_false (by rw [c1]; exact Bool.false_ne_true)) ?_; wp_walk using AutoSeq1.wpAny_loadPart' hl)
      | (refine wpAny_ite_true (decide_eq_true c2) ?_; wp_walk using AutoSeq1.wpAny_loadPart' hl))
    exact ⟨_, rfl, h⟩
theorem op_repA : OpR X (binaryOp .Mult) (rRepA X.K) := by
  intro pins s σ H x y v u Q I rx ry h
  obtain ⟨l, k, xs, rfl, rfl, hT, h1, h2, hz, q1, q2⟩ := h
  cases rx
  obtain ⟨t, rfl⟩ := ry
  obtain ⟨its, r, ⟨⟨cls, dd, data, sl⟩, ho, hc, n, hd⟩, hs⟩ := I.tuple hT
  simp only at hc hd
  subst hc hd
  have hle : its.length = xs.length := r.length.symm
  have c0 : (decide (k < -(2 ^ 63)) || decide (k ≥ 2 ^ 63)) = false := by
    rw [decide_eq_false (by omega), decide_eq_false (by omega)] <;> rfl
  have go : ∀ {Q' : Value → Shared → Prop}, codeAny (model X.prog X.w) X.A.in1 (.builtin "tuple.__mul__" ⟨[.ref l, .int k t], []⟩) (fun _ _ => True) s → True := fun _ => trivial
  have hemp : its.toArray.isEmpty = decide (xs = []) := by
    cases its with
    | nil =>
      have : xs = [] := List.eq_nil_of_length_eq_zero hle.symm
      subst this; rfl
    | cons a b =>
      have : xs ≠ [] := fun e => by rw [e] at hle; simp at hle
      simp [this]
  by_cases hc1 : xs = [] ∨ k = 1
  · have c1 : (its.toArray.isEmpty || k == 1) = true := by
      rw [hemp]
      rcases hc1 with e | e
      · simp [e]
      · simp [e]
    refine wpAny_binaryOp_repeat_ref (T := "tuple") (U := "int") (by decide) ⟨_, ho, rfl⟩ (fun s' => typeIs_int s' k t) noFill_tuple_mul F.fills_int_mul F.slot_int_rmul repeat_tuple F.slot_int_index.lookup
      (call_meets F.slot_int_rmul (typeIs_int s k t) F.entry_int_rmul (F.args_int_rmul_2 _ _) (int_rmul_tuple k t l its.toArray n dd sl)
        ⟨ho, rfl, ⟨_, ho, rfl⟩, call_meets F.slot_tuple_mul ⟨_, ho, rfl⟩ F.entry_tuple_mul (F.args_tuple_mul_2 _ _) (tuple_mul_same l its.toArray n dd sl k t c0 c1) ⟨ho, ?_⟩⟩)
    exact ⟨.ref l, H, I, rfl, q1 hc1⟩
  · have c1 : (its.toArray.isEmpty || k == 1) = false := by
      rw [hemp]
      rw [Bool.or_eq_false_iff]
      exact ⟨decide_eq_false fun e => hc1 (.inl e), beq_eq_false_iff_ne.mpr fun e => hc1 (.inr e)⟩
    have hne : xs ≠ [] := fun e => hc1 (.inl e)
    by_cases hk : k ≤ 0
    · have c2 : (decide (k ≤ 0) || its.toArray.isEmpty) = true := by simp [hk]
      refine wpAny_binaryOp_repeat_ref (T := "tuple") (U := "int") (by decide) ⟨_, ho, rfl⟩ (fun s' => typeIs_int s' k t) noFill_tuple_mul F.fills_int_mul F.slot_int_rmul repeat_tuple F.slot_int_index.lookup
        (call_meets F.slot_int_rmul (typeIs_int s k t) F.entry_int_rmul (F.args_int_rmul_2 _ _) (int_rmul_tuple k t l its.toArray n dd sl)
          ⟨ho, rfl, ⟨_, ho, rfl⟩, call_meets F.slot_tuple_mul ⟨_, ho, rfl⟩ F.entry_tuple_mul (F.args_tuple_mul_2 _ _) (tuple_mul_none l its.toArray n dd sl k t c0 c1 c2) ⟨ho, ?_⟩⟩)
      have e0 : rep xs k = [] := by
        unfold rep
        rw [show k.toNat = 0 by omega]; rfl
      refine ⟨.ref s.heap.objs.size, _, I.laid (t' := s.toks) (o := .tup (rep xs k)) (fun b ob q => Heap.get?_push_of_some _ q) (Nat.le_refl _) ?_, rfl, q2 hc1 _ (I.hok.fresh (Nat.le_refl _))⟩
      rw [e0]
      exact ⟨Nat.zero_le _, [], .nil, IsTup.new _ _⟩
    · have c2 : (decide (k ≤ 0) || its.toArray.isEmpty) = false := by
        rw [hemp, decide_eq_false hk, decide_eq_false hne]; rfl
      have hsz0 : its.toArray.size = xs.length := by rw [List.size_toArray, hle]
      have hm : ((its.toArray.size : Nat) : Int) * k ≤ (sizeLine : Int) := by
        rw [hsz0]
        have e : k = (k.toNat : Int) := by omega
        rw [e, ← Int.natCast_mul]
        exact Int.ofNat_le.mpr hz
      have flen : (List.replicate k.toNat its).flatten.length ≤ sizeLine := by
        rw [PyProof.Rows.lm_len_rep_flat, hle, Nat.mul_comm]; exact hz
      have hsl : (sizeLine : Int) = 16777216 := by rw [sizeLine_eq]; rfl
      have c4 : Builtin.Tuple.tupleTooMany (((its.toArray.size : Nat) : Int) * k) = false := by
        unfold Builtin.Tuple.tupleTooMany
        exact decide_eq_false (by omega)
      refine wpAny_binaryOp_repeat_ref (T := "tuple") (U := "int") (by decide) ⟨_, ho, rfl⟩ (fun s' => typeIs_int s' k t) noFill_tuple_mul F.fills_int_mul F.slot_int_rmul repeat_tuple F.slot_int_index.lookup
        (call_meets F.slot_int_rmul (typeIs_int s k t) F.entry_int_rmul (F.args_int_rmul_2 _ _) (int_rmul_tuple k t l its.toArray n dd sl)
          ⟨ho, rfl, ⟨_, ho, rfl⟩, call_meets F.slot_tuple_mul ⟨_, ho, rfl⟩ F.entry_tuple_mul (F.args_tuple_mul_2 _ _) (tuple_mulW l its.toArray n dd sl k t c0 c1 c2 (by omega) c4 (by rw [size_rep, List.size_toArray]; exact flen)) ⟨ho, ?_⟩⟩)
      rw [size_rep]
      refine ⟨.ref s.heap.objs.size, _, I.laid (t' := s.toks) (o := .tup (rep xs k)) (fun b ob q => Heap.get?_push_of_some _ q) (Nat.le_refl _) ?_, rfl, q2 hc1 _ (I.hok.fresh (Nat.le_refl _))⟩
      exact ⟨by unfold rep; rw [PyProof.Rows.lm_len_rep_flat, Nat.mul_comm]; exact hz, _, r.rep k.toNat, IsTup.new _ _⟩
theorem op_mulI : OpR X (binaryOp .Mult) (rI mulOk fun i j => .int (i * j)) := opI fun _ _ _ _ _ _ _ hc q => mul_int q (mulOk_intMulOk hc)
theorem rep_one {α : Type} (xs : List α) : rep xs 1 = xs := by simp [rep]
theorem rep_nil {α : Type} (k : Int) : rep ([] : List α) k = [] := by
  unfold rep
  induction k.toNat with
  | zero => rfl
  | succ n ih => rw [List.replicate_succ, List.flatten_cons, ih]; rfl
theorem sem_mul : OpR X (binaryOp .Mult) (rSem X.K (binop .mul)) := by
  refine ofOp (op_mulI.or (op_repA.or op_rep)) ?_
  rintro x y H Q ⟨h, ρ, a, b, d, h', r, ra, rb, e, f⟩
  unfold binop at e
  split at e <;> try (first | cases e; done)
  all_goals (rename_i q1; try cases q1)
  · split at e
    · cases e; cases ra; cases rb
      exact .inl ⟨_, _, rfl, rfl, by assumption, fin_same f r (.int _)⟩
    · cases e
  · split at e
    · rename_i hz
      cases e; cases rb
      cases ra with
      | @tup a1 _ vs sa ra =>
        refine .inr (.inl ⟨a1, _, vs, rfl, rfl, sa, hz.1, hz.2.1, by rw [← ra.length]; exact hz.2.2, fun e1 => ?_, fun _ p hp => ?_⟩)
        · rcases e1 with e1 | e1
          · subst e1; cases ra
            rw [rep_nil] at f
            exact fin_same f r (.tup sa .nil)
          · subst e1
            rw [rep_one] at f
            exact fin_same f r (.tup sa ra)
        · exact fin_tup f r hp (ra.rep _)
    · cases e
  · split at e
    · rename_i qa
      split at e
      · rename_i hz
        cases e; cases rb
        obtain ⟨a1, ho1, rfl, e1, e2, e3⟩ := ref_of r ra qa
        cases e3 with
        | lst e3 =>
          exact .inr (.inr ⟨a1, _, _, rfl, rfl, e2, hz.1, hz.2.1, by rw [← e3.length]; exact hz.2.2, fun p hp => fin_alloc f r hp (.lst (e3.rep _))⟩)
      · cases e
    · cases e
theorem divOk_W {i j : Int} (h : divOk j) : CDivW i j := wide_div h.1 h.2 (by decide) (by decide)
theorem sem_fdiv : OpR X (binaryOp .FloorDiv) (rSem X.K (binop .fdiv)) := by
  refine ofOp op_fdivW ?_
  rintro x y H Q ⟨h, ρ, a, b, d, h', r, ra, rb, e, f⟩
  unfold binop at e
  split at e <;> try (first | cases e; done)
  all_goals (rename_i q1; try cases q1)
  split at e
  · rename_i hz
    cases e; cases ra; cases rb
    exact ⟨_, _, rfl, rfl, divOk_W hz, fin_same f r (.int _)⟩
  · cases e
theorem sem_mod : OpR X (binaryOp .Mod) (rSem X.K (binop .mod)) := by
  refine ofOp op_mod ?_
  rintro x y H Q ⟨h, ρ, a, b, d, h', r, ra, rb, e, f⟩
  unfold binop at e
  split at e <;> try (first | cases e; done)
  all_goals (rename_i q1; try cases q1)
  split at e
  · rename_i hz
    cases e; cases ra; cases rb
    exact ⟨_, _, rfl, rfl, hz, fin_same f r (.int _)⟩
  · cases e
theorem sem_pow : OpR X (binaryOp .Pow) (rSem X.K (binop .pow)) := by
  refine ofOp op_pow ?_
  rintro x y H Q ⟨h, ρ, a, b, d, h', r, ra, rb, e, f⟩
  unfold binop at e
  split at e <;> try (first | cases e; done)
  all_goals (rename_i q1; try cases q1)
  split at e
  · rename_i hz
    cases e; cases ra; cases rb
    exact ⟨_, _, rfl, rfl, hz, fin_same f r (.int _)⟩
  · cases e
def BOp.op : BOp → Operator
  | .add => .Add | .sub => .Sub | .mul => .Mult | .fdiv => .FloorDiv | .mod => .Mod | .pow => .Pow
theorem sem_bin (o : BOp) : OpR X (binaryOp o.op) (rSem X.K (binop o)) := by
  cases o
  · exact sem_add
  · exact sem_sub
  · exact sem_mul
  · exact sem_fdiv
  · exact sem_mod
  · exact sem_pow
end
end Ev
/-! Ev: comparisons. -/
namespace Ev
open PySem PySem.Spec PyProof.Rows L2
section
variable {K : PySem.W.Frag} {H : Hp} {ρ : List Addr} {h : Sto}
theorem allP_cons {α β : Type} {f : α → Option β} {x : α} {xs : List α} {ys : List β} (e : allP f (x :: xs) = some ys) : ∃ y zs, ys = y :: zs ∧ f x = some y ∧ allP f xs = some zs := by
  rw [allP] at e
  split at e
  · rename_i y zs h1 h2
    cases e
    exact ⟨y, zs, rfl, h1, h2⟩
  · cases e
theorem dpAll_of {k : Nat} (ih : ∀ (d : D) (v : V) (p : PyData), RD K H ρ d v → toP h k d = some p → Dp K H v p) : ∀ {xs : List D} {vs : List V} {ps : List PyData}, RDs K H ρ xs vs → allP (toP h k) xs = some ps → DpAll K H vs ps
  | _, _, _, .nil, e => by cases e; exact .nil
  | _, _, _, .cons r t, e => by
    obtain ⟨y, zs, rfl, h1, h2⟩ := allP_cons e
    exact .cons (ih _ _ _ r h1) (dpAll_of ih t h2)
theorem dp_of (r : RS K H ρ h) : ∀ (k : Nat) (d : D) (v : V) (p : PyData), RD K H ρ d v → toP h k d = some p → Dp K H v p
  | k, .non, _, _, rd, e => by cases rd; unfold toP at e; cases e; exact .non
  | k, .bl b, _, _, rd, e => by cases rd; unfold toP at e; cases e; exact .bl b
  | k, .int b, _, _, rd, e => by cases rd; unfold toP at e; cases e; exact .int b
  | k, .str b, _, _, rd, e => by cases rd; unfold toP at e; cases e; exact .str b
  | 0, .tup _, _, _, rd, e => by unfold toP at e; cases e
  | 0, .fl _, _, _, rd, e => by unfold toP at e; cases e
  | 0, .ref _, _, _, rd, e => by unfold toP at e; cases e
  | k + 1, .fl xs, v, p, rd, e => by
    unfold toP at e
    cases rd with
    | fl s rs =>
      cases q : allP (toP h k) xs with
      | none => rw [q] at e; cases e
      | some ps =>
        rw [q] at e; cases e
        exact .lst s.l (dpAll_of (dp_of r k) rs q)
  | k + 1, .tup xs, v, p, rd, e => by
    unfold toP at e
    cases rd with
    | tup s rs =>
      cases q : allP (toP h k) xs with
      | none => rw [q] at e; cases e
      | some ps =>
        rw [q] at e; cases e
        exact .tup s (dpAll_of (dp_of r k) rs q)
  | k + 1, .ref m, v, p, rd, e => by
    unfold toP at e
    cases q : h[m]? with
    | none => rw [q] at e; cases e
    | some o =>
      rw [q] at e
      obtain ⟨a, ho, rfl, _, h2, h3⟩ := ref_of r rd q
      cases h3 with
      | @lst xs _ rs =>
        simp only at e
        cases q2 : allP (toP h k) xs with
        | none => rw [q2] at e; cases e
        | some ps =>
          rw [q2] at e; cases e
          exact .lst (.inl (.inl h2)) (dpAll_of (dp_of r k) rs q2)
      | dk rs => cases e
theorem depthAll_of {k : Nat} (ih : ∀ (d : D) (p : PyData), toP h k d = some p → p.depth ≤ k) : ∀ {xs : List D} {ps : List PyData}, allP (toP h k) xs = some ps → PyData.depthAll ps ≤ k
  | [], _, e => by cases e; simp [PyData.depthAll]
  | x :: xs, ps, e => by
    obtain ⟨y, zs, rfl, h1, h2⟩ := allP_cons e
    have a := ih _ _ h1
    have b := depthAll_of ih h2
    rw [PyData.depthAll]
    omega
theorem depth_of : ∀ (k : Nat) (d : D) (p : PyData), toP h k d = some p → p.depth ≤ k
  | k, .non, _, e => by unfold toP at e; cases e; simp [PyData.depth]
  | k, .bl b, _, e => by unfold toP at e; cases e; simp [PyData.depth]
  | k, .int b, _, e => by unfold toP at e; cases e; simp [PyData.depth]
  | k, .str b, _, e => by unfold toP at e; cases e; simp [PyData.depth]
  | 0, .tup _, _, e => by unfold toP at e; cases e
  | 0, .fl _, _, e => by unfold toP at e; cases e
  | 0, .ref _, _, e => by unfold toP at e; cases e
  | k + 1, .fl xs, p, e => by
    unfold toP at e
    cases q : allP (toP h k) xs with
    | none => rw [q] at e; cases e
    | some ps =>
      rw [q] at e; cases e
      have := depthAll_of (depth_of k) q
      rw [PyData.depth]; omega
  | k + 1, .tup xs, p, e => by
    unfold toP at e
    cases q : allP (toP h k) xs with
    | none => rw [q] at e; cases e
    | some ps =>
      rw [q] at e; cases e
      have := depthAll_of (depth_of k) q
      rw [PyData.depth]; omega
  | k + 1, .ref m, p, e => by
    unfold toP at e
    split at e
    · rename_i xs _
      cases q : allP (toP h k) xs with
      | none => rw [q] at e; cases e
      | some ps =>
        rw [q] at e; cases e
        have := depthAll_of (depth_of k) q
        rw [PyData.depth]; omega
    · cases e
theorem shaped_of {k : Nat} {d : D} {p : PyData} (e : toP h k d = some p) (hk : k ≤ 60) (c : p.canLay0 = true) : SeqAt.shaped p = true := by
  unfold SeqAt.shaped
  rw [c, decide_eq_true (Nat.le_trans (depth_of k d p e) (by omega))]; rfl
end
section
variable {X : Cx}
theorem sem_eq (hu : X.A.units + 64 < cLine) : OpR X (compareOp .Eq) (rSem X.K (cmpop .eq)) := by
  refine ofOp (op_eqD hu) ?_
  rintro x y H Q ⟨h, ρ, a, b, d, h', r, ra, rb, e, f⟩
  simp only [cmpop] at e
  split at e
  · rename_i p q e1 e2
    split at e
    · rename_i c
      cases e
      obtain ⟨c1, c2⟩ := Bool.and_eq_true_iff.mp c
      exact ⟨p, q, dp_of r _ _ _ _ ra e1, dp_of r _ _ _ _ rb e2, shaped_of e1 (by decide) c1, shaped_of e2 (by decide) c2, fin_same f r (.bl _)⟩
    · cases e
  · cases e
theorem sem_ne (hu : X.A.units + 64 < cLine) : OpR X (compareOp .NotEq) (rSem X.K (cmpop .ne)) := by
  refine ofOp (op_neD hu) ?_
  rintro x y H Q ⟨h, ρ, a, b, d, h', r, ra, rb, e, f⟩
  simp only [cmpop] at e
  split at e
  · rename_i p q e1 e2
    split at e
    · rename_i c
      cases e
      obtain ⟨c1, c2⟩ := Bool.and_eq_true_iff.mp c
      exact ⟨p, q, dp_of r _ _ _ _ ra e1, dp_of r _ _ _ _ rb e2, shaped_of e1 (by decide) c1, shaped_of e2 (by decide) c2, fin_same f r (.bl _)⟩
    · cases e
  · cases e
/-- t < u for alike data -/
def rLtD (K : PySem.W.Frag) : R2 := fun x y H Q => ∃ d e, Dp K H x d ∧ Dp K H y e ∧ PySem.W.alike d e = true ∧ d ≠ .none ∧ d.depth ≤ 64 ∧ Q (.bl (PySem.W.dataLt d e)) H
theorem op_ltD (hu : X.A.units + 64 < cLine) : OpR X (compareOp .Lt) (rLtD X.K) := by
  intro pins s σ H x y v u Q I rx ry h
  obtain ⟨d, e, hd, he, al, nn, dp, q⟩ := h
  obtain ⟨as, r1⟩ := Dp.reads I d x v hd rx
  obtain ⟨bs, r2⟩ := Dp.reads I e y u he ry
  have m : min d.depth e.depth ≤ d.depth := Nat.min_le_left _ _
  exact PySem.W.rcLt_alike d e X.A s v u as bs r1 r2 al nn (by omega) _ _ _ _ ⟨.bl _, H, I, rfl, q⟩
theorem sem_lt (hu : X.A.units + 64 < cLine) : OpR X (compareOp .Lt) (rSem X.K (cmpop .lt)) := by
  refine ofOp (op_lt.or (op_ltD hu)) ?_
  rintro x y H Q ⟨h, ρ, a, b, d, h', r, ra, rb, e, f⟩
  simp only [cmpop] at e
  split at e
  · cases e; cases ra; cases rb
    exact .inl ⟨_, _, rfl, rfl, fin_same f r (.bl _)⟩
  · split at e
    · rename_i p q e1 e2
      split at e
      · rename_i c
        cases e
        refine .inr ⟨.tuple p, .tuple q, dp_of r _ _ _ _ ra e1, dp_of r _ _ _ _ rb e2, (by rw [PySem.W.alike]; exact c), (fun z => nomatch z), Nat.le_trans (depth_of dP _ _ e1) (by decide), fin_same f r (.bl _)⟩
      · cases e
    · cases e
theorem sem_le : OpR X (compareOp .LtE) (rSem X.K (cmpop .le)) := by
  refine ofOp op_le ?_
  rintro x y H Q ⟨h, ρ, a, b, d, h', r, ra, rb, e, f⟩
  simp only [cmpop] at e
  split at e
  · cases e; cases ra; cases rb
    exact ⟨_, _, rfl, rfl, fin_same f r (.bl _)⟩
  · cases e
theorem sem_gt : OpR X (compareOp .Gt) (rSem X.K (cmpop .gt)) := by
  refine ofOp op_gt ?_
  rintro x y H Q ⟨h, ρ, a, b, d, h', r, ra, rb, e, f⟩
  simp only [cmpop] at e
  split at e
  · cases e; cases ra; cases rb
    exact ⟨_, _, rfl, rfl, fin_same f r (.bl _)⟩
  · cases e
theorem sem_ge : OpR X (compareOp .GtE) (rSem X.K (cmpop .ge)) := by
  refine ofOp op_ge ?_
  rintro x y H Q ⟨h, ρ, a, b, d, h', r, ra, rb, e, f⟩
  simp only [cmpop] at e
  split at e
  · cases e; cases ra; cases rb
    exact ⟨_, _, rfl, rfl, fin_same f r (.bl _)⟩
  · cases e
theorem RD.non_iff {K : PySem.W.Frag} {H : Hp} {ρ : List Addr} {d : D} {v : V} (r : RD K H ρ d v) : (v = .non) ↔ d = .non := by
  cases r <;> simp
theorem sem_isN : OpR X (compareOp .Is) (rSem X.K (cmpop .isN)) := by
  refine ofOp op_isN ?_
  rintro x y H Q ⟨h, ρ, a, b, d, h', r, ra, rb, e, f⟩
  simp only [cmpop] at e
  split at e
  · cases e; cases ra; cases rb
    exact ⟨rfl, by simpa using fin_same f r (.bl _)⟩
  · rename_i hn
    cases e; cases rb
    have : x ≠ .non := fun z => hn (ra.non_iff.mp z)
    exact ⟨rfl, by rw [decide_eq_false this]; exact fin_same f r (.bl _)⟩
  · cases e
theorem sem_notN : OpR X (compareOp .IsNot) (rSem X.K (cmpop .notN)) := by
  refine ofOp op_notN ?_
  rintro x y H Q ⟨h, ρ, a, b, d, h', r, ra, rb, e, f⟩
  simp only [cmpop] at e
  split at e
  · cases e; cases ra; cases rb
    exact ⟨rfl, by simpa using fin_same f r (.bl _)⟩
  · rename_i hn
    cases e; cases rb
    have : x ≠ .non := fun z => hn (ra.non_iff.mp z)
    exact ⟨rfl, by rw [decide_eq_false this]; exact fin_same f r (.bl _)⟩
  · cases e
def rInS (K : PySem.W.Frag) (neg : Bool) : R2 := fun x y H Q => ∃ d ds, Dp K H x d ∧ (Dp K H y (.list ds) ∨ Dp K H y (.tuple ds)) ∧ SeqAt.shaped d = true ∧ PyData.canLayAll0 ds = true ∧ Q (.bl (if neg then !(ds.any fun z => PyData.eqv z d) else ds.any fun z => PyData.eqv z d)) H
theorem op_inS (hu : X.A.units + 65 < cLine) : OpR X (compareOp .In) (rInS X.K false) := by
  intro pins s σ H x y v u Q I rx ry h
  obtain ⟨d, ds, hd, he, sd, se, q⟩ := h
  obtain ⟨as, r1⟩ := Dp.reads I d x v hd rx
  rcases he with he | he
  · obtain ⟨bs, r2⟩ := Dp.reads I (.list ds) y u he ry
    exact SeqAt.in_list_reads r2 r1 se (SeqAt.canLay_of_shaped sd) (room_in_shaped sd hu) ⟨.bl _, H, I, rfl, q⟩
  · obtain ⟨bs, r2⟩ := Dp.reads I (.tuple ds) y u he ry
    exact SeqAt.in_tuple_reads r2 r1 se (SeqAt.canLay_of_shaped sd) (room_in_shaped sd hu) ⟨.bl _, H, I, rfl, q⟩
theorem op_notInS (hu : X.A.units + 65 < cLine) : OpR X (compareOp .NotIn) (rInS X.K true) := by
  intro pins s σ H x y v u Q I rx ry h
  obtain ⟨d, ds, hd, he, sd, se, q⟩ := h
  obtain ⟨as, r1⟩ := Dp.reads I d x v hd rx
  rcases he with he | he
  · obtain ⟨bs, r2⟩ := Dp.reads I (.list ds) y u he ry
    exact SeqAt.notIn_list_reads r2 r1 se (SeqAt.canLay_of_shaped sd) (room_in_shaped sd hu) ⟨.bl _, H, I, rfl, q⟩
  · obtain ⟨bs, r2⟩ := Dp.reads I (.tuple ds) y u he ry
    exact SeqAt.notIn_tuple_reads r2 r1 se (SeqAt.canLay_of_shaped sd) (room_in_shaped sd hu) ⟨.bl _, H, I, rfl, q⟩
theorem dp_seq {K : PySem.W.Frag} {H : Hp} {ρ : List Addr} {h : Sto} (r : RS K H ρ h) {d : D} {v : V} (rd : RD K H ρ d v) {xs : List D} (e : seqOf h d = some xs) {ps : List PyData} {k : Nat} (q : allP (toP h k) xs = some ps) : Dp K H v (.list ps) ∨ Dp K H v (.tuple ps) := by
  obtain ⟨a, vs, rfl, rs, hh⟩ := seq_of r rd e
  have z := dpAll_of (dp_of r k) rs q
  rcases hh with ⟨s, _⟩ | ⟨s, _⟩
  · exact .inr (.tup s z)
  · exact .inl (.lst s z)
theorem sem_in (hu : X.A.units + 65 < cLine) : OpR X (compareOp .In) (rSem X.K (cmpop .mem)) := by
  refine ofOp (op_inS hu) ?_
  rintro x y H Q ⟨h, ρ, a, b, d, h', r, ra, rb, e, f⟩
  simp only [cmpop] at e
  split at e
  · rename_i ys p e1 e2
    split at e
    · rename_i bs e3
      split at e
      · rename_i c
        cases e
        obtain ⟨c1, c2⟩ := Bool.and_eq_true_iff.mp c
        exact ⟨p, bs, dp_of r _ _ _ _ ra e2, dp_seq r rb e1 e3, shaped_of e2 (by decide) c1, c2, fin_same f r (.bl _)⟩
      · cases e
    · cases e
  · cases e
theorem sem_notIn (hu : X.A.units + 65 < cLine) : OpR X (compareOp .NotIn) (rSem X.K (cmpop .nin)) := by
  refine ofOp (op_notInS hu) ?_
  rintro x y H Q ⟨h, ρ, a, b, d, h', r, ra, rb, e, f⟩
  simp only [cmpop] at e
  split at e
  · rename_i ys p e1 e2
    split at e
    · rename_i bs e3
      split at e
      · rename_i c
        cases e
        obtain ⟨c1, c2⟩ := Bool.and_eq_true_iff.mp c
        exact ⟨p, bs, dp_of r _ _ _ _ ra e2, dp_seq r rb e1 e3, shaped_of e2 (by decide) c1, c2, fin_same f r (.bl _)⟩
      · cases e
    · cases e
  · cases e
def COp.op : COp → CmpOp
  | .eq => .Eq | .ne => .NotEq | .lt => .Lt | .le => .LtE | .gt => .Gt | .ge => .GtE | .isN => .Is | .notN => .IsNot | .mem => .In | .nin => .NotIn
theorem sem_cmp (hu : X.A.units + 100 < cLine) (o : COp) : OpR X (compareOp o.op) (rSem X.K (cmpop o)) := by
  cases o
  · exact sem_eq (by omega)
  · exact sem_ne (by omega)
  · exact sem_lt (by omega)
  · exact sem_le
  · exact sem_gt
  · exact sem_ge
  · exact sem_isN
  · exact sem_notN
  · exact sem_in (by omega)
  · exact sem_notIn (by omega)
end
end Ev
/-! Ev: built-in calls. -/
namespace Ev
open PySem PySem.Spec PyProof.Rows L2
def rCall (K : PySem.W.Frag) (f : List D → Sto → Res D) : List V → Hp → VK → Prop := fun vs H Q => ∃ h ρ ds d h', RS K H ρ h ∧ RDs K H ρ ds vs ∧ f ds h = .ok d h' ∧ Fin K ρ H d h' Q
theorem RKs.length {K : PySem.W.Frag} {H : Hp} {ρ : List Addr} : ∀ {kvs : List (D × D)} {ws : List (Key × V)}, RKs K H ρ kvs ws → kvs.length = ws.length
  | _, _, .nil => rfl
  | _, _, .cons _ _ t => congrArg Nat.succ (RKs.length t)
section
variable {X : Cx}
theorem ofCall {f : Value} {r r' : List V → Hp → VK → Prop} (h : CallR X f r) (g : ∀ xs H Q, r' xs H Q → r xs H Q) : CallR X f r' :=
  fun pins s σ H xs us Q I rx q => h pins s σ H xs us Q I rx (g xs H Q q)
/-- a list of the store -/
theorem lst_of {K : PySem.W.Frag} {H : Hp} {ρ : List Addr} {h : Sto} (r : RS K H ρ h) {d : D} {v : V} (rd : RD K H ρ d v) {xs : List D} (e : lstOf h d = some xs) : ∃ a vs, v = .ref a ∧ RDs K H ρ xs vs ∧ SqL K H a vs := by
  cases rd with
  | @fl a ys vs s rs =>
    simp only [lstOf] at e
    cases e
    exact ⟨a, vs, rfl, rs, s.l⟩
  | @ref n a en =>
    simp only [lstOf] at e
    cases q : h[n]? with
    | none => rw [q] at e; cases e
    | some o =>
      rw [q] at e
      obtain ⟨b, ho, h1, h2, h3⟩ := r.at_ n o q
      rw [en] at h1; cases h1
      cases h3 with
      | lst r3 => cases e; exact ⟨a, _, rfl, r3, .inl (.inl h2)⟩
      | dk r3 => cases e
  | _ => cases e
theorem allBl_of {K : PySem.W.Frag} {H : Hp} {ρ : List Addr} : ∀ {xs : List D} {vs : List V} {bs : List Bool}, RDs K H ρ xs vs → allBl xs = some bs → vs = bs.map V.bl
  | _, _, _, .nil, e => by cases e; rfl
  | _, _, _, .cons r t, e => by
    obtain ⟨y, zs, rfl, h1, h2⟩ := allP_cons e
    have := allBl_of t h2
    subst this
    split at h1
    · cases h1; cases r; rfl
    · cases h1
theorem allInt_of {K : PySem.W.Frag} {H : Hp} {ρ : List Addr} : ∀ {xs : List D} {vs : List V} {bs : List Int}, RDs K H ρ xs vs → allInt xs = some bs → vs = bs.map V.int
  | _, _, _, .nil, e => by cases e; rfl
  | _, _, _, .cons r t, e => by
    obtain ⟨y, zs, rfl, h1, h2⟩ := allP_cons e
    have := allInt_of t h2
    subst this
    split at h1
    · cases h1; cases r; rfl
    · cases h1
theorem sem_len : CallR X (.builtin "len") (rCall X.K (biop .len)) := by
  refine ofCall (call_len.or call_lenD) ?_
  rintro vs H Q ⟨h, ρ, ds, d, h', r, rs, e, f⟩
  unfold biop at e
  split at e <;> try (first | cases e; done)
  all_goals (rename_i q1; try cases q1)
  · cases e
    cases rs with
    | cons r1 r2 =>
      cases r2
      cases r1 with
      | @tup a _ ws s r1 => exact .inl ⟨_, ws.length, rfl, .inr ⟨ws, s, rfl⟩, by rw [← r1.length]; exact fin_same f r (.int _)⟩
  · cases e
    cases rs with
    | cons r1 r2 =>
      cases r2
      cases r1 with
      | @fl a _ ws s r1 => exact .inl ⟨_, ws.length, rfl, .inl ⟨ws, s.l, rfl⟩, by rw [← r1.length]; exact fin_same f r (.int _)⟩
  · split at e
    · cases e
      cases rs with
      | cons r1 r2 =>
        cases r2; cases r1
        exact .inl ⟨_, _, rfl, ⟨by assumption, rfl⟩, fin_same f r (.int _)⟩
    · cases e
  · cases rs with
    | cons r1 r2 =>
      cases r2
      split at e
      · rename_i q
        cases e
        obtain ⟨a, ho, rfl, _, h2, h3⟩ := ref_of r r1 q
        cases h3 with
        | @lst _ ws h3 => exact .inl ⟨_, ws.length, rfl, .inl ⟨ws, .inl (.inl h2), rfl⟩, by rw [← h3.length]; exact fin_same f r (.int _)⟩
      · rename_i q
        cases e
        obtain ⟨a, ho, rfl, _, h2, h3⟩ := ref_of r r1 q
        cases h3 with
        | @dk kvs ws h3 => exact .inr ⟨a, ws, rfl, h2, by rw [← h3.length]; exact fin_same f r (.int _)⟩
      · cases e
theorem sem_abs : CallR X (.builtin "abs") (rCall X.K (biop .abs)) := by
  refine ofCall call_abs ?_
  rintro vs H Q ⟨h, ρ, ds, d, h', r, rs, e, f⟩
  unfold biop at e
  split at e <;> try (first | cases e; done)
  all_goals (rename_i q1; try cases q1)
  cases e
  cases rs with
  | cons r1 r2 => cases r2; cases r1; exact ⟨_, rfl, fin_same f r (.int _)⟩
theorem sem_max2 (hc : X.calm = true) : CallR X (.builtin "max") (rCall X.K (biop .max2)) := by
  refine ofCall (call_max2 hc) ?_
  rintro vs H Q ⟨h, ρ, ds, d, h', r, rs, e, f⟩
  unfold biop at e
  split at e <;> try (first | cases e; done)
  all_goals (rename_i q1; try cases q1)
  cases e
  cases rs with
  | cons r1 r2 =>
    cases r2 with
    | cons r2 r3 => cases r3; cases r1; cases r2; exact ⟨_, _, rfl, fin_same f r (.int _)⟩
theorem sem_min2 (hc : X.calm = true) : CallR X (.builtin "min") (rCall X.K (biop .min2)) := by
  refine ofCall (call_min2 hc) ?_
  rintro vs H Q ⟨h, ρ, ds, d, h', r, rs, e, f⟩
  unfold biop at e
  split at e <;> try (first | cases e; done)
  all_goals (rename_i q1; try cases q1)
  cases e
  cases rs with
  | cons r1 r2 =>
    cases r2 with
    | cons r2 r3 => cases r3; cases r1; cases r2; exact ⟨_, _, rfl, fin_same f r (.int _)⟩
theorem sem_int : CallR X (.type "int") (rCall X.K (biop .int)) := by
  refine ofCall call_int1 ?_
  rintro vs H Q ⟨h, ρ, ds, d, h', r, rs, e, f⟩
  unfold biop at e
  split at e <;> try (first | cases e; done)
  all_goals (rename_i q1; try cases q1)
  · cases e
    cases rs with
    | cons r1 r2 => cases r2; cases r1; exact .inl ⟨_, rfl, fin_same f r (.int _)⟩
  · cases e
    cases rs with
    | cons r1 r2 => cases r2; cases r1; exact .inr ⟨_, rfl, fin_same f r (.int _)⟩
theorem sem_all (hc : X.calm = true) : CallR X (.builtin "all") (rCall X.K (biop .all)) := by
  refine ofCall (cr_all hc) ?_
  rintro vs H Q ⟨h, ρ, ds, d, h', r, rs, e, f⟩
  unfold biop at e
  split at e <;> try (first | cases e; done)
  all_goals (rename_i q1; try cases q1)
  split at e
  · rename_i bs q
    cases e
    obtain ⟨xs, e1, e2⟩ := Option.bind_eq_some_iff.mp q
    cases rs with
    | cons r1 r2 =>
      cases r2
      obtain ⟨a, ws, rfl, rw', s⟩ := lst_of r r1 e1
      have := allBl_of rw' e2
      subst this
      exact ⟨a, bs, rfl, s, fin_same f r (.bl _)⟩
  · cases e
theorem sem_any (hc : X.calm = true) : CallR X (.builtin "any") (rCall X.K (biop .any)) := by
  refine ofCall (cr_any hc) ?_
  rintro vs H Q ⟨h, ρ, ds, d, h', r, rs, e, f⟩
  unfold biop at e
  split at e <;> try (first | cases e; done)
  all_goals (rename_i q1; try cases q1)
  split at e
  · rename_i bs q
    cases e
    obtain ⟨xs, e1, e2⟩ := Option.bind_eq_some_iff.mp q
    cases rs with
    | cons r1 r2 =>
      cases r2
      obtain ⟨a, ws, rfl, rw', s⟩ := lst_of r r1 e1
      have := allBl_of rw' e2
      subst this
      exact ⟨a, bs, rfl, s, fin_same f r (.bl _)⟩
  · cases e
def rSumT (K : PySem.W.Frag) : List V → Hp → VK → Prop := fun vs H Q => ∃ (a : Addr) (ns : List Int), vs = [V.ref a] ∧ SqT K H a (ns.map V.int) ∧ Q (.int ns.sum) H
theorem cr_sumT (hc : X.calm = true) : CallR X (.builtin "sum") (rSumT X.K) := by
  intro pins s σ H vs us Q I r h
  obtain ⟨a, ns, rfl, hs, q⟩ := h
  obtain ⟨its, rv, hl, _⟩ := I.tuple hs
  rw [Vals.ref1 r]
  have hi := rv.ints
  have hl : s.heap.IsTuple a its.toArray := hl
  obtain ⟨xs, hx⟩ := hi.allInts.items
  have hn : numsOf its.toArray.toList = ns := by rw [show its.toArray.toList = its from rfl, hi.numsOf]
  rw [hx] at hl hn
  rw [nums_intItems] at hn
  refine PySem.W.ktm_sumG (I.ok.hd hc) hl fun h' tk t' hk => ?_
  rw [preSum_eq, List.take_of_length_le (by simp), hn]
  exact ⟨.int ns.sum, H, I.kept hk, ⟨_, rfl⟩, q⟩
theorem sem_sum (hc : X.calm = true) : CallR X (.builtin "sum") (rCall X.K (biop .sum)) := by
  refine ofCall ((cr_sum hc).or (cr_sumT hc)) ?_
  rintro vs H Q ⟨h, ρ, ds, d, h', r, rs, e, f⟩
  unfold biop at e
  split at e <;> try (first | cases e; done)
  all_goals (rename_i q1; try cases q1)
  split at e
  · rename_i bs q
    cases e
    obtain ⟨xs, e1, e2⟩ := Option.bind_eq_some_iff.mp q
    cases rs with
    | cons r1 r2 =>
      cases r2
      obtain ⟨a, ws, rfl, rw', s⟩ := seq_of r r1 e1
      have := allInt_of rw' e2
      subst this
      rcases s with ⟨s, _⟩ | ⟨s, _⟩
      · exact .inr ⟨a, bs, rfl, s, fin_same f r (.int _)⟩
      · exact .inl ⟨a, bs, rfl, s, fin_same f r (.int _)⟩
  · cases e
theorem sem_tuple : CallR X (.type "tuple") (rCall X.K (biop .tuple)) := by
  refine ofCall call_tuple_of ?_
  rintro vs H Q ⟨h, ρ, ds, d, h', r, rs, e, f⟩
  unfold biop at e
  split at e <;> try (first | cases e; done)
  all_goals (rename_i q1; try cases q1)
  split at e
  · rename_i xs q
    cases e
    cases rs with
    | cons r1 r2 =>
      cases r2
      obtain ⟨a, ws, rfl, rw', s⟩ := seq_of r r1 q
      rcases s with ⟨s, rfl⟩ | ⟨s, _⟩
      · exact ⟨a, ws, rfl, .inr ⟨s, fin_same f r r1⟩⟩
      · exact ⟨a, ws, rfl, .inl ⟨s, fun l hl => fin_tup f r hl rw'⟩⟩
  · cases e
theorem sem_list : CallR X (.type "list") (rCall X.K (biop .list)) := by
  refine ofCall call_list_of ?_
  rintro vs H Q ⟨h, ρ, ds, d, h', r, rs, e, f⟩
  unfold biop at e
  split at e <;> try (first | cases e; done)
  all_goals (rename_i q1; try cases q1)
  split at e
  · rename_i xs q
    cases e
    cases rs with
    | cons r1 r2 =>
      cases r2
      obtain ⟨a, ws, rfl, rw', s⟩ := seq_of r r1 q
      refine ⟨a, ws, rfl, ?_, fun l hl => fin_alloc f r hl (.lst rw')⟩
      rcases s with ⟨s, rfl⟩ | ⟨s, _⟩
      · exact .inr s
      · exact .inl s
  · cases e
/-! ### sorted -/
theorem Paired.each {α β : Type} {R : α → β → Prop} : ∀ {xs : List α} {ys : List β}, Paired R xs ys → PySem.W.EachIs R xs ys
  | _, _, .nil => .nil
  | _, _, .cons r t => .cons r (Paired.each t)
/-- values, and what they stand for -/
theorem each_of {K : PySem.W.Frag} {H : Hp} {ρ : List Addr} : ∀ {xs : List D} {vs : List V} {us : List Value}, RDs K H ρ xs vs → Vals vs us → PySem.W.EachIs (fun u d => ∃ v, RD K H ρ d v ∧ RelV v u) us xs
  | _, _, _, .nil, .nil => .nil
  | _, _, _, .cons r t, .cons q u => .cons ⟨_, r, q⟩ (each_of t u)
theorem of_each {K : PySem.W.Frag} {H : Hp} {ρ : List Addr} : ∀ {us : List Value} {xs : List D}, PySem.W.EachIs (fun u d => ∃ v, RD K H ρ d v ∧ RelV v u) us xs → ∃ vs, RDs K H ρ xs vs ∧ Vals vs us
  | _, _, .nil => ⟨[], .nil, .nil⟩
  | _, _, .cons ⟨v, r, q⟩ t => by
    obtain ⟨vs, h1, h2⟩ := of_each t
    exact ⟨v :: vs, .cons r h1, .cons q h2⟩
theorem allP_mem {α β : Type} {f : α → Option β} : ∀ {xs : List α} {ys : List β}, allP f xs = some ys → ∀ x ∈ xs, ∃ y ∈ ys, f x = some y
  | [], _, _, _, hx => by cases hx
  | x :: xs, _, e, z, hz => by
    obtain ⟨y, zs, rfl, h1, h2⟩ := allP_cons e
    rcases List.mem_cons.mp hz with rfl | hz
    · exact ⟨y, List.mem_cons_self, h1⟩
    · obtain ⟨w, hw, q⟩ := allP_mem h2 z hz
      exact ⟨w, List.mem_cons_of_mem _ hw, q⟩
theorem allP_map {h : Sto} : ∀ {xs : List D} {ys : List PyData}, allP (toP h dP) xs = some ys → xs.map (enc h) = ys
  | [], _, e => by cases e; rfl
  | x :: xs, _, e => by
    obtain ⟨y, zs, rfl, h1, h2⟩ := allP_cons e
    rw [List.map_cons, allP_map h2]
    unfold enc
    rw [h1]; rfl
def rSortD (K : PySem.W.Frag) : List V → Hp → VK → Prop := fun vs H Q => ∃ h ρ d xs ys v, vs = [v] ∧ RS K H ρ h ∧ RD K H ρ d v ∧ lstOf h d = some xs ∧ sortD h xs = some ys ∧ Fin K ρ H (.ref h.length) (h ++ [.lst ys]) Q
theorem cr_sortD (hu : X.A.units + 100 < cLine) : CallR X (.builtin "sorted") (rSortD X.K) := by
  intro pins s σ H vs us Q I rr h
  obtain ⟨h, ρ, d, xs, ys, v, rfl, r, rd, e1, e2, f⟩ := h
  obtain ⟨a, ws, rfl, rws, sq⟩ := lst_of r rd e1
  obtain ⟨its, rv, hl, hz⟩ := I.list sq
  rw [Vals.ref1 rr]
  unfold sortD at e2
  split at e2
  · cases e2
  · rename_i ps q
    split at e2
    · rename_i c
      cases e2
      obtain ⟨c, c3⟩ := Bool.and_eq_true_iff.mp c
      obtain ⟨c1, c2⟩ := Bool.and_eq_true_iff.mp c
      have em := allP_map q
      have E := each_of (ρ := ρ) rws rv
      have Er : PySem.W.EachIs (fun u b => ∃ as, Reads s.heap u (enc h b) as) its xs := by
        have E2 : PySem.W.EachIs (fun u d => ∃ v, RD X.K H ρ d v ∧ RelV v u) its xs := E
        refine (PySem.W.each_mem E2).mono fun u b ⟨⟨v, r1, r2⟩, hb⟩ => ?_
        obtain ⟨p, _, hp⟩ := allP_mem q b hb
        have z := Dp.reads I p v u (dp_of r _ _ _ _ r1 hp) r2
        unfold enc
        rw [hp]
        exact z
      have hal : PySem.W.AllAlike (xs.map (enc h)) := by
        rw [em]
        intro x hx y hy
        exact List.all_eq_true.mp (List.all_eq_true.mp c1 x hx) y hy
      have hk : PySem.W.Sortable (xs.map (enc h)) := by
        rw [em]
        rcases (Bool.or_eq_true _ _).mp c2 with c2 | c2
        · left
          intro d hd
          have := List.all_eq_true.mp c2 d hd
          split at this
          · exact ⟨_, _, rfl⟩
          · cases this
        · right
          intro d hd
          have := List.all_eq_true.mp c2 d hd
          refine ⟨fun e => ?_, fun zs e => ?_⟩
          · subst e; cases this
          · subst e; cases this
      have dep : ∀ b, b ∈ xs → (enc h b).depth ≤ dP := fun b hb => by
        obtain ⟨p, _, hp⟩ := allP_mem q b hb
        unfold enc
        rw [hp]
        exact depth_of _ _ _ hp
      have hdP : dP = 30 := rfl
      refine PySem.W.sorted_data (R := fun u d => ∃ v, RD X.K H ρ d v ∧ RelV v u) (s := s) hl.isList E Er hal hk (of_decide_eq_true c3) (fun b hb => ?_) fun out hlen ho => ?_
      · have := dep b hb
        omega
      · obtain ⟨vs2, g1, g2⟩ := of_each ho
        obtain ⟨c, hc⟩ := sortedAll_at s.heap its out.toArray
        have hf : H (s.heap.objs.size + 1) = none := I.hok.fresh (Nat.le_succ _)
        refine ⟨.ref (s.heap.objs.size + 1), _, I.laid (t' := s.toks) (o := .lst vs2) (fun b o q => sortedAll_old q) (Nat.le_succ _) ?_, rfl, fin_alloc f r hf (.lst g1)⟩
        refine ⟨?_, out, c, g2, hc⟩
        rw [← g1.length, List.length_mergeSort]
        exact of_decide_eq_true c3
    · cases e2
theorem sem_sorted (hu : X.A.units + 100 < cLine) : CallR X (.builtin "sorted") (rCall X.K (biop .sorted)) := by
  refine ofCall (cr_sortD hu) ?_
  rintro vs H Q ⟨h, ρ, ds, d, h', r, rs, e, f⟩
  unfold biop at e
  split at e <;> try (first | cases e; done)
  all_goals (rename_i q1; try cases q1)
  split at e
  · rename_i ys q
    cases e
    obtain ⟨xs, e1, e2⟩ := Option.bind_eq_some_iff.mp q
    cases rs with
    | cons r1 r2 =>
      cases r2
      exact ⟨h, ρ, _, xs, ys, _, rfl, r, r1, e1, e2, f⟩
  · cases e
/-! ### repr -/
theorem hasDict_of {h : Sto} : ∀ (k : Nat) (d : D) (p : PyData), toP h k d = some p → p.hasDict = false
  | k, .non, _, e => by unfold toP at e; cases e; rfl
  | k, .bl b, _, e => by unfold toP at e; cases e; rfl
  | k, .int b, _, e => by unfold toP at e; cases e; rfl
  | k, .str b, _, e => by unfold toP at e; cases e; rfl
  | 0, .tup _, _, e => by unfold toP at e; cases e
  | 0, .fl _, _, e => by unfold toP at e; cases e
  | 0, .ref _, _, e => by unfold toP at e; cases e
  | k + 1, .fl xs, p, e => by
    unfold toP at e
    cases q : allP (toP h k) xs with
    | none => rw [q] at e; cases e
    | some ps =>
      rw [q] at e; cases e
      have all : ∀ {xs : List D} {ps : List PyData}, allP (toP h k) xs = some ps → PyData.hasDictAll ps = false := by
        intro xs
        induction xs with
        | nil => intro ps e; cases e; rfl
        | cons x xs ih =>
          intro ps e
          obtain ⟨y, zs, rfl, h1, h2⟩ := allP_cons e
          rw [PyData.hasDictAll, hasDict_of k _ _ h1, ih h2]; rfl
      rw [PyData.hasDict, all q]
  | k + 1, .tup xs, p, e => by
    unfold toP at e
    cases q : allP (toP h k) xs with
    | none => rw [q] at e; cases e
    | some ps =>
      rw [q] at e; cases e
      have all : ∀ {xs : List D} {ps : List PyData}, allP (toP h k) xs = some ps → PyData.hasDictAll ps = false := by
        intro xs
        induction xs with
        | nil => intro ps e; cases e; rfl
        | cons x xs ih =>
          intro ps e
          obtain ⟨y, zs, rfl, h1, h2⟩ := allP_cons e
          rw [PyData.hasDictAll, hasDict_of k _ _ h1, ih h2]; rfl
      rw [PyData.hasDict, all q]
  | k + 1, .ref m, p, e => by
    have all : ∀ {xs : List D} {ps : List PyData}, allP (toP h k) xs = some ps → PyData.hasDictAll ps = false := by
      intro xs
      induction xs with
      | nil => intro ps e; cases e; rfl
      | cons x xs ih =>
        intro ps e
        obtain ⟨y, zs, rfl, h1, h2⟩ := allP_cons e
        rw [PyData.hasDictAll, hasDict_of k _ _ h1, ih h2]; rfl
    unfold toP at e
    split at e
    · rename_i xs _
      cases q : allP (toP h k) xs with
      | none => rw [q] at e; cases e
      | some ps =>
        rw [q] at e; cases e
        rw [PyData.hasDict, all q]
    · cases e
def rRepr (K : PySem.W.Frag) : List V → Hp → VK → Prop := fun vs H Q => ∃ v p, vs = [v] ∧ Dp K H v p ∧ p.hasDict = false ∧ p.showable = true ∧ p.depth ≤ 64 ∧ p.shown.length ≤ sizeLine ∧ Q (.str p.shown) H
theorem cr_repr (hu : X.A.units + 100 < cLine) (hg : X.A.guards = some []) : CallR X (.builtin "repr") (rRepr X.K) := by
  intro pins s σ H vs us Q I rr h
  obtain ⟨v, p, rfl, dp, nd, sh, dep, hz, q⟩ := h
  obtain ⟨u, rfl, ru⟩ := vals1 rr
  obtain ⟨as, rd⟩ := Dp.reads I p v u dp ru
  have nd' : p.hasDict = true → sysModules ∉ as := fun z => by rw [nd] at z; cases z
  have key : ∀ a, u = .ref a → wpAny (model X.prog X.w) X.A (call (.builtin "repr") [u]) (EP X pins σ Q) X.xe s := fun a e => by
    subst e
    exact repr_of_reads' rd sh nd' hg (by omega) (fun _ _ e => e) (fun h' u' tk hk => ⟨.str p.shown, H, I.kept hk, ⟨_, rfl⟩, q⟩) hz
  cases dp with
  | lst _ _ => cases ru; exact key _ rfl
  | tup _ _ => cases ru; exact key _ rfl
  | int i =>
    obtain ⟨t, rfl⟩ := ru
    exact PySem.P.repr_of_int (by simpa [PyData.showable] using sh) ⟨.str _, H, I.tok _, ⟨_, rfl⟩, by simpa [PyData.shown] using q⟩
  | non =>
    cases (show u = Value.none from ru)
    exact PySem.P.repr_of_none ⟨.str _, H, I.tok _, ⟨_, rfl⟩, by simpa [PyData.shown] using q⟩
  | bl b =>
    cases (show u = Value.bool b from ru)
    exact PySem.P.repr_of_bool ⟨.str _, H, I.tok _, ⟨_, rfl⟩, by simpa [PyData.shown] using q⟩
  | str x =>
    obtain ⟨t, rfl⟩ := ru
    exact PySem.P.repr_of_str ⟨.str _, H, I.tok _, ⟨_, rfl⟩, by simpa [PyData.shown] using q⟩ (by simpa [PyData.shown] using hz)
theorem sem_repr (hu : X.A.units + 100 < cLine) (hg : X.A.guards = some []) : CallR X (.builtin "repr") (rCall X.K (biop .repr)) := by
  refine ofCall (cr_repr hu hg) ?_
  rintro vs H Q ⟨h, ρ, ds, d, h', r, rs, e, f⟩
  unfold biop at e
  split at e <;> try (first | cases e; done)
  all_goals (rename_i q1; try cases q1)
  split at e
  · rename_i p q
    split at e
    · rename_i c
      cases e
      obtain ⟨c1, c2⟩ := Bool.and_eq_true_iff.mp c
      cases rs with
      | cons r1 r2 =>
        cases r2
        exact ⟨_, p, rfl, dp_of r _ _ _ _ r1 q, hasDict_of _ _ _ q, c1, Nat.le_trans (depth_of dP _ _ q) (by decide), of_decide_eq_true c2, fin_same f r (.str _)⟩
    · cases e
  · cases e
theorem sem_str : CallR X (.type "str") (rCall X.K (biop .str)) := by
  refine ofCall (call_str_int.or SkE.call_str_str) ?_
  rintro vs H Q ⟨h, ρ, ds, d, h', r, rs, e, f⟩
  unfold biop at e
  split at e <;> try (first | cases e; done)
  all_goals (rename_i q1; try cases q1)
  · split at e
    · cases e
      cases rs with
      | cons r1 r2 => cases r2; cases r1; exact .inl ⟨_, rfl, by assumption, fin_same f r (.str _)⟩
    · cases e
  · cases e
    cases rs with
    | cons r1 r2 => cases r2; cases r1; exact .inr ⟨_, rfl, fin_same f r (.str _)⟩
/-! ### min, max of a sequence -/
theorem ofP_of (h : Sto) : ∀ (k : Nat) (d : D) (p : PyData), toP h k d = some p → d.clo 0 = true → ofP p = d
  | k, .non, _, e, _ => by unfold toP at e; cases e; rfl
  | k, .bl b, _, e, _ => by unfold toP at e; cases e; rfl
  | k, .int b, _, e, _ => by unfold toP at e; cases e; rfl
  | k, .str b, _, e, _ => by unfold toP at e; cases e; rfl
  | 0, .tup _, _, e, _ => by unfold toP at e; cases e
  | 0, .fl _, _, e, _ => by unfold toP at e; cases e
  | k, .ref _, _, e, c => by simp [D.clo] at c
  | k + 1, .fl xs, p, e, c => by
    unfold toP at e
    cases q : allP (toP h k) xs with
    | none => rw [q] at e; cases e
    | some ps =>
      rw [q] at e; cases e
      have all : ∀ {xs : List D} {ps : List PyData}, allP (toP h k) xs = some ps → D.clos 0 xs = true → ofPs ps = xs := by
        intro xs
        induction xs with
        | nil => intro ps e _; cases e; rfl
        | cons x xs ih =>
          intro ps e c
          obtain ⟨y, zs, rfl, h1, h2⟩ := allP_cons e
          rw [D.clos, Bool.and_eq_true] at c
          rw [ofPs, ofP_of h k _ _ h1 c.1, ih h2 c.2]
      rw [ofP, all q (by simpa [D.clo] using c)]
  | k + 1, .tup xs, p, e, c => by
    unfold toP at e
    cases q : allP (toP h k) xs with
    | none => rw [q] at e; cases e
    | some ps =>
      rw [q] at e; cases e
      have all : ∀ {xs : List D} {ps : List PyData}, allP (toP h k) xs = some ps → D.clos 0 xs = true → ofPs ps = xs := by
        intro xs
        induction xs with
        | nil => intro ps e _; cases e; rfl
        | cons x xs ih =>
          intro ps e c
          obtain ⟨y, zs, rfl, h1, h2⟩ := allP_cons e
          rw [D.clos, Bool.and_eq_true] at c
          rw [ofPs, ofP_of h k _ _ h1 c.1, ih h2 c.2]
      rw [ofP, all q (by simpa [D.clo] using c)]
theorem clos_mem {n : Nat} : ∀ {xs : List D}, D.clos n xs = true → ∀ x ∈ xs, D.clo n x = true
  | [], _, _, hx => by cases hx
  | x :: xs, c, y, hy => by
    rw [D.clos, Bool.and_eq_true] at c
    rcases List.mem_cons.mp hy with rfl | hy
    · exact c.1
    · exact clos_mem c.2 y hy
theorem allP_get {α β : Type} {f : α → Option β} : ∀ {xs : List α} {ys : List β}, allP f xs = some ys → ∀ (i : Nat) (x : α), xs[i]? = some x → ∃ y, ys[i]? = some y ∧ f x = some y
  | [], _, _, _, _, hx => by simp at hx
  | x :: xs, _, e, 0, z, hz => by
    obtain ⟨y, zs, rfl, h1, h2⟩ := allP_cons e
    simp at hz; subst hz
    exact ⟨y, rfl, h1⟩
  | x :: xs, _, e, i + 1, z, hz => by
    obtain ⟨y, zs, rfl, h1, h2⟩ := allP_cons e
    obtain ⟨w, h3, h4⟩ := allP_get h2 i z (by simpa using hz)
    exact ⟨w, by simpa using h3, h4⟩
theorem allP_length {α β : Type} {f : α → Option β} : ∀ {xs : List α} {ys : List β}, allP f xs = some ys → xs.length = ys.length
  | [], _, e => by cases e; rfl
  | x :: xs, _, e => by
    obtain ⟨y, zs, rfl, h1, h2⟩ := allP_cons e
    rw [List.length_cons, List.length_cons, allP_length h2]
theorem alikeB_of {ps : List PyData} (h : alikeB ps = true) : ∀ x ∈ ps, ∀ y ∈ ps, PySem.W.alike x y = true := fun x hx y hy => List.all_eq_true.mp (List.all_eq_true.mp h x hx) y hy
theorem noNone_of {ps : List PyData} (h : noNone ps = true) : ∀ x ∈ ps, x ≠ .none := fun x hx e => by
  have := List.all_eq_true.mp h x hx
  subst e; cases this
def rBest (K : PySem.W.Frag) (best : PyData → List PyData → PyData) : List V → Hp → VK → Prop := fun vs H Q => ∃ h ρ d xs p ps v, vs = [v] ∧ RS K H ρ h ∧ RD K H ρ d v ∧ seqOf h d = some xs ∧ allP (toP h dP) xs = some (p :: ps) ∧
  alikeB (p :: ps) = true ∧ noNone (p :: ps) = true ∧ D.clos 0 xs = true ∧ Fin K ρ H (ofP (best p ps)) h Q
/-- the item that comes back is the datum told -/
theorem best_end {pins : List (Addr × Obj)} {s' : Shared} {σ : L2.St} {H : Hp} {Q : VK} {h : Sto} {ρ : List Addr} {xs : List D} {ps : List PyData} {ws : List V} {its : List Value} {m : PyData} {i : Nat} {v : Value} {bs : List Addr}
    (I' : Inv X pins σ H s') (r : RS X.K H ρ h) (rws : RDs X.K H ρ xs ws) (rv : Vals ws its) (q : allP (toP h dP) xs = some ps) (al : alikeB ps = true) (cl : D.clos 0 xs = true) (hm : m ∈ ps) (hv : its[i]? = some v)
    (rd : Reads s'.heap v m bs) (f : Fin X.K ρ H (ofP m) h Q) : EP X pins σ Q v s' := by
  have hi : i < its.length := (List.getElem?_eq_some_iff.mp hv).1
  have l1 := rws.length
  have l2 := rv.length
  have hx : xs[i]? = some xs[i] := List.getElem?_eq_getElem (by omega)
  obtain ⟨y, hy, rdy⟩ := rws.get hx
  obtain ⟨u, hu, ru⟩ := rv.get hy
  rw [hv] at hu; cases hu
  obtain ⟨p', hp, tp⟩ := allP_get q i _ hx
  obtain ⟨as, rd2⟩ := Dp.reads I' p' y v (dp_of r _ _ _ _ rdy tp) ru
  have e : p' = m := PySem.W.alike_unique p' m v as bs (alikeB_of al _ (List.mem_of_getElem? hp) _ hm) rd2 rd
  subst e
  have e2 := ofP_of h dP _ _ tp (clos_mem cl _ (List.mem_of_getElem? hx))
  rw [e2] at f
  exact ⟨y, H, I', ru, fin_same f r rdy⟩
theorem fold_mem {g : PyData → PyData → Bool} : ∀ (ps : List PyData) (p : PyData), (ps.foldl (fun a y => if g y a then y else a) p) ∈ p :: ps
  | [], p => List.mem_cons_self
  | y :: ps, p => by
    rw [List.foldl_cons]
    have := fold_mem (g := g) ps (if g y p then y else p)
    rcases List.mem_cons.mp this with e | e
    · rw [e]
      split
      · exact List.mem_cons_of_mem _ List.mem_cons_self
      · exact List.mem_cons_self
    · exact List.mem_cons_of_mem _ (List.mem_cons_of_mem _ e)
theorem cr_minD (hu : X.A.units + 100 < cLine) (hc : X.calm = true) : CallR X (.builtin "min") (rBest X.K PySem.W.minD) := by
  intro pins s σ H vs us Q I rr hh
  obtain ⟨h, ρ, d, xs, p, ps, v, rfl, r, rd, e1, q, al, nn, cl, f⟩ := hh
  obtain ⟨a, ws, rfl, rws, sq⟩ := seq_of r rd e1
  rw [Vals.ref1 rr]
  have dpa := dpAll_of (dp_of r dP) rws q
  have hd : PyData.depthAll (p :: ps) ≤ dP := depthAll_of (depth_of dP) q
  have hdP : dP = 30 := rfl
  have mm : PySem.W.minD p ps ∈ p :: ps := fold_mem (g := PySem.W.dataLt) ps p
  rcases sq with ⟨sq, _⟩ | ⟨sq, _⟩
  · obtain ⟨its, rv, hl, hz⟩ := I.tuple sq
    obtain ⟨as, ra⟩ := Dp.readsAll I _ _ _ dpa rv
    refine PySem.W.min_tuple_data (I.ok.hd hc) hl ra ⟨alikeB_of al, noNone_of nn⟩ (by omega) fun i v h' tk bs hv rd' hk => ?_
    exact best_end (I.kept (t' := tk) hk) r rws rv q al cl mm (by simpa using hv) rd' f
  · obtain ⟨its, rv, hl, hz⟩ := I.list sq
    obtain ⟨as, ra⟩ := Dp.readsAll I _ _ _ dpa rv
    refine PySem.W.min_list_data (I.ok.hd hc) hl.isList ra ⟨alikeB_of al, noNone_of nn⟩ (by omega) fun i v h' tk bs hv rd' hk => ?_
    exact best_end (I.kept (t' := tk) hk) r rws rv q al cl mm (by simpa using hv) rd' f
theorem cr_maxD (hu : X.A.units + 100 < cLine) (hc : X.calm = true) : CallR X (.builtin "max") (rBest X.K PySem.W.maxD) := by
  intro pins s σ H vs us Q I rr hh
  obtain ⟨h, ρ, d, xs, p, ps, v, rfl, r, rd, e1, q, al, nn, cl, f⟩ := hh
  obtain ⟨a, ws, rfl, rws, sq⟩ := seq_of r rd e1
  rw [Vals.ref1 rr]
  have dpa := dpAll_of (dp_of r dP) rws q
  have hd : PyData.depthAll (p :: ps) ≤ dP := depthAll_of (depth_of dP) q
  have hdP : dP = 30 := rfl
  have mm : PySem.W.maxD p ps ∈ p :: ps := fold_mem (g := fun y a => PySem.W.dataLt a y) ps p
  rcases sq with ⟨sq, _⟩ | ⟨sq, _⟩
  · obtain ⟨its, rv, hl, hz⟩ := I.tuple sq
    obtain ⟨as, ra⟩ := Dp.readsAll I _ _ _ dpa rv
    refine PySem.W.max_tuple_data (I.ok.hd hc) hl ra ⟨alikeB_of al, noNone_of nn⟩ (by omega) fun i v h' tk bs hv rd' hk => ?_
    exact best_end (I.kept (t' := tk) hk) r rws rv q al cl mm (by simpa using hv) rd' f
  · obtain ⟨its, rv, hl, hz⟩ := I.list sq
    obtain ⟨as, ra⟩ := Dp.readsAll I _ _ _ dpa rv
    refine PySem.W.max_list_data (I.ok.hd hc) hl.isList ra ⟨alikeB_of al, noNone_of nn⟩ (by omega) fun i v h' tk bs hv rd' hk => ?_
    exact best_end (I.kept (t' := tk) hk) r rws rv q al cl mm (by simpa using hv) rd' f
theorem sem_minl (hu : X.A.units + 100 < cLine) (hc : X.calm = true) : CallR X (.builtin "min") (rCall X.K (biop .minl)) := by
  refine ofCall (cr_minD hu hc) ?_
  rintro vs H Q ⟨h, ρ, ds, d, h', r, rs, e, f⟩
  unfold biop at e
  split at e <;> try (first | cases e; done)
  all_goals (rename_i q1; try cases q1)
  split at e
  · rename_i xs q
    split at e
    · rename_i p ps q2
      split at e
      · rename_i c
        cases e
        obtain ⟨c, c3⟩ := Bool.and_eq_true_iff.mp c
        obtain ⟨c1, c2⟩ := Bool.and_eq_true_iff.mp c
        cases rs with
        | cons r1 r2 =>
          cases r2
          exact ⟨h, ρ, _, xs, p, ps, _, rfl, r, r1, q, q2, c1, c2, c3, f⟩
      · cases e
    · cases e
  · cases e
theorem sem_maxl (hu : X.A.units + 100 < cLine) (hc : X.calm = true) : CallR X (.builtin "max") (rCall X.K (biop .maxl)) := by
  refine ofCall (cr_maxD hu hc) ?_
  rintro vs H Q ⟨h, ρ, ds, d, h', r, rs, e, f⟩
  unfold biop at e
  split at e <;> try (first | cases e; done)
  all_goals (rename_i q1; try cases q1)
  split at e
  · rename_i xs q
    split at e
    · rename_i p ps q2
      split at e
      · rename_i c
        cases e
        obtain ⟨c, c3⟩ := Bool.and_eq_true_iff.mp c
        obtain ⟨c1, c2⟩ := Bool.and_eq_true_iff.mp c
        cases rs with
        | cons r1 r2 =>
          cases r2
          exact ⟨h, ρ, _, xs, p, ps, _, rfl, r, r1, q, q2, c1, c2, c3, f⟩
      · cases e
    · cases e
  · cases e
end
end Ev
/-! Ev: defs under guards that are known (repr asks for them), their calls, the law's own call. -/
namespace Ev
open PySem PySem.Spec PyProof.Rows L2
/-- a def's promise where no repr runs around it, and nothing is raised -/
structure FnG (P : Program) (w : World) (K : PySem.W.Frag) (mg : Str → Option Value) (base : Heap) (k : Nat) (f : Addr) (fd : FuncData) (ps : List Str) (sp : List V → Hp → VK → Prop) : Prop where
  len : ∀ vs H Q, sp vs H Q → vs.length = ps.length
  run : ∀ (A : Around) (outer : List Env) (s : Shared) (H : Hp) (args : Args) (us : List Value) (vs : List V) (Q : VK), Room k A → A.guards = some [] →
    Env0 P w K mg base A outer s H → BindsTo s fd args (ps.zip us) → Vals vs us → sp vs H Q → codeAny (model P w) A (.call (.ref f) args) (CR CX0 outer P w H s Q E0) s
theorem FnG.mono {P : Program} {w : World} {K : PySem.W.Frag} {mg : Str → Option Value} {base : Heap} {j k : Nat} {f : Addr} {fd : FuncData} {ps : List Str} {sp : List V → Hp → VK → Prop}
    (F : FnG P w K mg base j f fd ps sp) (h : j ≤ k) : FnG P w K mg base k f fd ps sp :=
  ⟨F.len, fun A outer s H args us vs Q hr => F.run A outer s H args us vs Q (hr.mono h)⟩
section
variable {P : Program} {w : World} {K : PySem.W.Frag} {mg : Str → Option Value} {base : Heap}
/-- the rule for a def by its body -/
theorem fnG_of {x qual : Str} {params : Arguments} {body : List Stmt} {scope : Scope} {dvs : List V} {kws : List (Str × V)} {f : Addr} {fd : FuncData} {N ps : List Str} {k : Nat} {sp : List V → Hp → VK → Prop} (F : FunD K x qual params body scope dvs kws f fd) (S : FnScope N ps scope) (len : ∀ vs H Q, sp vs H Q → vs.length = ps.length)
    (hbody : ∀ (cdv : Value) (A : Around) (outer : List Env) (s : Shared) (H : Hp) (vs : List V) (Q : VK), Room k (A.deeper (envOfC qual scope s.heap.objs.size f cdv)) → A.guards = some [] → sp vs H Q →
      ∃ t, PSs (cxOf CX0 P w K mg base N qual scope f cdv A outer s H E0).nox body t ∧ t { nx := fun _ H' => Q .non H', rt := Q } (start N vs) H) : FnG P w K mg base (k + 1) f fd ps sp := by
  obtain ⟨oc, od, dV, kV, doc, pm, an, cdv, ct, osl, rfl, lk, hcd, _, _⟩ := F.ex
  constructor
  · exact len
  intro A outer s H args us vs Q hr hg e0 hb r hsp
  have hl := len _ _ _ hsp
  have hin : ∀ b o, base.get? b = some o → s.heap.get? b = some o := fun b o e => (e0.bs b o e).1
  have KX : K.In s.heap := e0.mod.kin.keeps hin
  have lim : s.heap.NoLimit := e0.mod.nolimit.keeps hin
  have kinds : ∀ y ∈ ps.zip us, scope.names.lookup y.1 = some .local ∨ (scope.names.lookup y.1 = some .cell ∧ ((cellsFrom (s.heap.objs.size + 1) scope.names []).lookup y.1).isSome = true) := by
    rintro ⟨n, v⟩ hy
    have q := S.par n (List.of_mem_zip hy).1
    rcases q with q | q
    · left; exact q
    · right; exact ⟨q, PySem.W.cellsFrom_some _ _ _ (.inl q)⟩
  apply codeAny_call_function hr.depth (KX _ _ lk) rfl S.co S.gen rfl (PySem.W.codeRec_of KX hcd)
  apply hb
  apply wpAny_newFunctionEnv_cells S.kind kinds
  intro env he s1 x
  subst he
  refine ⟨lim.keeps x.toInCall.keep, codeAny_func ?_⟩
  obtain ⟨t, ht, hq⟩ := hbody cdv A outer s H vs Q (Room.deeper hr _) hg hsp
  have I := inv_start (CX := CX0) (P := P) (w := w) (mg := mg) (E := E0) (f := f) (cd := cdv) (qual := qual) S hr.hd e0 hl r x
  have ran := ht.nox.run [] s1 (start N vs) H _ I hq
  apply wpAny_mono ran
  · intro fl s' hs
    cases fl with
    | ret u =>
      obtain ⟨v, σ', H', J, rv, q⟩ := hs
      exact ⟨v, H', J.os, J.bare, J.base, J.hok, rv, q⟩
    | next =>
      obtain ⟨σ', H', J, q⟩ := hs
      exact ⟨.non, H', J.os, J.bare, J.base, J.hok, rfl, q⟩
    | brk => exact hs.elim fun _ ⟨_, _, q⟩ => q.elim
    | cont => exact hs.elim fun _ ⟨_, _, q⟩ => q.elim
  · intro e s' hs
    exact hs
end
section
variable {X : Cx} {k : Nat} {f : Addr} {fd : FuncData} {ps : List Str} {sp : List V → Hp → VK → Prop} {x : Str} {p pos : Pos} {e : Expr} {es : List Expr} {t : TA}
def tCallG (sp : List V → Hp → VK → Prop) (t : TA) : TE := fun σ H Q => t σ H fun vs H1 => sp vs H1 Q
theorem runG {pins : List (Addr × Obj)} {σ : L2.St} {H : Hp} {s : Shared} {Q : VK} {us : List Value} {vs : List V} (F : FnG X.prog X.w X.K X.mg X.base k f fd ps sp) (hr : Room k X.A) (hg : X.A.guards = some []) (hb : Binds X.K fd ps [])
    (I : Inv X pins σ H s) (r : Vals vs us) (h : sp vs H Q) : wpAny (model X.prog X.w) X.A (call (.ref f) us) (EP X pins σ Q) X.xe s := by
  have hl : us.length = ps.length := by rw [← r.length]; exact F.len _ _ _ h
  have hb' : BindsTo s fd ⟨us, []⟩ (ps.zip us) := by
    have := hb s us I.kIn (by simpa using hl)
    simpa using this
  apply wpAny_call
  apply codeAny_mono (F.run X.A X.stack s H ⟨us, []⟩ us vs Q hr hg I.env0 hb' r h)
  rintro (e | fl) s' hq
  · exact False.elim hq
  · cases fl with
    | ret u => exact I.after hq
    | next => exact False.elim hq
    | brk => exact False.elim hq
    | cont => exact False.elim hq
theorem pe_callG (F : FnG X.prog X.w X.K X.mg X.base k f fd ps sp) (hr : Room k X.A) (hgd : X.A.guards = some []) (hg : Gl X x) (hm : X.mg x = some (.ref f)) (hk : PySem.W.keepIn X.K (.ref f) = true) (hb : Binds X.K fd ps [])
    (ha : PA X (e :: es) t) (hdb : (x == ("__debug__" : Str)) = false) (he : starEach (e :: es) X.env = (false, eval e X.env) :: starEach es X.env) (hpl : (backTo pos (starEach es X.env)).any (·.1) = false) :
    PE X (.Call (.Name x p) (e :: es) [] pos) (tCallG sp t) := by
  constructor
  intro pins s σ H Q I h
  apply wpAny_Call_Name_kw
  apply ld_glob I hg hm _ hdb
  apply PySem.W.callWith_K (h₀ := X.base) I.ok.mod.kin hk _ he hpl
  apply thn (ha.run pos pins s σ H _ I h)
  rintro us s1 ⟨vs, H1, I1, r, q⟩
  exact ⟨I1.kIn, runG F hr hgd hb I1 r q⟩
theorem pe_callG0 (F : FnG X.prog X.w X.K X.mg X.base k f fd ps sp) (hr : Room k X.A) (hgd : X.A.guards = some []) (hg : Gl X x) (hm : X.mg x = some (.ref f)) (hk : PySem.W.keepIn X.K (.ref f) = true) (hb : Binds X.K fd ps [])
    (hdb : (x == ("__debug__" : Str)) = false) : PE X (.Call (.Name x p) [] [] pos) (tCallG sp tNil) := by
  constructor
  intro pins s σ H Q I h
  apply wpAny_Call_Name_kw
  apply ld_glob I hg hm _ hdb
  exact PySem.W.callWith_K0 I.kIn hk (runG (us := []) F hr hgd hb I .nil h)
end
/-! ### the law's own call -/
/-- the heap at the law's entry: the script alone is followed -/
def scrH (a : Addr) (o : Obj) (ns : List Int) : Hp := fun b => if b = a then some (.frz o (.lst (ns.map V.int))) else none
theorem scrH_at {a : Addr} {o : Obj} {ns : List Int} : scrH a o ns a = some (.frz o (.lst (ns.map V.int))) := if_pos rfl
theorem scrH_ne {a b : Addr} {o : Obj} {ns : List Int} (h : b ≠ a) : scrH a o ns b = none := if_neg h
theorem law_callG {P : Program} {w : World} {K : PySem.W.Frag} {mg mb : Str → Option Value} {k : Nat} {fa a : Addr} {fd : FuncData} {x : Str} {sp : List V → Hp → VK → Prop} {s₁ : Shared} {vs : List Value} {ns : List Int}
    (KX : K.In s₁.heap) (hns : s₁.heap.Ns mainGlobals mg) (hb : s₁.heap.Ns builtinsNs mb) (hbb : ∀ x : Str, x ≠ "__name__" → mb x = bootBuiltins x) (hlim : s₁.heap.NoLimit) (hg : s₁.gens = #[])
    (ha : s₁.heap.get? a = some { cls := .type "list", data := .seq vs.toArray }) (hi : IntsAre vs ns) (hl : ns.length ≤ sizeLine) (hr : Room k callerA)
    (F : ∀ base : Heap, K.In base → base.Ns mainGlobals mg → FnG P w K mg base k fa fd [x] sp) (hbind : ∀ (s : Shared) (u : Value), BindsTo s fd ⟨[u], []⟩ [(x, u)])
    (hsp : ∀ H, Only H → SqF K H a (ns.map V.int) → sp [.ref a] H (fun v _ => v = .bl true)) :
    codeAny (model P w) callerA (.call (.ref fa) ⟨[.ref a], []⟩) (fun r s' => r = .ok (.ret (.bool true)) ∧ OldK s₁.heap s'.heap ∧ s'.os = s₁.os ∧ AllBare s'.gens) s₁ := by
  have rv := vals_ints hi
  generalize ho : ({ cls := .type "list", data := .seq vs.toArray } : Obj) = o at ha
  -- the script followed as a locked list, or not followed at all where it is the module's own
  have both : ∀ H : Hp, (∀ b, b ≠ a → H b = none) → (H a = some (.frz o (.lst (ns.map V.int))) ∨ H a = none) → (H a ≠ none → K.lookup a = none) → SqF K H a (ns.map V.int) →
      codeAny (model P w) callerA (.call (.ref fa) ⟨[.ref a], []⟩) (fun r s' => r = .ok (.ret (.bool true)) ∧ OldK s₁.heap s'.heap ∧ s'.os = s₁.os ∧ AllBare s'.gens) s₁ := by
    intro H only at_ hKa hS
    have ok : HOk P w H s₁.heap := by
      intro b u e
      by_cases hb : b = a
      · subst hb
        rcases at_ with at_ | at_
        · rw [at_] at e
          cases e
          refine ⟨ha, by rw [List.length_map]; exact hl, vs, 0, rv, ?_⟩
          rw [ha, ← ho]
        · rw [at_] at e; cases e
      · rw [only b hb] at e; cases e
    have free : ∀ {b : Addr} {q : Obj} {es : Array DictEntry} {ep : Nat}, s₁.heap.get? b = some q → q.data = .dict es ep → H b = none := by
      intro b q es ep e d
      by_cases hb : b = a
      · subst hb
        rw [ha] at e
        cases e
        rw [← ho] at d
        cases d
      · exact only b hb
    have ns' : ∀ {b : Addr} {m : Str → Option Value}, s₁.heap.Ns b m → (hidT s₁.heap H).Ns b m := by
      rintro b m ⟨q, es, ep, e, d, r⟩
      exact ⟨q, es, ep, hidT_get e (free e d), d, r⟩
    have kin : K.In (hidT s₁.heap H) := by
      intro b q e
      apply hidT_get (KX b q e)
      by_cases hb : b = a
      · subst hb
        cases z : H b with
        | none => rfl
        | some u => rw [hKa (by rw [z]; simp)] at e; cases e
      · exact only b hb
    have md : Mod K mg (hidT s₁.heap H) := by
      obtain ⟨mc, h1, h2⟩ := hlim
      exact ⟨kin, ns' hns, ⟨mb, ns' hb, hbb⟩, ⟨mc, ns' h1, h2⟩⟩
    have e0 : Env0 P w K mg (hidT s₁.heap H) callerA [] s₁ H := by
      constructor
      · rfl
      · exact md
      · intro b q e; exact of_hidT e
      · exact Nat.le_of_eq (hidT_size _ _)
      · trivial
      · intro b hb; exact absurd (show b ∈ ([] : List Addr) from hb) (by simp)
      · exact ok
      · exact .of_eq hg
    have isOnly : Only H := by
      intro b
      by_cases hb : b = a
      · subst hb
        rcases at_ with at_ | at_
        · exact .inr ⟨_, _, at_⟩
        · exact .inl at_
      · exact .inl (only b hb)
    have goal := (F _ kin (ns' hns)).run callerA [] s₁ H ⟨[.ref a], []⟩ [.ref a] [.ref a] _ hr rfl e0 (hbind s₁ (.ref a)) (.cons rfl .nil) (hsp H isOnly hS)
    apply codeAny_mono goal
    rintro (e | fl) s' hq
    · exact False.elim hq
    cases fl with
    | next => exact False.elim hq
    | brk => exact False.elim hq
    | cont => exact False.elim hq
    | ret u =>
      obtain ⟨v, H', os, bare, un, ok', r', q⟩ := hq
      have q' : v = .bl true := q
      subst q'
      have eu : u = Value.bool true := r'
      subst eu
      refine ⟨rfl, OldK.of_keep fun b q e => ?_, os, bare⟩
      cases z : H b with
      | none => exact un.keep b q e z (fun z => absurd (show b ∈ ([] : List Addr) from z) (by simp)) (by simp)
      | some u =>
        have hb : b = a := by
          by_cases hb : b = a
          · exact hb
          · rw [only b hb] at z; cases z
        subst hb
        rcases at_ with at_ | at_
        · have z2 := un.frzs b _ _ at_
          obtain ⟨e2, _⟩ := ok' b _ z2
          rw [ha] at e
          cases e
          exact e2
        · rw [at_] at z; cases z
  cases hk : K.lookup a with
  | none => exact both (scrH a o ns) (fun b e => scrH_ne e) (.inl scrH_at) (fun _ => hk) (.inl ⟨o, scrH_at⟩)
  | some o' =>
    have e := KX a o' hk
    rw [ha] at e
    cases e
    refine both (fun _ => none) (fun _ _ => rfl) (.inr rfl) (fun z => absurd rfl z) (.inr ⟨o, vs.toArray, 0, hk, ?_, ?_, ?_, ?_, by simpa using rv⟩)
    · rw [← ho]
    · rw [← ho]
    · rw [← ho]
    · rw [List.size_toArray, hi.length]; exact hl
end Ev
/-! Ev: expressions. -/
namespace Ev
open PySem PySem.Spec PyProof.Rows L2
theorem Res.bind_eq {α β : Type} {r : Res α} {f : α → Sto → Res β} {b : β} {h : Sto} (e : r.bind f = .ok b h) : ∃ a h1, r = .ok a h1 ∧ f a h1 = .ok b h := by
  cases r with
  | ok a h1 => exact ⟨a, h1, rfl, e⟩
  | exc x y => cases e
  | bad => cases e
def tE (K : PySem.W.Frag) (c : CallT) (x : X) : TE := fun σ H Q => ∃ sl h ρ d h', Rsl K H ρ sl σ ∧ RS K H ρ h ∧ ev c x sl h = .ok d h' ∧ Fin K ρ H d h' Q
/-- as a test -/
def FinT (K : PySem.W.Frag) (ρ : List Addr) (H : Hp) (b : Bool) (h' : Sto) (Q : Bool → Hp → Prop) : Prop := ∀ H' ρ', Post ρ H ρ' H' → RS K H' ρ' h' → Q b H'
def tT (K : PySem.W.Frag) (c : CallT) (x : X) : TT := fun σ H Q => ∃ sl h ρ d h' b, Rsl K H ρ sl σ ∧ RS K H ρ h ∧ ev c x sl h = .ok d h' ∧ truth h' d = some b ∧ FinT K ρ H b h' Q
def FinA (K : PySem.W.Frag) (ρ : List Addr) (H : Hp) (ds : List D) (h' : Sto) (Q : List V → Hp → Prop) : Prop := ∀ vs H' ρ', Post ρ H ρ' H' → RS K H' ρ' h' → RDs K H' ρ' ds vs → Q vs H'
def tA (K : PySem.W.Frag) (c : CallT) (xs : List X) : TA := fun σ H Q => ∃ sl h ρ ds h', Rsl K H ρ sl σ ∧ RS K H ρ h ∧ evs c xs sl h = .ok ds h' ∧ FinA K ρ H ds h' Q
section
variable {X : Cx} {c : CallT} {a b e : Expr} {xa xb xc : Ev.X} {pos : Pos}
theorem PE.to {t t' : TE} (h : PE X e t) (g : ∀ σ H Q, t' σ H Q → t σ H Q) : PE X e t' := ⟨fun pins s σ H Q I q => h.run pins s σ H Q I (g σ H Q q)⟩
theorem PE.or {t t' : TE} (h : PE X e t) (h' : PE X e t') : PE X e (fun σ H Q => t σ H Q ∨ t' σ H Q) := ⟨fun pins s σ H Q I q => q.elim (h.run pins s σ H Q I) (h'.run pins s σ H Q I)⟩
theorem PT.to {t t' : TT} (h : PT X e t) (g : ∀ σ H Q, t' σ H Q → t σ H Q) : PT X e t' := ⟨fun pins s σ H Q I q => h.run pins s σ H Q I (g σ H Q q)⟩
theorem PW.to {t t' : TT} (h : PW X e t) (g : ∀ σ H Q, t' σ H Q → t σ H Q) : PW X e t' := ⟨fun wh pins s σ H Q I q => h.run wh pins s σ H Q I (g σ H Q q)⟩
theorem PA.to {es : List Expr} {t t' : TA} (h : PA X es t) (g : ∀ σ H Q, t' σ H Q → t σ H Q) : PA X es t' := ⟨fun pos pins s σ H Q I q => h.run pos pins s σ H Q I (g σ H Q q)⟩
theorem x_var {i : Nat} {n : Str} (hN : X.N[i]? = some n) (hv : Vis X.env.scope n) (hd : (n == ("__debug__" : Str)) = false) (hcd : (n == ("__classdict__" : Str)) = false) : PE X (.Name n pos) (tE X.K c (.var i)) := by
  refine PE.to (pe_var hN hv hd hcd) ?_
  rintro σ H Q ⟨sl, h, ρ, d, h', rl, r, e, f⟩
  simp only [ev] at e
  split at e
  · rename_i d' q
    cases e
    obtain ⟨v, h1, h2⟩ := rl.2 i _ q
    exact ⟨v, h1, fin_same f r h2⟩
  · cases e
/-- scalars -/
inductive Scal : D → Const → V → Prop
  | non : Scal .non .none .non
  | bl (b : Bool) : Scal (.bl b) (.bool b) (.bl b)
  | int (i : Int) : Scal (.int i) (.int i) (.int i)
  | str (s : Str) : Scal (.str s) (.str s) (.str s)
theorem Scal.rd {K : PySem.W.Frag} {H : Hp} {ρ : List Addr} {d : D} {q : Const} {v : V} (s : Scal d q v) : RD K H ρ d v := by
  cases s <;> constructor
theorem x_cst {d : D} {q : Const} {v : V} {k : Nat} (s : Scal d q v) : PE X (.Constant q k pos) (tE X.K c (.cst d)) := by
  have go : ∀ σ H Q, tE X.K c (.cst d) σ H Q → tC v σ H Q := by
    rintro σ H Q ⟨sl, h, ρ, d', h', rl, r, e, f⟩
    simp only [ev] at e
    cases e
    exact fin_same f r s.rd
  cases s with
  | non => exact PE.to pe_non go
  | bl b => exact PE.to pe_bl go
  | int i => exact PE.to pe_int go
  | str z => exact PE.to pe_str go
theorem x_glob {d : D} {v : V} {u : Value} {n : Str} (hg : Gl X n) (hm : X.mg n = some u) (ru : RelV v u) (rd : ∀ H ρ, RD X.K H ρ d v) (hd : (n == ("__debug__" : Str)) = false) : PE X (.Name n pos) (tE X.K c (.glob d)) := by
  refine PE.to (pe_glob hg hm ru hd) ?_
  rintro σ H Q ⟨sl, h, ρ, d', h', rl, r, e, f⟩
  simp only [ev] at e
  cases e
  exact fin_same f r (rd _ _)
theorem x_nil : PA X [] (tA X.K c []) := by
  refine PA.to pa_nil ?_
  rintro σ H Q ⟨sl, h, ρ, ds, h', rl, r, e, f⟩
  simp only [evs] at e
  cases e
  exact f [] H ρ .refl r .nil
theorem x_cons {es : List Expr} {xs : List Ev.X} (ha : PE X e (tE X.K c xa)) (hr : PA X es (tA X.K c xs)) (hs : starEach (e :: es) X.env = (false, eval e X.env) :: starEach es X.env) : PA X (e :: es) (tA X.K c (xa :: xs)) := by
  refine PA.to (pa_cons ha hr hs) ?_
  rintro σ H Q ⟨sl, h, ρ, ds, h', rl, r, e, f⟩
  simp only [evs] at e
  obtain ⟨d1, h1, e1, e⟩ := Res.bind_eq e
  obtain ⟨d2, h2, e2, e⟩ := Res.bind_eq e
  cases e
  refine ⟨sl, h, ρ, d1, h1, rl, r, e1, fun v H1 ρ1 p1 r1 rd1 => ?_⟩
  refine ⟨sl, h1, ρ1, d2, _, rl.ext (p1.ext r), r1, e2, fun vs H2 ρ2 p2 r2 rd2 => ?_⟩
  exact f _ _ _ (p1.trans p2) r2 (.cons (rd1.ext (p2.ext r1)) rd2)
theorem x_tup {es : List Expr} {xs : List Ev.X} {k : Nat} (ha : PA X es (tA X.K c xs)) (hl : xs.length ≤ sizeLine) : PE X (.Tuple es k pos) (tE X.K c (.tup xs)) := by
  refine PE.to (pe_tup ha) ?_
  rintro σ H Q ⟨sl, h, ρ, d, h', rl, r, e, f⟩
  simp only [ev] at e
  obtain ⟨ds, h1, e1, e⟩ := Res.bind_eq e
  cases e
  have len : ∀ {xs : List Ev.X} {h : Sto} {ds : List D} {h1 : Sto}, evs c xs sl h = .ok ds h1 → ds.length = xs.length := by
    intro xs
    induction xs with
    | nil => intro h ds h1 e; simp only [evs] at e; cases e; rfl
    | cons x xs ih =>
      intro h ds h1 e
      simp only [evs] at e
      obtain ⟨d1, _, _, e⟩ := Res.bind_eq e
      obtain ⟨d2, _, e2, e⟩ := Res.bind_eq e
      cases e
      simp [ih e2]
  refine ⟨sl, h, ρ, ds, _, rl, r, e1, fun vs H1 ρ1 p1 r1 rd1 => ⟨by rw [← rd1.length, len e1]; exact hl, fun p hp => fin_tup (f.trans p1) r1 hp rd1⟩⟩
theorem x_lst {es : List Expr} {xs : List Ev.X} (ha : PA X es (tA X.K c xs)) (hl : xs.length ≤ sizeLine) : PE X (.List es pos) (tE X.K c (.lst xs)) := by
  refine PE.to (pe_lst ha) ?_
  rintro σ H Q ⟨sl, h, ρ, d, h', rl, r, e, f⟩
  simp only [ev] at e
  obtain ⟨ds, h1, e1, e⟩ := Res.bind_eq e
  cases e
  have len : ∀ {xs : List Ev.X} {h : Sto} {ds : List D} {h1 : Sto}, evs c xs sl h = .ok ds h1 → ds.length = xs.length := by
    intro xs
    induction xs with
    | nil => intro h ds h1 e; simp only [evs] at e; cases e; rfl
    | cons x xs ih =>
      intro h ds h1 e
      simp only [evs] at e
      obtain ⟨d1, _, _, e⟩ := Res.bind_eq e
      obtain ⟨d2, _, e2, e⟩ := Res.bind_eq e
      cases e
      simp [ih e2]
  refine ⟨sl, h, ρ, ds, _, rl, r, e1, fun vs H1 ρ1 p1 r1 rd1 => ⟨by rw [← rd1.length, len e1]; exact hl, fun p hp => fin_alloc (f.trans p1) r1 hp (.lst rd1)⟩⟩
/-- two operands, then an operation -/
theorem two_of {K : PySem.W.Frag} {f : D → D → Sto → Res D} {σ : L2.St} {H : Hp} {Q : VK} {sl : SL} {h : Sto} {ρ : List Addr} {d : D} {h' : Sto} (rl : Rsl K H ρ sl σ) (r : RS K H ρ h)
    (e : (ev c xa sl h).bind (fun x h => (ev c xb sl h).bind fun y h => f x y h) = .ok d h') (fi : Fin K ρ H d h' Q) : tOp (rSem K f) (tE K c xa) (tE K c xb) σ H Q := by
  obtain ⟨x, h1, e1, e⟩ := Res.bind_eq e
  obtain ⟨y, h2, e2, e⟩ := Res.bind_eq e
  refine ⟨sl, h, ρ, x, h1, rl, r, e1, fun v H1 ρ1 p1 r1 rd1 => ?_⟩
  refine ⟨sl, h1, ρ1, y, h2, rl.ext (p1.ext r), r1, e2, fun w H2 ρ2 p2 r2 rd2 => ?_⟩
  exact ⟨h2, ρ2, x, y, d, h', r2, rd1.ext (p2.ext r1), rd2, e, fi.trans (p1.trans p2)⟩
theorem x_bin {o : BOp} (ha : PE X a (tE X.K c xa)) (hb : PE X b (tE X.K c xb)) : PE X (.BinOp a o.op b pos) (tE X.K c (.bin o xa xb)) := by
  refine PE.to (pe_op (sem_bin o) ha hb) ?_
  rintro σ H Q ⟨sl, h, ρ, d, h', rl, r, e, f⟩
  simp only [ev] at e
  exact two_of rl r e f
theorem x_cmp {o : COp} (hu : X.A.units + 100 < cLine) (ha : PE X a (tE X.K c xa)) (hb : PE X b (tE X.K c xb)) (hm : behindInMarks o.op b = false) : PE X (.Compare a [o.op] [b] pos) (tE X.K c (.cmp o xa xb)) := by
  refine PE.to (pe_cmpR (sem_cmp hu o) ha hb hm) ?_
  rintro σ H Q ⟨sl, h, ρ, d, h', rl, r, e, f⟩
  simp only [ev] at e
  exact two_of rl r e f
theorem cmpop_bl {o : COp} {x y d : D} {h h' : Sto} (e : cmpop o x y h = .ok d h') : ∃ b, d = .bl b := by
  cases o <;> simp only [cmpop] at e <;> (repeat' (split at e)) <;> first | (cases e; exact ⟨_, rfl⟩) | cases e
theorem truth_bl {h : Sto} {b : Bool} : truth h (.bl b) = some b := rfl
theorem xt_cmp {o : COp} (hu : X.A.units + 100 < cLine) (ha : PE X a (tE X.K c xa)) (hb : PE X b (tE X.K c xb)) (hm : behindInMarks o.op b = false) : PT X (.Compare a [o.op] [b] pos) (tT X.K c (.cmp o xa xb)) := by
  refine PT.to (pt_cmpR (sem_cmp hu o) ha hb hm) ?_
  rintro σ H Q ⟨sl, h, ρ, d, h', k, rl, r, e, tr, f⟩
  simp only [ev] at e
  have e0 := e
  obtain ⟨x, h1, e1, e⟩ := Res.bind_eq e
  obtain ⟨y, h2, e2, e⟩ := Res.bind_eq e
  obtain ⟨k', rfl⟩ := cmpop_bl e
  cases tr
  refine two_of rl r e0 fun v H' ρ' p r' rd => ?_
  cases rd
  exact ⟨k, rfl, f _ _ p r'⟩
/-- the chain's second half -/
theorem chain_of {K : PySem.W.Frag} {o p : COp} {σ : L2.St} {H : Hp} {Q : VK} {sl : SL} {h : Sto} {ρ : List Addr} {d : D} {h' : Sto} (rl : Rsl K H ρ sl σ) (r : RS K H ρ h)
    (e : ev c (.chain o p xa xb xc) sl h = .ok d h') (fi : Fin K ρ H d h' Q) : tChain (rSem K (cmpop o)) (rSem K (cmpop p)) (tE K c xa) (tE K c xb) (tE K c xc) σ H Q := by
  simp only [ev] at e
  obtain ⟨x, h1, e1, e⟩ := Res.bind_eq e
  obtain ⟨y, h2, e2, e⟩ := Res.bind_eq e
  obtain ⟨z, h3, e3, e⟩ := Res.bind_eq e
  refine ⟨sl, h, ρ, x, h1, rl, r, e1, fun v H1 ρ1 p1 r1 rd1 => ?_⟩
  refine ⟨sl, h1, ρ1, y, h2, rl.ext (p1.ext r), r1, e2, fun w H2 ρ2 p2 r2 rd2 => ?_⟩
  refine ⟨h2, ρ2, x, y, z, h3, r2, rd1.ext (p2.ext r1), rd2, e3, fun u H3 ρ3 p3 r3 rd3 => ?_⟩
  obtain ⟨k, rfl⟩ := cmpop_bl e3
  cases rd3
  refine ⟨k, rfl, ?_⟩
  have pp := p1.trans (p2.trans p3)
  cases k with
  | true =>
    rw [if_pos rfl]
    simp only at e
    obtain ⟨q, h4, e4, e⟩ := Res.bind_eq e
    refine ⟨sl, h3, ρ3, q, h4, rl.ext (pp.ext r), r3, e4, fun t H4 ρ4 p4 r4 rd4 => ?_⟩
    exact ⟨h4, ρ4, y, q, d, h', r4, rd2.ext ((p3.trans p4).ext r2), rd4, e, fi.trans (pp.trans p4)⟩
  | false =>
    rw [if_neg Bool.false_ne_true]
    simp only at e
    cases e
    exact fin_same (fi.trans pp) r3 (.bl _)
theorem x_chain {o p : COp} {b2 : Expr} (hu : X.A.units + 100 < cLine) (ha : PE X a (tE X.K c xa)) (hb : PE X b (tE X.K c xb)) (hc : PE X b2 (tE X.K c xc)) (hm : lastMarks [o.op, p.op] [b, b2] = false) :
    PE X (.Compare a [o.op, p.op] [b, b2] pos) (tE X.K c (.chain o p xa xb xc)) := by
  refine PE.to (pe_chain (sem_cmp hu o) (sem_cmp hu p) ha hb hc hm) ?_
  rintro σ H Q ⟨sl, h, ρ, d, h', rl, r, e, f⟩
  exact chain_of rl r e f
theorem chain_bl {o p : COp} {sl : SL} {h : Sto} {d : D} {h' : Sto} (e : ev c (.chain o p xa xb xc) sl h = .ok d h') : ∃ k, d = .bl k := by
  simp only [ev] at e
  obtain ⟨x, h1, e1, e⟩ := Res.bind_eq e
  obtain ⟨y, h2, e2, e⟩ := Res.bind_eq e
  obtain ⟨z, h3, e3, e⟩ := Res.bind_eq e
  obtain ⟨k, rfl⟩ := cmpop_bl e3
  cases k with
  | true =>
    simp only at e
    obtain ⟨q, h4, e4, e⟩ := Res.bind_eq e
    exact cmpop_bl e
  | false => simp only at e; cases e; exact ⟨_, rfl⟩
theorem xt_chain {o p : COp} {b2 : Expr} (hu : X.A.units + 100 < cLine) (ha : PE X a (tE X.K c xa)) (hb : PE X b (tE X.K c xb)) (hc : PE X b2 (tE X.K c xc)) (hm : lastMarks [o.op, p.op] [b, b2] = false) :
    PT X (.Compare a [o.op, p.op] [b, b2] pos) (tT X.K c (.chain o p xa xb xc)) := by
  refine PT.to (pt_chain (sem_cmp hu o) (sem_cmp hu p) ha hb hc hm) ?_
  rintro σ H Q ⟨sl, h, ρ, d, h', k, rl, r, e, tr, f⟩
  obtain ⟨k', rfl⟩ := chain_bl e
  cases tr
  refine chain_of rl r e fun v H' ρ' p r' rd => ?_
  cases rd
  exact ⟨k, rfl, f _ _ p r'⟩
/-! ### truth -/
theorem tru_of {K : PySem.W.Frag} {H : Hp} {ρ : List Addr} {h : Sto} (r : RS K H ρ h) {d : D} {v : V} (rd : RD K H ρ d v) {k : Bool} (e : truth h d = some k) : TruV K v H k := by
  cases rd with
  | non => cases e; rfl
  | bl b => cases e; rfl
  | int i => cases e; rfl
  | str s => cases e
  | @tup a xs vs s rs =>
    simp only [truth] at e; cases e
    refine .inr (.inl ⟨vs, s, ?_⟩)
    cases rs <;> rfl
  | @fl a xs vs s rs =>
    simp only [truth] at e; cases e
    refine .inl ⟨vs, s.l, ?_⟩
    cases rs <;> rfl
  | @ref n a en =>
    simp only [truth] at e
    cases q : h[n]? with
    | none => rw [q] at e; cases e
    | some o =>
      rw [q] at e
      obtain ⟨b, ho, h1, h2, h3⟩ := r.at_ n o q
      rw [en] at h1; cases h1
      cases h3 with
      | @lst xs vs r3 =>
        cases e
        refine .inl ⟨vs, .inl (.inl h2), ?_⟩
        cases r3 <;> rfl
      | dk r3 => cases e
theorem xt_val (ha : PE X a (tE X.K c xa)) (he : ∀ whole, isTrue a X.env whole = (do let v ← whole; standAt a.pos; holding [v] (truthy v))) : PT X a (tT X.K c xa) := by
  refine PT.to (pt_truth ha he) ?_
  rintro σ H Q ⟨sl, h, ρ, d, h', k, rl, r, e, tr, f⟩
  refine ⟨sl, h, ρ, d, h', rl, r, e, fun v H' ρ' p r' rd => ⟨k, tru_of r' rd tr, f _ _ p r'⟩⟩
theorem x_not (ha : PE X a (tE X.K c xa)) : PE X (.UnaryOp .Not a pos) (tE X.K c (.not xa)) := by
  refine PE.to (pe_notT ha) ?_
  rintro σ H Q ⟨sl, h, ρ, d, h', rl, r, e, f⟩
  simp only [ev] at e
  obtain ⟨x, h1, e1, e⟩ := Res.bind_eq e
  split at e
  · rename_i k tr
    cases e
    refine ⟨sl, h, ρ, x, _, rl, r, e1, fun v H' ρ' p r' rd => ⟨k, tru_of r' rd tr, fin_same (f.trans p) r' (.bl _)⟩⟩
  · cases e
theorem xt_not (ha : PT X a (tT X.K c xa)) : PT X (.UnaryOp .Not a pos) (tT X.K c (.not xa)) := by
  refine PT.to (pt_not ha) ?_
  rintro σ H Q ⟨sl, h, ρ, d, h', k, rl, r, e, tr, f⟩
  simp only [ev] at e
  obtain ⟨x, h1, e1, e⟩ := Res.bind_eq e
  split at e
  · rename_i k' tr'
    cases e
    cases tr
    exact ⟨sl, h, ρ, x, _, k', rl, r, e1, tr', fun H' ρ' p r' => f _ _ p r'⟩
  · cases e
theorem x_neg (ha : PE X a (tE X.K c xa)) : PE X (.UnaryOp .USub a pos) (tE X.K c (.neg xa)) := by
  refine PE.to (pe_un un_neg ha) ?_
  rintro σ H Q ⟨sl, h, ρ, d, h', rl, r, e, f⟩
  simp only [ev] at e
  obtain ⟨x, h1, e1, e⟩ := Res.bind_eq e
  split at e
  · cases e
    refine ⟨sl, h, ρ, _, _, rl, r, e1, fun v H' ρ' p r' rd => ?_⟩
    cases rd
    exact ⟨_, rfl, fin_same (f.trans p) r' (.int _)⟩
  · cases e
theorem x_one {op : BoolOp} (ha : PE X a (tE X.K c xa)) : PE X (.BoolOp op [a] pos) (tE X.K c (.one xa)) := by
  refine PE.to (pe_one ha) ?_
  rintro σ H Q ⟨sl, h, ρ, d, h', rl, r, e, f⟩
  simp only [ev] at e
  exact ⟨sl, h, ρ, d, h', rl, r, e, f⟩
theorem x_and {rest : List Expr} (ha : PE X a (tE X.K c xa)) (hb : PE X (.BoolOp .And (b :: rest) pos) (tE X.K c xb)) : PE X (.BoolOp .And (a :: b :: rest) pos) (tE X.K c (.and xa xb)) := by
  refine PE.to (pe_and ha hb) ?_
  rintro σ H Q ⟨sl, h, ρ, d, h', rl, r, e, f⟩
  simp only [ev] at e
  obtain ⟨x, h1, e1, e⟩ := Res.bind_eq e
  refine ⟨sl, h, ρ, x, h1, rl, r, e1, fun v H1 ρ1 p1 r1 rd1 => ?_⟩
  split at e
  · cases rd1
    exact ⟨true, rfl, by rw [if_pos rfl]; exact ⟨sl, h1, ρ1, d, h', rl.ext (p1.ext r), r1, e, f.trans p1⟩⟩
  · cases rd1
    cases e
    exact ⟨false, rfl, by rw [if_neg Bool.false_ne_true]; exact fin_same (f.trans p1) r1 (.bl _)⟩
  · cases e
theorem x_or {rest : List Expr} (ha : PE X a (tE X.K c xa)) (hb : PE X (.BoolOp .Or (b :: rest) pos) (tE X.K c xb)) : PE X (.BoolOp .Or (a :: b :: rest) pos) (tE X.K c (.or xa xb)) := by
  refine PE.to (pe_or ha hb) ?_
  rintro σ H Q ⟨sl, h, ρ, d, h', rl, r, e, f⟩
  simp only [ev] at e
  obtain ⟨x, h1, e1, e⟩ := Res.bind_eq e
  refine ⟨sl, h, ρ, x, h1, rl, r, e1, fun v H1 ρ1 p1 r1 rd1 => ?_⟩
  split at e
  · cases rd1
    cases e
    exact ⟨true, rfl, by rw [if_pos rfl]; exact fin_same (f.trans p1) r1 (.bl _)⟩
  · cases rd1
    exact ⟨false, rfl, by rw [if_neg Bool.false_ne_true]; exact ⟨sl, h1, ρ1, d, h', rl.ext (p1.ext r), r1, e, f.trans p1⟩⟩
  · cases e
theorem xw_one_and (ha : PT X a (tT X.K c xa)) : PW X (.BoolOp .And [a] pos) (tT X.K c (.one xa)) := by
  refine PW.to (pw_and1 ha) ?_
  rintro σ H Q ⟨sl, h, ρ, d, h', k, rl, r, e, tr, f⟩
  simp only [ev] at e
  exact ⟨sl, h, ρ, d, h', k, rl, r, e, tr, f⟩
theorem xw_one_or (ha : PT X a (tT X.K c xa)) : PW X (.BoolOp .Or [a] pos) (tT X.K c (.one xa)) := by
  refine PW.to (pw_or1 ha) ?_
  rintro σ H Q ⟨sl, h, ρ, d, h', k, rl, r, e, tr, f⟩
  simp only [ev] at e
  exact ⟨sl, h, ρ, d, h', k, rl, r, e, tr, f⟩
theorem xw_and {rest : List Expr} (ha : PT X a (tT X.K c xa)) (hb : PW X (.BoolOp .And (b :: rest) pos) (tT X.K c xb)) : PW X (.BoolOp .And (a :: b :: rest) pos) (tT X.K c (.and xa xb)) := by
  refine PW.to (pw_and ha hb) ?_
  rintro σ H Q ⟨sl, h, ρ, d, h', k, rl, r, e, tr, f⟩
  simp only [ev] at e
  obtain ⟨x, h1, e1, e⟩ := Res.bind_eq e
  split at e
  · refine ⟨sl, h, ρ, _, h1, true, rl, r, e1, rfl, fun H1 ρ1 p1 r1 => ?_⟩
    dsimp only
    rw [if_pos rfl]
    exact ⟨sl, h1, ρ1, d, h', k, rl.ext (p1.ext r), r1, e, tr, fun H2 ρ2 p2 r2 => f _ _ (p1.trans p2) r2⟩
  · cases e
    cases tr
    refine ⟨sl, h, ρ, _, _, false, rl, r, e1, rfl, fun H1 ρ1 p1 r1 => ?_⟩
    dsimp only
    rw [if_neg Bool.false_ne_true]
    exact f _ _ p1 r1
  · cases e
theorem xw_or {rest : List Expr} (ha : PT X a (tT X.K c xa)) (hb : PW X (.BoolOp .Or (b :: rest) pos) (tT X.K c xb)) : PW X (.BoolOp .Or (a :: b :: rest) pos) (tT X.K c (.or xa xb)) := by
  refine PW.to (pw_or ha hb) ?_
  rintro σ H Q ⟨sl, h, ρ, d, h', k, rl, r, e, tr, f⟩
  simp only [ev] at e
  obtain ⟨x, h1, e1, e⟩ := Res.bind_eq e
  split at e
  · cases e
    cases tr
    refine ⟨sl, h, ρ, _, _, true, rl, r, e1, rfl, fun H1 ρ1 p1 r1 => ?_⟩
    dsimp only
    rw [if_pos rfl]
    exact f _ _ p1 r1
  · refine ⟨sl, h, ρ, _, h1, false, rl, r, e1, rfl, fun H1 ρ1 p1 r1 => ?_⟩
    dsimp only
    rw [if_neg Bool.false_ne_true]
    exact ⟨sl, h1, ρ1, d, h', k, rl.ext (p1.ext r), r1, e, tr, fun H2 ρ2 p2 r2 => f _ _ (p1.trans p2) r2⟩
  · cases e
theorem x_ife {t : Expr} (ht : PT X t (tT X.K c xc)) (ha : PE X a (tE X.K c xa)) (hb : PE X b (tE X.K c xb)) : PE X (.IfExp t a b pos) (tE X.K c (.ife xc xa xb)) := by
  refine PE.to (pe_ifExp ht ha hb) ?_
  rintro σ H Q ⟨sl, h, ρ, d, h', rl, r, e, f⟩
  simp only [ev] at e
  obtain ⟨x, h1, e1, e⟩ := Res.bind_eq e
  split at e
  · rename_i tr
    refine ⟨sl, h, ρ, x, h1, true, rl, r, e1, tr, fun H1 ρ1 p1 r1 => ?_⟩
    dsimp only
    rw [if_pos rfl]
    exact ⟨sl, h1, ρ1, d, h', rl.ext (p1.ext r), r1, e, f.trans p1⟩
  · rename_i tr
    refine ⟨sl, h, ρ, x, h1, false, rl, r, e1, tr, fun H1 ρ1 p1 r1 => ?_⟩
    dsimp only
    rw [if_neg Bool.false_ne_true]
    exact ⟨sl, h1, ρ1, d, h', rl.ext (p1.ext r), r1, e, f.trans p1⟩
  · cases e
end
end Ev
/-! Ev: calls, subscripts, methods, what is forgotten. -/
namespace Ev
open PySem PySem.Spec PyProof.Rows L2
/-! ### forgetting -/
mutual
theorem RD.shrink {K : PySem.W.Frag} {H : Hp} {ρ ρ' : List Addr} (p : ρ <+: ρ') : ∀ {d : D} {v : V}, RD K H ρ' d v → d.clo ρ.length = true → RD K H ρ d v
  | _, _, .non, _ => .non
  | _, _, .bl b, _ => .bl b
  | _, _, .int i, _ => .int i
  | _, _, .str s, _ => .str s
  | _, _, .tup s r, c => .tup s (RDs.shrink p r (by simpa [D.clo] using c))
  | _, _, .fl s r, c => .fl s (RDs.shrink p r (by simpa [D.clo] using c))
  | _, _, .ref (n := n) e, c => .ref (by
      have hn : n < ρ.length := by simpa [D.clo] using c
      obtain ⟨t, rfl⟩ := p
      rw [List.getElem?_append_left hn] at e
      exact e)
theorem RDs.shrink {K : PySem.W.Frag} {H : Hp} {ρ ρ' : List Addr} (p : ρ <+: ρ') : ∀ {ds : List D} {vs : List V}, RDs K H ρ' ds vs → D.clos ρ.length ds = true → RDs K H ρ ds vs
  | _, _, .nil, _ => .nil
  | _, _, .cons a b, c => by
    rw [D.clos, Bool.and_eq_true] at c
    exact .cons (RD.shrink p a c.1) (RDs.shrink p b c.2)
end
theorem RKs.shrink {K : PySem.W.Frag} {H : Hp} {ρ ρ' : List Addr} (p : ρ <+: ρ') : ∀ {ds : List (D × D)} {vs : List (Key × V)}, RKs K H ρ' ds vs → D.clos ρ.length (ds.map (·.2)) = true → RKs K H ρ ds vs
  | _, _, .nil, _ => .nil
  | _, _, .cons k a b, c => by
    rw [List.map_cons, D.clos, Bool.and_eq_true] at c
    exact .cons k (RD.shrink p a c.1) (RKs.shrink p b c.2)
theorem RO.shrink {K : PySem.W.Frag} {H : Hp} {ρ ρ' : List Addr} (p : ρ <+: ρ') {o : O} {ho : HO} (r : RO K H ρ' o ho) (c : o.clo ρ.length = true) : RO K H ρ o ho := by
  cases r with
  | lst r => exact .lst (r.shrink p (by simpa [O.clo] using c))
  | dk r =>
    rw [O.clo, Bool.and_eq_true] at c
    exact .dk (r.shrink p c.2)
theorem sto_clo_at {n : Nat} : ∀ {h : Sto} {i : Nat} {o : O}, Sto.clo n h = true → h[i]? = some o → O.clo n o = true
  | [], _, _, _, e => by simp at e
  | x :: h, 0, o, c, e => by
    rw [Sto.clo, Bool.and_eq_true] at c
    simp at e; subst e; exact c.1
  | x :: h, i + 1, o, c, e => by
    rw [Sto.clo, Bool.and_eq_true] at c
    exact sto_clo_at c.2 (by simpa using e)
section
variable {K : PySem.W.Frag} {H H' : Hp} {ρ ρ' : List Addr} {h h' : Sto}
theorem RS.shrink (r : RS K H' ρ' h') (p : ρ <+: ρ') (c : Sto.clo ρ.length (h'.take ρ.length) = true) : RS K H' ρ (h'.take ρ.length) := by
  have hl := p.length_le
  refine ⟨by rw [List.length_take, ← r.len]; omega, r.nd.sublist p.sublist, fun n o e => ?_⟩
  have hn : n < ρ.length := by
    have := (List.getElem?_eq_some_iff.mp e).1
    rw [List.length_take] at this
    omega
  have e' : h'[n]? = some o := by rw [List.getElem?_take_of_lt hn] at e; exact e
  obtain ⟨a, ho, h1, h2, h3⟩ := r.at_ n o e'
  refine ⟨a, ho, ?_, h2, h3.shrink p (sto_clo_at c e)⟩
  obtain ⟨t, rfl⟩ := p
  rw [List.getElem?_append_left hn] at h1
  exact h1
theorem Post.shrink (q : Post ρ H ρ' H') : Post ρ H ρ H' := ⟨List.prefix_refl _, q.keep, fun _ m n => absurd m n⟩
theorem fin_trunc {d d2 : D} {h2 : Sto} {Q : VK} (r : RS K H ρ h) (e : trunc h.length d h' = .ok d2 h2) (f : Fin K ρ H d2 h2 Q) : Fin K ρ H d h' Q := by
  intro v H' ρ' p r' rd
  have hlen : h.length = ρ.length := r.len.symm
  unfold trunc at e
  rw [hlen] at e
  split at e
  · rename_i c
    split at e
    · rename_i cd
      cases e
      exact f v H' ρ p.shrink (r'.shrink p.pre c) (rd.shrink p.pre cd)
    · rename_i ncd
      cases d with
      | ref m =>
        simp only at e
        split at e
        · rename_i o eo
          split at e
          · rename_i co
            cases e
            obtain ⟨c1, c2⟩ := Bool.and_eq_true_iff.mp co
            have c1 : ρ.length ≤ m := of_decide_eq_true c1
            cases rd with
            | @ref n a ea =>
              obtain ⟨a', ho, g1, g2, g3⟩ := r'.at_ m o eo
              rw [ea] at g1; cases g1
              have base := r'.shrink p.pre c
              have na : a ∉ ρ := fun hm => by
                obtain ⟨i, hi, e3⟩ := List.mem_iff_getElem.mp hm
                have e4 : ρ'[i]? = some a := by
                  obtain ⟨t, rfl⟩ := p.pre
                  rw [List.getElem?_append_left hi, List.getElem?_eq_getElem hi, e3]
                obtain ⟨l1, q1⟩ := List.getElem?_eq_some_iff.mp e4
                obtain ⟨l2, q2⟩ := List.getElem?_eq_some_iff.mp ea
                have := (List.getElem_inj r'.nd).mp (q1.trans q2.symm)
                omega
              have ma : a ∈ ρ' := List.mem_of_getElem? ea
              have x : Ext K ρ H' (ρ ++ [a]) H' := ⟨fun _ _ s => s, fun _ _ s => s, List.prefix_append _ _⟩
              refine f (.ref a) H' (ρ ++ [a]) ⟨List.prefix_append _ _, p.keep, fun b hb nb => ?_⟩ ⟨?_, ?_, ?_⟩ (.ref (by simp))
              · rcases List.mem_append.mp hb with hb | hb
                · exact absurd hb nb
                · have eb : b = a := by simpa using hb
                  subst eb
                  exact p.new b ma na
              · rw [List.length_append, List.length_append, ← base.len]; rfl
              · rw [List.nodup_append]
                exact ⟨base.nd, List.pairwise_singleton _ _, fun y hy z hz ez => by
                  have e5 : z = a := by simpa using hz
                  rw [ez, e5] at hy
                  exact na hy⟩
              · intro i u eu
                by_cases hi : i < ρ.length
                · rw [List.getElem?_append_left (by rw [← base.len]; exact hi)] at eu
                  obtain ⟨b, hb, k1, k2, k3⟩ := base.at_ i u eu
                  exact ⟨b, hb, by rw [List.getElem?_append_left hi]; exact k1, k2, k3.ext x⟩
                · have hi2 := (List.getElem?_eq_some_iff.mp eu).1
                  rw [List.length_append, ← base.len] at hi2
                  have e6 : i = ρ.length := by simp at hi2; omega
                  subst e6
                  rw [List.getElem?_append_right (by rw [← base.len]; exact Nat.le_refl _), ← base.len, Nat.sub_self] at eu
                  simp at eu
                  subst eu
                  exact ⟨a, ho, by simp, g2, (g3.shrink p.pre c2).ext x⟩
          · cases e; exact f v H' ρ' p r' rd
        · cases e; exact f v H' ρ' p r' rd
      | _ => cases e; exact f v H' ρ' p r' rd
  · cases e; exact f v H' ρ' p r' rd
end
section
variable {X : Cx} {c : CallT} {a b e : Expr} {xa xb xc : Ev.X} {pos : Pos}
theorem x_trunc (ha : PE X a (tE X.K c xa)) : PE X a (tE X.K c (.trunc xa)) := by
  refine PE.to ha ?_
  rintro σ H Q ⟨sl, h, ρ, d, h', rl, r, e, f⟩
  simp only [ev] at e
  obtain ⟨d1, h1, e1, e⟩ := Res.bind_eq e
  exact ⟨sl, h, ρ, d1, h1, rl, r, e1, fin_trunc r e f⟩
/-! ### calls -/
def spF (K : PySem.W.Frag) (c : CallT) (ar i : Nat) : List V → Hp → VK → Prop := fun vs H Q => vs.length = ar ∧ ∃ h ρ ds d h', RS K H ρ h ∧ RDs K H ρ ds vs ∧ c i ds h = .ok d h' ∧ Fin K ρ H d h' Q
theorem x_call {i ar k : Nat} {f : Addr} {fd : FuncData} {ps : List Str} {n : Str} {p : Pos} {es : List Expr} {xs : List Ev.X} (F : FnG X.prog X.w X.K X.mg X.base k f fd ps (spF X.K c ar i)) (hr : Room k X.A) (hgd : X.A.guards = some []) (hg : Gl X n) (hm : X.mg n = some (.ref f))
    (hk : PySem.W.keepIn X.K (.ref f) = true) (hb : Binds X.K fd ps []) (ha : PA X (e :: es) (tA X.K c xs)) (hl : xs.length = ar) (hdb : (n == ("__debug__" : Str)) = false) (he : starEach (e :: es) X.env = (false, eval e X.env) :: starEach es X.env)
    (hpl : (backTo pos (starEach es X.env)).any (·.1) = false) : PE X (.Call (.Name n p) (e :: es) [] pos) (tE X.K c (.call i xs)) := by
  refine PE.to (pe_callG F hr hgd hg hm hk hb ha hdb he hpl) ?_
  rintro σ H Q ⟨sl, h, ρ, d, h', rl, r, ee, f⟩
  simp only [ev] at ee
  obtain ⟨ds, h1, e1, ee⟩ := Res.bind_eq ee
  have len : ∀ {xs : List Ev.X} {h : Sto} {ds : List D} {h1 : Sto}, evs c xs sl h = .ok ds h1 → ds.length = xs.length := by
    intro xs
    induction xs with
    | nil => intro h ds h1 e; simp only [evs] at e; cases e; rfl
    | cons x xs ih =>
      intro h ds h1 e
      simp only [evs] at e
      obtain ⟨d1, _, _, e⟩ := Res.bind_eq e
      obtain ⟨d2, _, e2, e⟩ := Res.bind_eq e
      cases e
      simp [ih e2]
  refine ⟨sl, h, ρ, ds, h1, rl, r, e1, fun vs H1 ρ1 p1 r1 rd1 => ⟨by rw [← rd1.length, len e1]; exact hl, h1, ρ1, ds, d, h', r1, rd1, ee, f.trans p1⟩⟩
theorem x_call0 {i k : Nat} {f : Addr} {fd : FuncData} {ps : List Str} {n : Str} {p : Pos} (F : FnG X.prog X.w X.K X.mg X.base k f fd ps (spF X.K c 0 i)) (hr : Room k X.A) (hgd : X.A.guards = some []) (hg : Gl X n) (hm : X.mg n = some (.ref f))
    (hk : PySem.W.keepIn X.K (.ref f) = true) (hb : Binds X.K fd ps []) (hdb : (n == ("__debug__" : Str)) = false) : PE X (.Call (.Name n p) [] [] pos) (tE X.K c (.call i [])) := by
  refine PE.to (pe_callG0 F hr hgd hg hm hk hb hdb) ?_
  rintro σ H Q ⟨sl, h, ρ, d, h', rl, r, ee, f⟩
  simp only [ev, evs, Res.bind_ok] at ee
  exact ⟨rfl, h, ρ, [], d, h', r, .nil, ee, f⟩
/-- a built-in function, a built-in class, by values -/
theorem x_biB {bi : Bi} {id : String} {n : Str} {p : Pos} {es : List Expr} {xs : List Ev.X} (hc : CallR X (.builtin id) (rCall X.K (biop bi))) (hg : Gl X n) (hm : X.mg n = none) (hv : bootBuiltins n = some (.builtin id)) (ha : PA X (e :: es) (tA X.K c xs))
    (hn : n ≠ "__name__") (hdb : (n == ("__debug__" : Str)) = false) (he : starEach (e :: es) X.env = (false, eval e X.env) :: starEach es X.env) (hpl : (backTo pos (starEach es X.env)).any (·.1) = false) :
    PE X (.Call (.Name n p) (e :: es) [] pos) (tE X.K c (.bi bi xs)) := by
  refine PE.to (pe_callB hc hg hm hv ha hn hdb he hpl) ?_
  rintro σ H Q ⟨sl, h, ρ, d, h', rl, r, ee, f⟩
  simp only [ev] at ee
  obtain ⟨ds, h1, e1, ee⟩ := Res.bind_eq ee
  exact ⟨sl, h, ρ, ds, h1, rl, r, e1, fun vs H1 ρ1 p1 r1 rd1 => ⟨h1, ρ1, ds, d, h', r1, rd1, ee, f.trans p1⟩⟩
theorem x_biT {bi : Bi} {id : String} {n : Str} {p : Pos} {es : List Expr} {xs : List Ev.X} (hc : CallR X (.type id) (rCall X.K (biop bi))) (hg : Gl X n) (hm : X.mg n = none) (hv : bootBuiltins n = some (.type id)) (ha : PA X (e :: es) (tA X.K c xs))
    (hn : n ≠ "__name__") (hdb : (n == ("__debug__" : Str)) = false) (he : starEach (e :: es) X.env = (false, eval e X.env) :: starEach es X.env) (hpl : (backTo pos (starEach es X.env)).any (·.1) = false) :
    PE X (.Call (.Name n p) (e :: es) [] pos) (tE X.K c (.bi bi xs)) := by
  refine PE.to (pe_callTy hc hg hm hv ha hn hdb he hpl) ?_
  rintro σ H Q ⟨sl, h, ρ, d, h', rl, r, ee, f⟩
  simp only [ev] at ee
  obtain ⟨ds, h1, e1, ee⟩ := Res.bind_eq ee
  exact ⟨sl, h, ρ, ds, h1, rl, r, e1, fun vs H1 ρ1 p1 r1 rd1 => ⟨h1, ρ1, ds, d, h', r1, rd1, ee, f.trans p1⟩⟩
/-! ### isinstance of one built-in class -/
/-- the class that a value has -/
def clsOf (h : Sto) : D → Option String
  | .non => some "NoneType"
  | .bl _ => some "bool"
  | .int _ => some "int"
  | .str _ => some "str"
  | .tup _ => some "tuple"
  | .fl _ => some "list"
  | .ref m => match h[m]? with
    | some (.lst _) => some "list"
    | some (.dct _ _) => some "dict"
    | none => none
theorem tyX_of {K : PySem.W.Frag} {H : Hp} {ρ : List Addr} {h : Sto} (r : RS K H ρ h) {d : D} {v : V} (rd : RD K H ρ d v) {s : String} (e : clsOf h d = some s) : TyX K H v (.type s) := by
  cases rd with
  | non => cases e; exact .base .non
  | bl b => cases e; exact .base (.bl b)
  | int i => cases e; exact .base (.int i)
  | str z => cases e; exact .base (.str z)
  | @tup a xs vs s rs =>
    cases e
    rcases s with (s | ⟨o, s⟩) | ⟨o, its, n, h1, h2, h3⟩
    · exact .base (.tup s)
    · exact .fTuple s
    · exact .kTuple h1 h2
  | @fl a xs vs s rs =>
    cases e
    rcases s with ⟨o, s⟩ | ⟨o, its, n, h1, h2, h3⟩
    · exact .base (.frz s)
    · exact .kList h1 h2
  | @ref n a en =>
    simp only [clsOf] at e
    cases q : h[n]? with
    | none => rw [q] at e; cases e
    | some o =>
      rw [q] at e
      obtain ⟨b, ho, h1, h2, h3⟩ := r.at_ n o q
      rw [en] at h1; cases h1
      cases h3 with
      | lst r3 => cases e; exact .base (.lst h2)
      | dk r3 => cases e; exact .base (.dK h2)
theorem kit_cls : ∀ (s : String), s ∈ ["NoneType", "bool", "int", "str", "tuple", "list", "dict"] → ∀ t, t ∈ ["int", "bool", "str", "tuple", "list", "dict"] → kitB s t = some (decide (s = t) || (decide (s = "bool") && decide (t = "int"))) := by
  decide +kernel
theorem clsOf_mem {h : Sto} {d : D} {s : String} (e : clsOf h d = some s) : s ∈ ["NoneType", "bool", "int", "str", "tuple", "list", "dict"] := by
  cases d <;> simp only [clsOf] at e <;> (try split at e) <;> first | (cases e; decide) | cases e
def Bi.cls : Bi → String
  | .isInt => "int" | .isBool => "bool" | .isStr => "str" | .isTup => "tuple" | .isList => "list" | .isDict => "dict"
  | _ => ""
def Bi.isIs : Bi → Bool
  | .isInt | .isBool | .isStr | .isTup | .isList | .isDict => true
  | _ => false
theorem is_of {h h' : Sto} {bi : Bi} {x d : D} (hb : bi.isIs = true) {s : String} (e0 : clsOf h x = some s) (e : biop bi [x] h = .ok d h') : h' = h ∧ d = .bl (decide (s = bi.cls) || (decide (s = "bool") && decide (bi.cls = "int"))) := by
  cases bi <;> try cases hb
  all_goals
    cases x <;> simp only [clsOf] at e0 <;> (try split at e0) <;> (first | cases e0 | skip) <;> simp_all [biop, Bi.cls]
def rIs (K : PySem.W.Frag) (bi : Bi) : List V → Hp → VK → Prop := fun vs H Q => ∃ h ρ x d h' v, vs = [v, .ty bi.cls] ∧ RS K H ρ h ∧ RD K H ρ x v ∧ (clsOf h x).isSome = true ∧ biop bi [x] h = .ok d h' ∧ Fin K ρ H d h' Q
theorem cr_is {bi : Bi} (hb : bi.isIs = true) : CallR X (.builtin "isinstance") (rIs X.K bi) := by
  refine ofCall call_isi ?_
  rintro vs H Q ⟨h, ρ, x, d, h', v, rfl, r, rd, hs, e, f⟩
  obtain ⟨s, hs⟩ := Option.isSome_iff_exists.mp hs
  obtain ⟨rfl, rfl⟩ := is_of hb hs e
  have k := kit_cls s (clsOf_mem hs) bi.cls (by cases bi <;> first | decide | cases hb)
  exact ⟨v, .ty bi.cls, .type s, .type bi.cls, _, rfl, .ty _, tyX_of r rd hs, kit_ty k, fin_same f r (.bl _)⟩
/-- isinstance(x, T) -/
theorem x_is {bi : Bi} {p p2 : Pos} {n : Str} (hb : bi.isIs = true) (hg : Gl X "isinstance") (hm : X.mg "isinstance" = none) (hg2 : Gl X n) (hm2 : X.mg n = none) (hv2 : bootBuiltins n = some (.type bi.cls)) (hn2 : n ≠ "__name__") (hd2 : (n == ("__debug__" : Str)) = false)
    (ha : PE X a (tE X.K c xa)) (he : starEach (a :: [.Name n p2]) X.env = (false, eval a X.env) :: starEach [.Name n p2] X.env) :
    PE X (.Call (.Name "isinstance" p) [a, .Name n p2] [] pos) (tE X.K c (.bi bi [xa])) := by
  refine PE.to (pe_callB (cr_is hb) hg hm (by decide +kernel) (pa_cons ha (pa_cons (pe_bltn (v := .ty bi.cls) hg2 hm2 hv2 rfl hn2 hd2) pa_nil) he) (by decide) (by decide) he) ?_
  rintro σ H Q ⟨sl, h, ρ, d, h', rl, r, ee, f⟩
  simp only [ev, evs, Res.bind_ok] at ee
  obtain ⟨ds, h1, e1, ee⟩ := Res.bind_eq ee
  obtain ⟨d1, h2, e2, e1⟩ := Res.bind_eq e1
  cases e1
  refine ⟨sl, h, ρ, d1, _, rl, r, e2, fun v H1 ρ1 p1 r1 rd1 => ?_⟩
  refine ⟨_, ρ1, d1, d, h', v, rfl, r1, rd1, ?_, ee, f.trans p1⟩
  cases rd1 with
  | @ref n a en =>
    simp only [clsOf]
    obtain ⟨l1, _⟩ := List.getElem?_eq_some_iff.mp en
    rw [r1.len] at l1
    rw [List.getElem?_eq_getElem l1]
    cases h1[n] <;> rfl
  | _ => rfl
/-! ### subscripts -/
theorem atI_map {K : PySem.W.Frag} {H : Hp} {ρ : List Addr} {xs : List D} {vs : List V} (r : RDs K H ρ xs vs) {i : Int} {d : D} (e : atI xs i = some d) : ∃ v, atI vs i = some v ∧ RD K H ρ d v := by
  unfold atI at e ⊢
  rw [← r.length]
  cases q : ixN xs.length i with
  | none => rw [q] at e; cases e
  | some j =>
    rw [q] at e
    exact r.get e
theorem ixr_to {r r' : R2} (h : IxR X r) (g : ∀ x y H Q, r' x y H Q → r x y H Q) : IxR X r' := fun value slice pins s σ H x y v u Q I rx ry q hs => h value slice pins s σ H x y v u Q I rx ry (g x y H Q q) hs
theorem sem_idx : IxR X (rSem X.K idxop) := by
  refine ixr_to (ix_list.or ix_tup) ?_
  rintro x y H Q ⟨h, ρ, a, b, d, h', r, ra, rb, e, f⟩
  unfold idxop at e
  split at e
  · rename_i i
    split at e
    · rename_i xs q
      split at e
      · rename_i d' q2
        cases e
        cases rb
        obtain ⟨p, vs, rfl, rs, hh⟩ := seq_of r ra q
        obtain ⟨v, h1, h2⟩ := atI_map rs q2
        rcases hh with ⟨s, _⟩ | ⟨s, _⟩
        · exact .inr ⟨p, vs, i, v, rfl, rfl, s, h1, fin_same f r h2⟩
        · exact .inl ⟨p, vs, i, v, rfl, rfl, s, h1, fin_same f r h2⟩
      · cases e
    · cases e
  · cases e
theorem x_idx (ha : PE X a (tE X.K c xa)) (hb : PE X b (tE X.K c xb)) (hs : PlainIx b) : PE X (.Subscript a b pos) (tE X.K c (.idx xa xb)) := by
  refine PE.to (pe_ix sem_idx ha hb hs) ?_
  rintro σ H Q ⟨sl, h, ρ, d, h', rl, r, e, f⟩
  simp only [ev] at e
  exact two_of rl r e f
theorem cut_of {K : PySem.W.Frag} {H : Hp} {ρ : List Addr} {xs : List D} {vs : List V} (r : RDs K H ρ xs vs) (lo hi : Option Int) : RDs K H ρ (cutD xs lo hi) (cutV vs lo hi) := by
  unfold cutD cutV
  rw [← r.length]
  exact (r.drop _).take _
def tPO (K : PySem.W.Frag) (c : CallT) (x : Option Ev.X) : L2.St → Hp → (Option Int → Hp → Prop) → Prop := fun σ H Q => ∃ sl h ρ o h', Rsl K H ρ sl σ ∧ RS K H ρ h ∧ evo c x sl h = .ok o h' ∧ ∀ H' ρ', Post ρ H ρ' H' → RS K H' ρ' h' → Q o H'
theorem xo_none : PO X none (tPO X.K c none) := by
  refine ⟨fun pins s σ H Q I q => po_none.run pins s σ H Q I ?_⟩
  obtain ⟨sl, h, ρ, o, h', rl, r, e, f⟩ := q
  simp only [evo] at e
  cases e
  exact f _ _ .refl r
theorem xo_some (ha : PE X a (tE X.K c xa)) : PO X (some a) (tPO X.K c (some xa)) := by
  refine ⟨fun pins s σ H Q I q => (po_some ha).run pins s σ H Q I ?_⟩
  obtain ⟨sl, h, ρ, o, h', rl, r, e, f⟩ := q
  simp only [evo] at e
  obtain ⟨d, h1, e1, e⟩ := Res.bind_eq e
  split at e
  · cases e
    refine ⟨sl, h, ρ, _, _, rl, r, e1, fun v H' ρ' p r' rd => ?_⟩
    cases rd
    exact ⟨_, rfl, f _ _ p r'⟩
  · cases e
def rSl (K : PySem.W.Frag) : V → Option Int → Option Int → Hp → VK → Prop := fun x lo hi H Q => ∃ h ρ a d h', RS K H ρ h ∧ RD K H ρ a x ∧ sliceop a lo hi h = .ok d h' ∧ Fin K ρ H d h' Q
theorem cut_whole {xs : List D} {lo hi : Option Int} (h : HT.sIx xs.length 0 lo = 0 ∧ HT.sIx xs.length xs.length hi = xs.length) : cutD xs lo hi = xs := by
  unfold cutD
  rw [h.1, h.2]
  simp
theorem sem_slice : SlR X (rSl X.K) := by
  have base := (sl_list (X := X)).or sl_tupA
  intro pins s σ H x v vl vu lo hi sl Q I rx hs pl pu q
  refine base pins s σ H x v vl vu lo hi sl Q I rx hs pl pu ?_
  obtain ⟨h, ρ, a, d, h', r, ra, e, f⟩ := q
  have lst : ∀ {xs : List D} {p : Addr} {vs : List V}, RDs X.K H ρ xs vs → SqL X.K H p vs → x = .ref p → d = .ref h.length → h' = h ++ [.lst (cutD xs lo hi)] → rSlL X.K x lo hi H Q := by
    rintro xs p vs rs s rfl rfl rfl
    exact ⟨p, vs, rfl, s, fun l hl => fin_alloc f r hl (.lst (cut_of rs lo hi))⟩
  cases ra with
  | @tup p xs vs s rs =>
    simp only [sliceop] at e
    cases e
    refine .inr ⟨p, vs, rfl, s, fun hw => ?_, fun _ l hl => fin_tup f r hl (cut_of rs lo hi)⟩
    rw [← rs.length] at hw
    rw [cut_whole hw] at f
    exact fin_same f r (.tup s rs)
  | @fl p xs vs s rs =>
    simp only [sliceop, seqOf] at e
    cases e
    exact .inl (lst rs s.l rfl rfl rfl)
  | @ref n p en =>
    simp only [sliceop] at e
    cases q : seqOf h (.ref n) with
    | none => rw [q] at e; cases e
    | some xs =>
      rw [q] at e
      cases e
      obtain ⟨p', vs, e1, rs, hh⟩ := seq_of r (.ref en) q
      rcases hh with ⟨_, z⟩ | ⟨s, _⟩
      · cases z
      · cases e1
        exact .inl (lst rs s rfl rfl rfl)
  | non => simp [sliceop, seqOf] at e
  | bl b => simp [sliceop, seqOf] at e
  | int i => simp [sliceop, seqOf] at e
  | str z => simp [sliceop, seqOf] at e
theorem x_slice {lo hi : Option Expr} {xl xh : Option Ev.X} {p2 : Pos} (ha : PE X a (tE X.K c xa)) (hl : PO X lo (tPO X.K c xl)) (hh : PO X hi (tPO X.K c xh)) : PE X (.Subscript a (.Slice lo hi none p2) pos) (tE X.K c (.slice xa xl xh)) := by
  refine PE.to (pe_slice sem_slice ha hl hh) ?_
  rintro σ H Q ⟨sl, h, ρ, d, h', rl, r, e, f⟩
  simp only [ev] at e
  obtain ⟨x, h1, e1, e⟩ := Res.bind_eq e
  obtain ⟨l, h2, e2, e⟩ := Res.bind_eq e
  obtain ⟨u, h3, e3, e⟩ := Res.bind_eq e
  refine ⟨sl, h, ρ, x, h1, rl, r, e1, fun v H1 ρ1 p1 r1 rd1 => ?_⟩
  refine ⟨sl, h1, ρ1, l, h2, rl.ext (p1.ext r), r1, e2, fun H2 ρ2 p2 r2 => ?_⟩
  refine ⟨sl, h2, ρ2, u, h3, rl.ext ((p1.trans p2).ext r), r2, e3, fun H3 ρ3 p3 r3 => ?_⟩
  exact ⟨h3, ρ3, x, d, h', r3, rd1.ext ((p2.trans p3).ext r1), e, f.trans (p1.trans (p2.trans p3))⟩
/-! ### methods -/
def Kd.ty : Kd → String
  | .list => "list" | .str => "str" | .dict => "dict"
theorem ty_of {K : PySem.W.Frag} {H : Hp} {ρ : List Addr} {h : Sto} (r : RS K H ρ h) {d : D} {v : V} (rd : RD K H ρ d v) {k : Kd} (e : k.ok h d = true) : tyV K k.ty v H := by
  cases k with
  | list =>
    obtain ⟨xs, q⟩ := Option.isSome_iff_exists.mp (show (lstOf h d).isSome = true from e)
    obtain ⟨a, vs, rfl, rs, s⟩ := lst_of r rd q
    exact .inl ⟨rfl, vs, s⟩
  | str =>
    cases rd with
    | str s => rfl
    | _ => cases e
  | dict =>
    cases rd with
    | @ref n a en =>
      simp only [Kd.ok] at e
      split at e
      · rename_i q
        obtain ⟨b, ho, h1, h2, h3⟩ := r.at_ n _ q
        rw [en] at h1; cases h1
        cases h3 with
        | dk r3 => exact .inr (.inr (.inl ⟨rfl, .inl ⟨_, h2⟩⟩))
      · cases e
    | _ => cases e
/-- a method's answer, by values -/
def rMe (K : PySem.W.Frag) (f : D → List D → Sto → Res D) : V → List V → Hp → VK → Prop := fun v vs H Q => ∃ h ρ x ds d h', RS K H ρ h ∧ RD K H ρ x v ∧ RDs K H ρ ds vs ∧ f x ds h = .ok d h' ∧ Fin K ρ H d h' Q
/-- everything that the rules for a method's call ask of its syntax -/
structure MeSyn (X : Cx) (a : Expr) (name : Str) (es : List Expr) (apos pos : Pos) : Prop where
  base : attributeBase a name X.env (eval a X.env) = eval a X.env
  few : ((backTo pos (starEach es X.env)).all (fun x => !x.1) && (backToKw pos (keywordEach [] X.env)).all (fun x => x.1.isSome) && decide (es.length + ([] : List Keyword).length + (if ([] : List Keyword).isEmpty then 0 else 1) < 30)) = true
  line : (apos.endLine == pos.line) = true
  star : ∀ e r, es = e :: r → starEach (e :: r) X.env = (false, eval e X.env) :: starEach r X.env ∧ (backTo pos (starEach r X.env)).any (·.1) = false
theorem m_gen {f : D → List D → Sto → Res D} {k : Kd} {id : String} {name : Str} {es : List Expr} {xs : List Ev.X} {apos : Pos} {xm : Ev.X} (pa : PlainAttrs k.ty) (slot : Slot k.ty name id) (hty : typeOf (.builtin id) = pure (.type "method_descriptor")) (hm : MtR X id (rMe X.K f))
    (hx : ∀ sl h, ev c xm sl h = (ev c xa sl h).bind fun x h => if k.ok h x then (evs c xs sl h).bind fun ds h => f x ds h else .bad)
    (ha : PE X a (tE X.K c xa)) (hes : PA X es (tA X.K c xs)) (S : MeSyn X a name es apos pos) (hnil : es = [] → xs = []) : PE X (.Call (.Attribute a name apos) es [] pos) (tE X.K c xm) := by
  cases es with
  | nil =>
    refine PE.to (pe_bm0 pa slot hty hm ha S.base S.line) ?_
    rintro σ H Q ⟨sl, h, ρ, d, h', rl, r, e, fi⟩
    rw [hx] at e
    obtain ⟨x, h1, e1, e⟩ := Res.bind_eq e
    split at e
    · rename_i ko
      obtain ⟨ds, h2, e2, e⟩ := Res.bind_eq e
      refine ⟨sl, h, ρ, x, h1, rl, r, e1, fun v H1 ρ1 p1 r1 rd1 => ⟨ty_of r1 rd1 ko, ?_⟩⟩
      have h0 := hnil rfl
      subst h0
      simp only [evs] at e2
      cases e2
      exact ⟨_, ρ1, x, [], d, h', r1, rd1, .nil, e, fi.trans p1⟩
    · cases e
  | cons e0 es0 =>
    obtain ⟨s1, s2⟩ := S.star e0 es0 rfl
    refine PE.to (pe_bm pa slot hty hm ha hes S.base S.few S.line s1 s2) ?_
    rintro σ H Q ⟨sl, h, ρ, d, h', rl, r, e, fi⟩
    rw [hx] at e
    obtain ⟨x, h1, e1, e⟩ := Res.bind_eq e
    split at e
    · rename_i ko
      obtain ⟨ds, h2, e2, e⟩ := Res.bind_eq e
      refine ⟨sl, h, ρ, x, h1, rl, r, e1, fun v H1 ρ1 p1 r1 rd1 => ⟨ty_of r1 rd1 ko, ?_⟩⟩
      refine ⟨sl, h1, ρ1, ds, h2, rl.ext (p1.ext r), r1, e2, fun vs H2 ρ2 p2 r2 rd2 => ?_⟩
      exact ⟨h2, ρ2, x, ds, d, h', r2, rd1.ext (p2.ext r1), rd2, e, fi.trans (p1.trans p2)⟩
    · cases e
end
end Ev
/-! Ev: methods of lists; x[::-1]. -/
namespace Ev
open PySem PySem.Spec PyProof.Rows L2
section
variable {X : Cx} {c : CallT} {a b e : Expr} {xa xb xc : Ev.X} {pos : Pos}
theorem mtr_to {id : String} {r r' : V → List V → Hp → VK → Prop} (h : MtR X id r) (g : ∀ x vs H Q, r' x vs H Q → r x vs H Q) : MtR X id r' :=
  fun pins s σ H x vs v us Q I rx rs q => h pins s σ H x vs v us Q I rx rs (g x vs H Q q)
/-- a list that may be changed -/
theorem own_of {K : PySem.W.Frag} {H : Hp} {ρ : List Addr} {h : Sto} (r : RS K H ρ h) {n : Nat} {v : V} (rd : RD K H ρ (.ref n) v) {xs : List D} (e : h[n]? = some (.lst xs)) : ∃ a vs, v = .ref a ∧ ρ[n]? = some a ∧ H a = some (.lst vs) ∧ RDs K H ρ xs vs := by
  obtain ⟨a, ho, rfl, h1, h2, h3⟩ := ref_of r rd e
  cases h3 with
  | lst h3 => exact ⟨a, _, rfl, h1, h2, h3⟩
theorem fin_set {K : PySem.W.Frag} {H : Hp} {ρ : List Addr} {h : Sto} {Q : VK} {d : D} {v : V} {n : Nat} {a : Addr} {ys : List D} {vs ws : List V} (f : Fin K ρ H d (h.set n (.lst ys)) Q) (r : RS K H ρ h) (ha : ρ[n]? = some a) (hH : H a = some (.lst vs)) (ro : RDs K H ρ ys ws) (rd : RD K H ρ d v) : Q v (upd H a (.lst ws)) := by
  obtain ⟨r', p⟩ := r.write ha hH (fun _ z => by cases z) (fun _ _ z => by cases z) (.lst ro)
  exact f _ _ _ p r' (rd.ext (p.ext r))
theorem sem_append : MtR X "list.append" (rMe X.K (muop .append)) := by
  refine mtr_to mt_append ?_
  rintro x vs H Q ⟨h, ρ, dx, ds, d, h', r, rd, rs, e, f⟩
  unfold muop at e
  split at e
  · rename_i n
    split at e
    · rename_i xs q
      split at e <;> try (first | cases e; done)
      all_goals (rename_i q1; try cases q1)
      split at e
      · rename_i hl
        cases e
        obtain ⟨a, ws, rfl, h1, h2, h3⟩ := own_of r rd q
        cases rs with
        | cons r1 r2 =>
          cases r2
          exact ⟨a, ws, _, rfl, rfl, h2, by rw [← h3.length]; exact hl, fin_set f r h1 h2 (h3.append (.cons r1 .nil)) .non⟩
      · cases e
    · cases e
  · cases e
theorem sem_extend : MtR X "list.extend" (rMe X.K (muop .extend)) := by
  refine mtr_to mt_extend ?_
  rintro x vs H Q ⟨h, ρ, dx, ds, d, h', r, rd, rs, e, f⟩
  unfold muop at e
  split at e
  · rename_i n
    split at e
    · rename_i xs q
      split at e <;> try (first | cases e; done)
      all_goals (rename_i q1; try cases q1)
      split at e
      · rename_i ys q2
        split at e
        · rename_i hl
          cases e
          obtain ⟨a, ws, rfl, h1, h2, h3⟩ := own_of r rd q
          cases rs with
          | cons r1 r2 =>
            cases r2
            obtain ⟨b, us, rfl, g1, g2, g3⟩ := own_of r r1 q2
            exact ⟨a, b, ws, us, rfl, rfl, h2, g2, by rw [← h3.length, ← g3.length]; exact hl, fin_set f r h1 h2 (h3.append g3) .non⟩
        · cases e
      · cases e
    · cases e
  · cases e
theorem sem_pop : MtR X "list.pop" (rMe X.K (muop .pop)) := by
  refine mtr_to mt_pop ?_
  rintro x vs H Q ⟨h, ρ, dx, ds, d, h', r, rd, rs, e, f⟩
  unfold muop at e
  split at e
  · rename_i n
    split at e
    · rename_i xs q
      split at e <;> try (first | cases e; done)
      all_goals (rename_i q1; try cases q1)
      split at e
      · rename_i y hy
        cases e
        obtain ⟨a, ws, rfl, h1, h2, h3⟩ := own_of r rd q
        cases rs
        rw [List.getLast?_eq_getElem?] at hy
        obtain ⟨v, g1, g2⟩ := h3.get hy
        rw [h3.length] at g1
        exact ⟨a, ws, v, rfl, rfl, h2, g1, fin_set f r h1 h2 h3.dropLast g2⟩
      · cases e
    · cases e
  · cases e
theorem sem_popAt : MtR X "list.pop" (rMe X.K (muop .popAt)) := by
  refine mtr_to mt_popAt ?_
  rintro x vs H Q ⟨h, ρ, dx, ds, d, h', r, rd, rs, e, f⟩
  unfold muop at e
  split at e
  · rename_i n
    split at e
    · rename_i xs q
      split at e <;> try (first | cases e; done)
      all_goals (rename_i q1; try cases q1)
      split at e
      · rename_i hb
        split at e
        · rename_i y hy
          cases e
          obtain ⟨a, ws, rfl, h1, h2, h3⟩ := own_of r rd q
          cases rs with
          | cons r1 r2 =>
            cases r2; cases r1
            obtain ⟨v, g1, g2⟩ := h3.get hy
            have hl := (List.getElem?_eq_some_iff.mp g1).1
            refine ⟨a, ws, _, _, v, rfl, rfl, h2, by omega, hb.2, ?_, g1, fin_set f r h1 h2 (h3.eraseIdx _) g2⟩
            exact seqIndex_of hb.1 (by omega)
        · cases e
      · cases e
    · cases e
  · cases e
theorem sem_count (hu : X.A.units + 100 < cLine) : MtR X "list.count" (rMe X.K (meop .count)) := by
  intro pins s σ H x vs v us Q I rx rvs q
  obtain ⟨h, ρ, dx, ds, d, h', r, rd, rs, e, f⟩ := q
  unfold meop at e
  split at e <;> try (first | cases e; done)
  all_goals (rename_i q1; try cases q1)
  split at e
  · rename_i xs p q1 q2
    split at e
    · rename_i bs q3
      split at e
      · rename_i hp
        cases e
        obtain ⟨a, ws, rfl, g1, g2⟩ := lst_of r rd q1
        cases rs with
        | cons r1 r2 =>
          cases r2
          cases rx
          cases rvs with
          | cons ry rt =>
            cases rt
            obtain ⟨ds, hd⟩ := Dp.reads I _ _ _ (dp_of r dP _ _ _ r1 q2) ry
            obtain ⟨its, rv, hl, hz⟩ := I.list g2
            obtain ⟨as, h4⟩ := Dp.readsAll I _ _ its (dpAll_of (dp_of r dP) g1 q3) rv
            rw [Bool.and_eq_true] at hp
            refine PySem.SeqAt.count_list_data (vs := its.toArray) hl.isList (by simpa using h4) hd hp.1 hp.2 ?_ ?_
            · have := depthAll_of (depth_of dP) q3
              unfold dP at this
              omega
            · exact ⟨.int _, H, I.tok _, ⟨_, rfl⟩, fin_same f r (.int _)⟩
      · cases e
    · cases e
  · cases e
theorem sem_index (hu : X.A.units + 100 < cLine) : MtR X "list.index" (rMe X.K (meop .index)) := by
  refine mtr_to (mt_indexD (by omega)) ?_
  rintro x vs H Q ⟨h, ρ, dx, ds, d, h', r, rd, rs, e, f⟩
  unfold meop at e
  split at e <;> try (first | cases e; done)
  all_goals (rename_i q1; try cases q1)
  split at e
  · rename_i xs p q1 q2
    split at e
    · rename_i bs q3
      split at e
      · rename_i hp
        split at e
        · rename_i j hj
          cases e
          rw [Bool.and_eq_true] at hp
          obtain ⟨a, ws, rfl, g1, g2⟩ := lst_of r rd q1
          cases rs with
          | cons r1 r2 =>
            cases r2
            unfold placeOf at hj
            rw [List.findIdx?_eq_some_iff_getElem] at hj
            obtain ⟨hl, j1, j2⟩ := hj
            have hdep := depthAll_of (depth_of dP) q3
            refine ⟨a, _, p, bs, j, bs[j], rfl, rfl, .lst g2 (dpAll_of (dp_of r dP) g1 q3), dp_of r dP _ _ _ r1 q2, ?_, shaped_of q2 (by decide) hp.2, List.getElem?_eq_getElem hl, j1, fun m z hm hz => ?_, fin_same f r (.int _)⟩
            · unfold SeqAt.shaped
              rw [Bool.and_eq_true]
              refine ⟨by rw [PyData.canLay0]; exact hp.1, ?_⟩
              rw [decide_eq_true_eq, PyData.depth]
              unfold dP at hdep
              omega
            · obtain ⟨hml, rfl⟩ := List.getElem?_eq_some_iff.mp hz
              have := j2 m hm
              simpa using this
        · cases e
      · cases e
    · cases e
  · cases e
/-- what a method is called, where it is found -/
def Mu.str : Mu → Str
  | .append => "append" | .extend => "extend" | .pop => "pop" | .popAt => "pop"
def Me.str : Me → Str
  | .count => "count" | .index => "index" | .get1 => "get" | .get2 => "get" | .join => "join" | .split => "split"
theorem x_mu {m : Mu} {es : List Expr} {xs : List Ev.X} {apos : Pos} (ha : PE X a (tE X.K c xa)) (hes : PA X es (tA X.K c xs)) (S : MeSyn X a m.str es apos pos) (hnil : es = [] → xs = []) : PE X (.Call (.Attribute a m.str apos) es [] pos) (tE X.K c (.mu m xa xs)) := by
  cases m with
  | append => exact m_gen (k := .list) PySem.F.plainAttrs_list PySem.F.slot_list_append PySem.F.type_list_append sem_append (fun sl h => by rw [ev]) ha hes S hnil
  | extend => exact m_gen (k := .list) PySem.F.plainAttrs_list PySem.F.slot_list_extend PySem.F.type_list_extend sem_extend (fun sl h => by rw [ev]) ha hes S hnil
  | pop => exact m_gen (k := .list) PySem.F.plainAttrs_list PySem.F.slot_list_pop PySem.F.type_list_pop sem_pop (fun sl h => by rw [ev]) ha hes S hnil
  | popAt => exact m_gen (k := .list) PySem.F.plainAttrs_list PySem.F.slot_list_pop PySem.F.type_list_pop sem_popAt (fun sl h => by rw [ev]) ha hes S hnil
theorem x_me {m : Me} {es : List Expr} {xs : List Ev.X} {apos : Pos} (hu : X.A.units + 100 < cLine) (hm : m = .count ∨ m = .index) (ha : PE X a (tE X.K c xa)) (hes : PA X es (tA X.K c xs)) (S : MeSyn X a m.str es apos pos) (hnil : es = [] → xs = []) : PE X (.Call (.Attribute a m.str apos) es [] pos) (tE X.K c (.me m xa xs)) := by
  rcases hm with rfl | rfl
  · exact m_gen (k := .list) PySem.F.plainAttrs_list PySem.F.slot_list_count PySem.F.type_list_count (sem_count hu) (fun sl h => by rw [ev]; rfl) ha hes S hnil
  · exact m_gen (k := .list) PySem.F.plainAttrs_list PySem.F.slot_list_index PySem.F.type_list_index (sem_index hu) (fun sl h => by rw [ev]; rfl) ha hes S hnil
end
end Ev
/-! Ev: x[::-1] of lists and of tuples. -/
namespace Ev
open PySem PySem.Spec PyProof.Rows L2
section
variable {prog : Program} {w : World} {A : Around} {E : Value → Shared → Prop} {s : Shared}
theorem pick_back (xs : Array Value) : ((List.range xs.size).filterMap fun (m : Nat) => xs[(((xs.size : Int) - 1) + (m : Int) * -1).toNat]?).toArray = xs.toList.reverse.toArray := by
  have e : ((List.range xs.size).filterMap fun (m : Nat) => xs[(((xs.size : Int) - 1) + (m : Int) * -1).toNat]?) = ((List.range xs.size).map fun k => xs.size - 1 - k).filterMap (xs[·]?) := by
    rw [List.filterMap_map]
    have go : ∀ l : List Nat, (∀ m ∈ l, m < xs.size) → (l.filterMap fun (m : Nat) => xs[(((xs.size : Int) - 1) + (m : Int) * -1).toNat]?) = l.filterMap ((fun x => xs[x]?) ∘ fun k => xs.size - 1 - k) := by
      intro l
      induction l with
      | nil => intro _; rfl
      | cons m l ih =>
        intro hl
        have hm := hl m (by simp)
        have z : (((xs.size : Int) - 1) + (m : Int) * -1).toNat = xs.size - 1 - m := by omega
        rw [List.filterMap_cons, List.filterMap_cons, ih fun k hk => hl k (by simp [hk]), z]
        rfl
    exact go _ fun m hm => List.mem_range.mp hm
  rw [e, PySem.W.krv_range, List.filterMap_reverse, PySem.W.krv_all]
theorem getItem_tuple_back {t sl : Addr} {items : Array Value} {vs : Value} {Q : Value → Shared → Prop} (ht : IsTup s.heap t items) (hs : s.heap.IsSliceOf sl .none .none vs) (pv : IsPart vs (some (-1)))
    (h : Q (.ref s.heap.objs.size) { s with heap := s.heap.push { cls := .type "tuple", data := .seq items.toList.reverse.toArray } })
    (hsz : items.size ≤ sizeLine) : wpAny (model prog w) A (getItem (.ref t) (.ref sl)) Q E s := by
  have hfit : sizeOk (.seq items.toList.reverse.toArray) := by
    show items.toList.reverse.toArray.size ≤ sizeLine
    simpa using hsz
  obtain ⟨os, hos, hcs, hds⟩ := id hs
  have hTs : s.TypeIs (.ref sl) "slice" := ⟨os, hos, hcs⟩
  unfold getItem
  try with_reducible refine wpAny_holding ?_
  first | refine wpAny_bind (wpAny_pure ?_) | skip
  refine wpAny_bind (wpAny_sequenceKey ht.typeIs (by decide) ?_)
  refine wpAny_bind (wpAny_callSpecial?_slot (name := Str.ofString "__getitem__") ht.typeIs PyProof.Rows.slot_tuple_getitem
    (wpAny_call_entry PyProof.Rows.slot_tuple_getitem ht.typeIs entry_tuple_getitem ?_ (args_tuple_getitem _ _)))
  show wpAny _ _ (Builtin.Tuple.tupleItemsOf (.ref t) >>= _) _ _ s
  refine wpAny_bind (tupleItemsOf_ ht ?_)
  refine wpAny_bind (wpAny_typeOf hTs ?_)
  rw [if_pos (by decide)]
  have app : ∀ {A : Around} {Q : Int × Int × Nat → Shared → Prop} {E : Value → Shared → Prop}, Q ((items.size : Int) - 1, -1, items.size) s → wpAny (model prog w) A (Builtin.Slice.sliceApplied (.ref sl) (pure (items.size : Int))) Q E s := by
    intro A Q E h
    unfold Builtin.Slice.sliceApplied Builtin.Slice.sliceFields
    refine wpAny_bind (wpAny_bind (wpAny_field hos hds (x := .none) rfl (wpAny_bind (wpAny_field hos hds (x := .none) rfl (wpAny_bind (wpAny_field hos hds (x := vs) rfl (wpAny_pure ?_)))))))
    refine wpAny_bind (HT.slicePart_ pv ?_)
    show wpAny _ _ (if ((-1 : Int) == 0) = true then _ else _) _ _ s
    rw [if_neg (by decide)]
    refine wpAny_bind (slicePart_none (wpAny_bind (slicePart_none (wpAny_bind (wpAny_pure ?_)))))
    show wpAny _ _ (pure ((items.size : Int) - 1, (-1 : Int), Builtin.Slice.slicePlaces ((items.size : Int) - 1) (-1) (-1))) _ _ s
    have e : Builtin.Slice.slicePlaces ((items.size : Int) - 1) (-1) (-1) = items.size := by
      unfold Builtin.Slice.slicePlaces
      have h1 : ¬ ((-1 : Int) > 0) := by decide
      rw [if_neg h1]
      by_cases h : (items.size : Int) - 1 > -1
      · rw [if_pos h]
        rw [show (- -1 : Int) = 1 by decide, Int.ediv_one]
        omega
      · rw [if_neg h]
        omega
    rw [e]
    exact wpAny_pure h
  refine wpAny_bind (app ?_)
  have hno : ¬ ((((items.size : Int) - 1) == 0 && (-1 : Int) == 1 && items.size == items.size) = true) := by
    intro q
    rw [Bool.and_eq_true, Bool.and_eq_true] at q
    exact absurd q.1.2 (by decide)
  show wpAny _ _ (if (((items.size : Int) - 1) == 0 && (-1 : Int) == 1 && items.size == items.size) = true then _ else _) _ _ s
  rw [if_neg hno, pick_back]
  first
    | exact wpAny_bind (m := Builtin.Tuple.tupleExact _) (wpAny_newObj_type (wpAny_pure ⟨_, rfl, wpAny_pure h⟩) hfit)
    | exact wpAny_bind (m := Builtin.Tuple.tupleExact _) (wpAny_newObj_type (wpAny_bind (wpAny_pure (wpAny_pure ⟨_, rfl, wpAny_pure h⟩))) hfit)
    | exact wpAny_bind (wpAny_bind (m := Builtin.Tuple.tupleExact _) (wpAny_newObj_type (wpAny_pure (wpAny_pure ⟨_, rfl, wpAny_pure h⟩)) hfit))
    | exact wpAny_bind (wpAny_bind (m := Builtin.Tuple.tupleExact _) (wpAny_newObj_type (wpAny_pure ⟨_, rfl, wpAny_pure h⟩) hfit))
end
section
variable {X : Cx} {c : CallT} {e : Expr} {xa : Ev.X} {pos : Pos}
def tRevT (K : PySem.W.Frag) (te : TE) : TE := fun σ H Q => te σ H fun x H1 => ∃ a xs, x = .ref a ∧ SqT K H1 a xs ∧ ∀ p, H1 p = none → Q (.ref p) (upd H1 p (.tup xs.reverse))
theorem pe_revT {te : TE} {k : Nat} {p1 p2 p3 : Pos} (he : PE X e te) : PE X (.Subscript e (.Slice none none (some (.UnaryOp .USub (.Constant (.int 1) k p1) p2)) p3) pos) (tRevT X.K te) := by
  refine ⟨fun pins s σ H Q I h => ?_⟩
  refine Subscript_ (thn (he.run pins s σ H _ I h) fun v s1 ⟨x, H1, I1, r1, q1⟩ => ?_)
  obtain ⟨a, xs, ex, hx, q⟩ := q1
  subst ex
  cases r1
  have hst : PO X (some (.UnaryOp .USub (.Constant (.int 1) k p1) p2)) (tPart (tUn (rU fun i => .int (-i)) (tC (.int 1)))) := po_some (pe_un un_neg pe_int)
  refine wpAny_Slice (thn (po_none.run pins s1 σ H1 (fun o H2 => o = none ∧ H2 = H1) I1 ⟨rfl, rfl⟩) fun vl s2 ⟨l, H2, I2, pl, el, e2⟩ => ?_)
  subst el e2
  refine thn (po_none.run pins s2 σ H2 (fun o H3 => o = none ∧ H3 = H2) I2 ⟨rfl, rfl⟩) fun vu s3 ⟨u, H3, I3, pu, eu, e3⟩ => ?_
  subst eu e3
  refine thn (hst.run pins s3 σ H3 (fun o H4 => o = some (-1) ∧ H4 = H3) I3 ⟨1, rfl, -1, rfl, rfl, rfl⟩) fun vs s4 ⟨o, H4, I4, ps, eo, e4⟩ => ?_
  subst eo e4
  cases pl
  cases pu
  have I5 : Inv X pins σ H4 { s4 with heap := s4.heap.push { cls := .type "slice", data := .fields #[.none, .none, vs] } } := I4.kept (t' := s4.toks) fun b ob q => Heap.get?_push_of_some _ q
  obtain ⟨its, r, ht, hz⟩ := I5.tuple hx
  have hlen := r.length
  show wpAny (model X.prog X.w) X.A (subscriptTail e (.Slice none none (some (.UnaryOp .USub (.Constant (.int 1) k p1) p2)) p3) (.ref a) (.ref s4.heap.objs.size)) (EP X pins σ Q) X.xe { s4 with heap := s4.heap.push { cls := .type "slice", data := .fields #[.none, .none, vs] } }
  refine tail_any (ops := [.ref a, .ref s4.heap.objs.size]) ht.typeIs (PyProof.Rows.slot_tuple_getitem.lookup) ?_ (by with_unfolding_all rfl)
  refine getItem_tuple_back ht (Heap.IsSliceOf.new _ .none .none vs) ps ?_ (by rw [List.size_toArray]; omega)
  refine ⟨.ref _, _, I5.laid (t' := s4.toks) (o := .tup xs.reverse) (fun b ob q => Heap.get?_push_of_some _ q) (Nat.le_refl _) ?_, rfl, q _ (I5.hok.fresh (Nat.le_refl _))⟩
  exact ⟨by rw [List.length_reverse]; exact hz, _, r.reverse, ⟨_, Heap.get?_push_size _ rfl, rfl, 0, rfl⟩⟩
theorem x_rev {k : Nat} {p1 p2 p3 : Pos} (ha : PE X e (tE X.K c xa)) : PE X (.Subscript e (.Slice none none (some (.UnaryOp .USub (.Constant (.int 1) k p1) p2)) p3) pos) (tE X.K c (.rev xa)) := by
  refine PE.to (PE.or (pe_revL ha) (pe_revT ha)) ?_
  rintro σ H Q ⟨sl, h, ρ, d, h', rl, r, e, f⟩
  simp only [ev] at e
  obtain ⟨x, h1, e1, e⟩ := Res.bind_eq e
  have isT : (∃ xs, x = .tup xs) ∨ ∀ xs, x ≠ .tup xs := by
    cases x <;> first | exact .inl ⟨_, rfl⟩ | exact .inr (fun _ z => by cases z)
  rcases isT with ⟨xs, rfl⟩ | hT
  · refine .inr ⟨sl, h, ρ, _, h1, rl, r, e1, fun v H1 ρ1 p1 r1 rd1 => ?_⟩
    simp only [revop] at e
    cases e
    cases rd1 with
    | @tup a _ vs s rs => exact ⟨a, vs, rfl, s, fun p hp => fin_tup (f.trans p1) r1 hp rs.reverse⟩
  · refine .inl ⟨sl, h, ρ, _, h1, rl, r, e1, fun v H1 ρ1 p1 r1 rd1 => ?_⟩
    have e : (match seqOf h1 x with | some xs => Res.ok (.ref h1.length) (h1 ++ [.lst xs.reverse]) | none => .bad) = Res.ok d h' := by
      unfold revop at e
      split at e
      · exact absurd rfl (hT _)
      · exact e
    split at e
    · rename_i xs q
      cases e
      obtain ⟨a, vs, rfl, rs, hh⟩ := seq_of r1 rd1 q
      rcases hh with ⟨_, z⟩ | ⟨s, _⟩
      · exact absurd z (hT _)
      · exact ⟨a, vs, rfl, s, fun p hp => fin_alloc (f.trans p1) r1 hp (.lst rs.reverse)⟩
    · cases e
end
end Ev
/-! Ev: enumerate of tuples. -/
namespace Ev
open PySem PySem.Spec PyProof.Rows L2
open PySem.AutoSeq1 (wpAny_loadPart')
theorem meets_enumT (l : Addr) (items : Array Value) :
    Meets (Builtin.«enumerate.__new__» ⟨[.type "enumerate", .ref l], []⟩) (fun _ R s => s.heap.IsTuple l items ∧
      R (.ok (.ret (.ref (s.heap.push { cls := .type "tuple_iterator", data := .fields #[.ref l, .int 0 0] }).objs.size)))
        { s with heap := (s.heap.push { cls := .type "tuple_iterator", data := .fields #[.ref l, .int 0 0] }).push { cls := .type "enumerate", data := .fields #[.none, .bool false, .ref s.heap.objs.size, rawInt 0, .none, .none] } }) :=
  .of_wp fun prog w A R s h => by
    obtain ⟨hp, g, d, tk, os⟩ := s; obtain ⟨hL, h⟩ := h
    replace hL : Heap.IsTuple (Shared.heap ⟨hp, g, d, tk, os⟩) l items := hL
    have hsub := sub_enumerate
    obtain ⟨o, hl, _⟩ := id hL
    wp_walk using wpAny_loadPart' hl
    refine wpAny_stack_any fun st => wpAny_pure ?_
    split
    · rename_i c _ _ _ _ _
      cases (c == Value.type "enumerate")
      · wp_walk using wpAny_loadPart' hl, wpAny_pyIter_tuple hL
        exact ⟨_, rfl, h⟩
      · wp_walk using wpAny_loadPart' hl, wpAny_pyIter_tuple hL
        exact ⟨_, rfl, h⟩
    · wp_walk using wpAny_loadPart' hl, wpAny_pyIter_tuple hL
      exact ⟨_, rfl, h⟩
section
variable {prog : Program} {w : World} {A : Around} {E : Value → Shared → Prop} {s : Shared}
theorem call_enumT {l : Addr} {items : Array Value} {Q : Value → Shared → Prop} (hL : s.heap.IsTuple l items)
    (h : ∀ h', IsEnum h' (s.heap.objs.size + 1) s.heap.objs.size 0 .none → h'.IsTupleIter s.heap.objs.size l 0 → h'.objs.size = s.heap.objs.size + 2 →
      (∀ b o, s.heap.get? b = some o → h'.get? b = some o) → Q (.ref (s.heap.objs.size + 1)) { s with heap := h' }) :
    wpAny (model prog w) A (call (.type "enumerate") [.ref l]) Q E s := by
  refine callType_new F.called_enumerate (by decide) (F.typeCall_enumerate_1 _) (F.newCall_enumerate_1 _) (fun obj => F.args_object_init_2 obj _) F.entry_enumerate_new
    (meets_enumT l items) ⟨hL, ?_⟩
  have hz : (s.heap.push { cls := .type "tuple_iterator", data := .fields #[.ref l, .int 0 0] }).objs.size = s.heap.objs.size + 1 := Heap.size_push ..
  show _ ∧ _
  rw [hz]
  have he : IsEnum ((s.heap.push { cls := .type "tuple_iterator", data := .fields #[.ref l, .int 0 0] }).push
      { cls := .type "enumerate", data := .fields #[.none, .bool false, .ref s.heap.objs.size, rawInt 0, .none, .none] }) (s.heap.objs.size + 1) s.heap.objs.size 0 .none := by
    have := Heap.get?_push_size (s.heap.push { cls := .type "tuple_iterator", data := .fields #[.ref l, .int 0 0] })
      (o := { cls := .type "enumerate", data := .fields #[.none, .bool false, .ref s.heap.objs.size, rawInt 0, .none, .none] }) rfl
    rw [hz] at this; exact this
  refine ⟨⟨_, he, rfl⟩, h _ he ⟨_, Heap.get?_push_of_some _ (Heap.get?_push_size _ rfl), rfl, rfl⟩ (by rw [Heap.size_push, hz]) fun b o x => Heap.get?_push_of_some _ (Heap.get?_push_of_some _ x)⟩
end
def IteT (K : PySem.W.Frag) (a : Addr) : It :=
  ⟨fun i H => ∃ (xs : List V) (x : V), SqT K H a xs ∧ xs[i]? = some x, fun i H v H' => ∃ T x, v = .ref T ∧ H T = none ∧ H' = upd H T (.tup [.int (i : Nat), x]) ∧ ∀ xs, SqT K H a xs → xs[i]? = some x, fun i H => ∃ xs : List V, SqT K H a xs ∧ xs.length = i⟩
theorem turn_enumT {P : Program} {w : World} {K : PySem.W.Frag} {elts : List Expr} {kk : Nat} {tpos : Pos} (a e it : Addr) (hat : a ≠ it) (hae : a ≠ e) :
    Turn P w K (.Tuple elts kk tpos) (IteT K a) [e, it] e (fun i h => (∃ old, IsEnum h e it ((i : Nat) : Int) old) ∧ h.IsTupleIter it a i ∧ e ≠ it) where
  mem := by simp
  obj := fun i h st b hb => by
    obtain ⟨⟨old, he⟩, ⟨o, ho, hc, hd⟩, _⟩ := st
    have e' : b = e ∨ b = it := by simpa using hb
    rcases e' with z | z
    · rw [z]; exact ⟨_, he, fun v q => nomatch q⟩
    · rw [z]; exact ⟨o, ho, fun v q => by rw [hd] at q; cases q⟩
  keep := fun i h h' st k => let ⟨⟨old, he⟩, hi, hne⟩ := st; ⟨⟨old, k e (by simp) _ he⟩, hi.at fun o q => k it (by simp) o q, hne⟩
  item := by
    intro X hP hw hK hc i pins s σ H E I hf st hg
    subst hP hw hK
    obtain ⟨⟨old, he⟩, hit, hne⟩ := st
    obtain ⟨xs, x, hq, hx⟩ := hg
    obtain ⟨its, rv, p, hz⟩ := I.tuple hq
    obtain ⟨u, hu, ru⟩ := rv.get hx
    have hel : e < s.heap.objs.size := Heap.lt_size he
    have hil : it < s.heap.objs.size := by obtain ⟨_, q, _⟩ := hit; exact Heap.lt_size q
    have hD := Draws.tuple (prog := X.prog) (w := X.w) (A := X.A.in1) (I.ok.hd hc) it a hat its.toArray
    have hlt : i < its.toArray.size := (Array.getElem?_eq_some_iff.mp (show its.toArray[i]? = some u by simpa using hu)).1
    refine wpAny_pyNext_enum_itemD hD he ⟨hit, p⟩ hlt hne (by simp [Ne.symm hae, hne]) fun x' h' tk hx' ho hit' hT hsz hk => ?_
    have ex : x' = u := by
      have z : its.toArray[i]? = some u := by simpa using hu
      rw [z] at hx'; cases hx'; rfl
    subst ex
    refine ⟨_, rfl, wpAny_letOwnedTupleGo_enum (s := { s with heap := h', toks := tk + 1 }) ho fun h'' he' sb => ?_⟩
    have hT2 : h''.get? s.heap.objs.size = some { cls := .type "tuple", data := .seq #[.int i tk, x'] } := (sb.2 _ (Nat.ne_of_gt hel)).trans hT
    have new : ObjOk X.prog X.w (upd H s.heap.objs.size (.tup [.int (i : Nat), x])) h'' s.heap.objs.size (.tup [.int (i : Nat), x]) :=
      ⟨by show 2 ≤ sizeLine; decide, [.int i tk, x'], .cons ⟨_, rfl⟩ (.cons ru .nil), ⟨_, hT2, rfl, _, rfl⟩⟩
    have I1 : Inv X pins σ (upd H s.heap.objs.size (.tup [.int (i : Nat), x])) { s with heap := h'', toks := tk + 1 } :=
      I.turnedNew (ch := [e, it]) (fun b ob hb q => (sb.2 b (fun z => hb (by simp [z]))).trans (hk b ob (fun z => hb (by simp [z])) (fun z => hb (by simp [z])) q)) hf (Nat.le_refl _) new
    refine ⟨.ref s.heap.objs.size, _, I1, rfl, ⟨_, x, rfl, I.hok.fresh (Nat.le_refl _), rfl, fun ys hy => by rw [I.tuple_inj hy hq]; exact hx⟩, ⟨⟨x', ?_⟩, hit'.1.at fun o q => (sb.2 it (Ne.symm hne)).trans q, hne⟩, fun b hb => ?_⟩
    · have e1 : ((i + 1 : Nat) : Int) = (i : Int) + 1 := by omega
      rw [e1]; exact he'
    · have hb' : b < s.heap.objs.size := by
        have e' : b = e ∨ b = it := by simpa using hb
        rcases e' with z | z
        · rw [z]; exact hel
        · rw [z]; exact hil
      rw [upd_ne (Nat.ne_of_lt hb')]
      exact (hf b hb).1
  done := by
    intro X hP hw hK hc i pins s σ H E I hf st hg
    subst hP hw hK
    obtain ⟨⟨old, he⟩, hit, hne⟩ := st
    obtain ⟨xs, hq, hx⟩ := hg
    obtain ⟨its, rv, p, hz⟩ := I.tuple hq
    obtain ⟨f0, f1, f2, f3, f4, f5⟩ := hf it (by simp)
    have hl := rv.length
    have hsz : its.toArray.size = i := by rw [List.size_toArray]; omega
    have hD := Draws.tuple (prog := X.prog) (w := X.w) (A := X.A.in1) (I.ok.hd hc) it a hat its.toArray
    have hst : its.toArray.size = i := hsz
    subst hst
    exact wpAny_pyNext_enum_endD hD he ⟨hit, p⟩ fun h' eb => ⟨rfl, I.turned (t' := s.toks) (fun b o hb q => eb b o hb q) f0 f1 f3 f4 f5⟩
  self := fun A i s Q E st h => let ⟨⟨_, he⟩, _⟩ := st; wpAny_pyIter_enum he h
def iEnumT (K : PySem.W.Frag) (ta : TA) : TI := fun σ H R => ta σ H fun vs H1 => ∃ a xs, vs = [.ref a] ∧ SqT K H1 a xs ∧ R (IteT K a) H1
theorem pi_enumT {X : Cx} {e : Expr} {ta : TA} {p pos tpos : Pos} {elts : List Expr} {kk : Nat} (hg : Gl X "enumerate") (hm : X.mg "enumerate" = none) (ha : PA X [e] ta) (hs : starEach [e] X.env = [(false, eval e X.env)]) :
    PI X (.Tuple elts kk tpos) (.Call (.Name "enumerate" p) [e] [] pos) (iEnumT X.K ta) := by
  refine ⟨fun pins s σ H R I h => ?_⟩
  refine Call_ (ld_blt I hg hm boot_enumerate (PyProof.Rows.callWith_type1 (thn (ha.run pos pins s σ H _ I h) fun us s1 ⟨vs, H1, I1, r1, q1⟩ => ?_) hs rfl))
  obtain ⟨a, xs, ex, hq, q⟩ := q1
  subst ex
  cases r1 with
  | cons r rr =>
    cases rr
    cases r
    obtain ⟨its, rv, p', hz⟩ := I1.tuple hq
    obtain ⟨oa, hoa, _⟩ := id p'
    have la : a < s1.heap.objs.size := Heap.lt_size hoa
    refine call_enumT (show s1.heap.IsTuple a its.toArray from p') fun h' he hit hsz hk => wpAny_pyIter_enum he ?_
    have I2 : Inv X pins σ H1 { s1 with heap := h' } := I1.kept (t' := s1.toks) hk
    refine ⟨s1.heap.objs.size + 1, [s1.heap.objs.size + 1, s1.heap.objs.size], _, _, H1, rfl, I2, turn_enumT a (s1.heap.objs.size + 1) s1.heap.objs.size (Nat.ne_of_lt la) (Nat.ne_of_lt (Nat.lt_succ_of_lt la)), ⟨⟨.none, he⟩, hit, Nat.succ_ne_self _⟩, fun b hb => ?_, q⟩
    have e' : b = s1.heap.objs.size + 1 ∨ b = s1.heap.objs.size := by simpa using hb
    have hle : s1.heap.objs.size ≤ b := by
      rcases e' with z | z
      · rw [z]; exact Nat.le_add_right _ _
      · rw [z]; exact Nat.le_refl _
    exact I1.fpOk hle (I1.hok.fresh hle)
end Ev
/-! Ev: what is walked. -/
namespace Ev
open PySem PySem.Spec PyProof.Rows L2
/-- a walk's turns, from any later state in which what is walked stands as it did -/
structure Wk (K : PySem.W.Frag) (J : It) (ρ0 : List Addr) (H0 : Hp) (xs : List D) (ch : Chk) : Prop where
  go : ∀ (i : Nat) (H : Hp) (ρ : List Addr) (h : Sto) (d : D), Post ρ0 H0 ρ H → RS K H ρ h → chkOk ch h → xs[i]? = some d →
    J.go i H ∧ ∀ v H', J.yld i H v H' → Post ρ H ρ H' ∧ RS K H' ρ h ∧ RD K H' ρ d v
  stop : ∀ (H : Hp) (ρ : List Addr) (h : Sto), Post ρ0 H0 ρ H → RS K H ρ h → chkOk ch h → J.stop xs.length H
def tI (K : PySem.W.Frag) (c : CallT) (x : X) : TI := fun σ H R => ∃ sl h ρ xs ch h', Rsl K H ρ sl σ ∧ RS K H ρ h ∧ evI c x sl h = .ok (xs, ch) h' ∧
  ∀ J H' ρ', Post ρ H ρ' H' → RS K H' ρ' h' → chkOk ch h' → Wk K J ρ' H' xs ch → R J H'
section
variable {X : Cx} {c : CallT} {a b e tg : Expr} {xa xb xc : Ev.X} {pos : Pos}
theorem PI.to {it : Expr} {t t' : TI} (h : PI X tg it t) (g : ∀ σ H R, t' σ H R → t σ H R) : PI X tg it t' := ⟨fun pins s σ H R I q => h.run pins s σ H R I (g σ H R q)⟩
theorem PI.or {it : Expr} {t t' : TI} (h : PI X tg it t) (h' : PI X tg it t') : PI X tg it (fun σ H R => t σ H R ∨ t' σ H R) := ⟨fun pins s σ H R I q => q.elim (h.run pins s σ H R I) (h'.run pins s σ H R I)⟩
theorem chkOf_ok {h : Sto} {d : D} : chkOk (chkOf h d) h := by
  unfold chkOf
  split
  · split
    · rename_i q; exact ⟨q, trivial⟩
    · trivial
  · trivial
theorem chkOk_append {c1 c2 : Chk} {h : Sto} : chkOk (c1 ++ c2) h ↔ chkOk c1 h ∧ chkOk c2 h := by
  induction c1 with
  | nil => simp [chkOk]
  | cons p r ih => obtain ⟨n, o⟩ := p; simp [chkOk, ih, and_assoc]
/-- a list, as it is found at later states -/
theorem later_lst {K : PySem.W.Frag} {ρ0 : List Addr} {H0 : Hp} {h0 : Sto} (r0 : RS K H0 ρ0 h0) {d : D} {v : V} (rd : RD K H0 ρ0 d v) {xs : List D} (e : lstOf h0 d = some xs) :
    ∃ a, v = .ref a ∧ ∀ (H : Hp) (ρ : List Addr) (h : Sto), Post ρ0 H0 ρ H → RS K H ρ h → chkOk (chkOf h0 d) h → ∃ vs, SqL K H a vs ∧ RDs K H ρ xs vs := by
  cases rd with
  | @fl a ys vs s rs =>
    simp only [lstOf] at e
    cases e
    exact ⟨a, rfl, fun H ρ h p r _ => ⟨vs, ((p.ext r0).fl _ _ s).l, rs.ext (p.ext r0)⟩⟩
  | @ref n a en =>
    simp only [lstOf] at e
    cases q : h0[n]? with
    | none => rw [q] at e; cases e
    | some o =>
      rw [q] at e
      cases o with
      | dct f kvs => cases e
      | lst ys =>
        cases e
        refine ⟨a, rfl, fun H ρ h p r c => ?_⟩
        simp only [chkOf, q, chkOk] at c
        obtain ⟨b, ho, h1, h2, h3⟩ := r.at_ n _ c.1
        rw [pre_get p.pre en] at h1
        cases h1
        cases h3 with
        | lst h3 => exact ⟨_, .inl (.inl h2), h3⟩
  | _ => cases e
theorem later_tup {K : PySem.W.Frag} {ρ0 : List Addr} {H0 : Hp} {h0 : Sto} (r0 : RS K H0 ρ0 h0) {xs : List D} {v : V} (rd : RD K H0 ρ0 (.tup xs) v) :
    ∃ a, v = .ref a ∧ ∀ (H : Hp) (ρ : List Addr) (h : Sto), Post ρ0 H0 ρ H → RS K H ρ h → ∃ vs, SqT K H a vs ∧ RDs K H ρ xs vs := by
  cases rd with
  | @tup a ys vs s rs => exact ⟨a, rfl, fun H ρ h p r => ⟨vs, (p.ext r0).tup _ _ s, rs.ext (p.ext r0)⟩⟩
theorem wk_list {K : PySem.W.Frag} {ρ0 : List Addr} {H0 : Hp} {a : Addr} {xs : List D} {ch : Chk} (g : ∀ (H : Hp) (ρ : List Addr) (h : Sto), Post ρ0 H0 ρ H → RS K H ρ h → chkOk ch h → ∃ vs, SqL K H a vs ∧ RDs K H ρ xs vs) : Wk K (Itl K a) ρ0 H0 xs ch := by
  constructor
  · intro i H ρ h d p r c e
    obtain ⟨vs, s, rs⟩ := g H ρ h p r c
    obtain ⟨v, h1, h2⟩ := rs.get e
    refine ⟨⟨vs, v, s, h1⟩, fun v' H' y => ?_⟩
    obtain ⟨rfl, y⟩ := y
    have := y vs s
    rw [h1] at this
    cases this
    exact ⟨.refl, r, h2⟩
  · intro H ρ h p r c
    obtain ⟨vs, s, rs⟩ := g H ρ h p r c
    exact ⟨vs, s, by rw [rs.length]; exact Nat.le_refl _⟩
theorem wk_tup {K : PySem.W.Frag} {ρ0 : List Addr} {H0 : Hp} {a : Addr} {xs : List D} {ch : Chk} (g : ∀ (H : Hp) (ρ : List Addr) (h : Sto), Post ρ0 H0 ρ H → RS K H ρ h → ∃ vs, SqT K H a vs ∧ RDs K H ρ xs vs) : Wk K (Itt K a) ρ0 H0 xs ch := by
  constructor
  · intro i H ρ h d p r c e
    obtain ⟨vs, s, rs⟩ := g H ρ h p r
    obtain ⟨v, h1, h2⟩ := rs.get e
    refine ⟨⟨vs, v, s, h1⟩, fun v' H' y => ?_⟩
    obtain ⟨rfl, y⟩ := y
    have := y vs s
    rw [h1] at this
    cases this
    exact ⟨.refl, r, h2⟩
  · intro H ρ h p r c
    obtain ⟨vs, s, rs⟩ := g H ρ h p r
    exact ⟨vs, s, by rw [rs.length]; exact Nat.le_refl _⟩
theorem wk_chk {K : PySem.W.Frag} {J : It} {ρ0 : List Addr} {H0 : Hp} {xs : List D} {ch ch' : Chk} (w : Wk K J ρ0 H0 xs ch) (g : ∀ h, chkOk ch' h → chkOk ch h) : Wk K J ρ0 H0 xs ch' :=
  ⟨fun i H ρ h d p r c e => w.go i H ρ h d p r (g h c) e, fun H ρ h p r c => w.stop H ρ h p r (g h c)⟩
theorem dropLast_take {α : Type} (h : List α) {m : Nat} (e : m + 1 = h.length) : h.dropLast = h.take m := by
  rw [List.dropLast_eq_take]; congr 1; omega
/-- a value that is walked -/
theorem items_of {K : PySem.W.Frag} {ρ ρ1 : List Addr} {H H1 : Hp} {h h1 h2 : Sto} {d : D} {v : V} {xs : List D} {ch : Chk} (r : RS K H ρ h) (p : Post ρ H ρ1 H1) (r1 : RS K H1 ρ1 h1) (rd : RD K H1 ρ1 d v) (e : itemsOf h.length d h1 = .ok (xs, ch) h2) :
    ∃ a, v = .ref a ∧ ∃ ρ2, Post ρ H ρ2 H1 ∧ RS K H1 ρ2 h2 ∧ chkOk ch h2 ∧ ((∀ ys, d ≠ .tup ys) ∧ (∃ vs, SqL K H1 a vs) ∧ Wk K (Itl K a) ρ2 H1 xs ch ∨ (∃ ys, d = .tup ys) ∧ (∃ vs, SqT K H1 a vs) ∧ Wk K (Itt K a) ρ2 H1 xs ch) := by
  unfold itemsOf at e
  split at e
  · cases e
    obtain ⟨a, rfl, g⟩ := later_tup r1 rd
    obtain ⟨vs, s, _⟩ := g H1 ρ1 _ .refl r1
    exact ⟨a, rfl, ρ1, p, r1, trivial, .inr ⟨⟨_, rfl⟩, ⟨vs, s⟩, wk_tup g⟩⟩
  · cases e
    obtain ⟨a, rfl, g⟩ := later_lst r1 rd rfl
    obtain ⟨vs, s, _⟩ := g H1 ρ1 _ .refl r1 trivial
    exact ⟨a, rfl, ρ1, p, r1, trivial, .inl ⟨fun _ z => (by cases z), ⟨vs, s⟩, wk_list g⟩⟩
  · rename_i m
    split at e
    · rename_i ys q
      split at e
      · rename_i co
        cases e
        simp only [Bool.and_eq_true, decide_eq_true_eq] at co
        obtain ⟨⟨⟨c1, c2⟩, c3⟩, c4⟩ := co
        obtain ⟨a, vs, rfl, h3, h4, h5⟩ := own_of r1 rd q
        have hl1 := r1.len
        have hl0 := r.len
        have hm : m < ρ1.length := by omega
        have hpre : ρ1.take m <+: ρ1 := List.take_prefix _ _
        have hlen : (ρ1.take m).length = m := by rw [List.length_take]; omega
        have e2 : h1.dropLast = h1.take m := dropLast_take h1 c2
        have r2 : RS K H1 (ρ1.take m) (h1.take m) := by
          have := r1.shrink hpre (by rw [hlen]; rw [← e2]; exact c3)
          rw [hlen] at this
          exact this
        have nt : a ∉ ρ1.take m := fun hmem => by
          obtain ⟨i, hi, e3⟩ := List.mem_iff_getElem.mp hmem
          rw [hlen] at hi
          rw [List.getElem_take] at e3
          obtain ⟨l2, q2⟩ := List.getElem?_eq_some_iff.mp h3
          have := (List.getElem_inj r1.nd).mp (e3.trans q2.symm)
          omega
        have p2 : Post ρ H (ρ1.take m) H1 := by
          exact ⟨List.prefix_take_iff.mpr ⟨p.pre, by omega⟩, p.keep, fun b hb nb => p.new b (List.mem_of_mem_take hb) nb⟩
        rw [e2]
        refine ⟨a, rfl, ρ1.take m, p2, r2, trivial, .inl ⟨fun _ z => (by cases z), ⟨vs, .inl (.inl h4)⟩, wk_list fun H ρ h p' r' _ => ⟨vs, .inl (.inl (p'.keep _ _ h4 nt)), ?_⟩⟩⟩
        have := h5.shrink hpre (by rw [hlen]; exact c4)
        exact this.ext (p'.ext r2)
      · cases e
        obtain ⟨a, rfl, g⟩ := later_lst r1 rd (show lstOf _ (.ref m) = some xs by simp only [lstOf, q])
        simp only [chkOf, q] at g
        obtain ⟨vs, s, _⟩ := g H1 ρ1 _ .refl r1 ⟨q, trivial⟩
        exact ⟨a, rfl, ρ1, p, r1, ⟨q, trivial⟩, .inl ⟨fun _ z => (by cases z), ⟨vs, s⟩, wk_list g⟩⟩
    · cases e
  · cases e
theorem pi_val (ha : PE X a (tE X.K c xa)) (hd : ∀ sl h, evI c xa sl h = (ev c xa sl h).bind fun d h' => itemsOf h.length d h') : PI X tg a (tI X.K c xa) := by
  refine PI.to (PI.or (pi_list ha) (pi_tup ha)) ?_
  rintro σ H R ⟨sl, h, ρ, xs, ch, h', rl, r, e, f⟩
  rw [hd] at e
  obtain ⟨d, h1, e1, e⟩ := Res.bind_eq e
  by_cases hT : ∃ ys, d = .tup ys
  · refine .inr ⟨sl, h, ρ, d, h1, rl, r, e1, fun v H1 ρ1 p1 r1 rd1 => ?_⟩
    obtain ⟨a, rfl, ρ2, p2, r2, c2, q⟩ := items_of r p1 r1 rd1 e
    rcases q with ⟨n, _⟩ | ⟨_, s, w⟩
    · obtain ⟨ys, z⟩ := hT; exact absurd z (n ys)
    · exact ⟨a, rfl, s, f _ _ _ p2 r2 c2 w⟩
  · refine .inl ⟨sl, h, ρ, d, h1, rl, r, e1, fun v H1 ρ1 p1 r1 rd1 => ?_⟩
    obtain ⟨a, rfl, ρ2, p2, r2, c2, q⟩ := items_of r p1 r1 rd1 e
    rcases q with ⟨_, s, w⟩ | ⟨z, _⟩
    · exact ⟨a, rfl, s, f _ _ _ p2 r2 c2 w⟩
    · exact absurd z hT
/-! ### ranges -/
theorem wk_range {K : PySem.W.Frag} {ρ0 : List Addr} {H0 : Hp} {lo : Int} {n : Nat} {xs : List D} {J : It} (hl : xs.length = n) (hx : ∀ i d, xs[i]? = some d → ∃ k, d = .int k ∧ ∀ H v H', J.yld i H v H' → H' = H ∧ v = .int k) (hg : ∀ i H, i < n → J.go i H) (hs : ∀ H, J.stop n H) : Wk K J ρ0 H0 xs [] := by
  constructor
  · intro i H ρ h d p r c e
    have hi := (List.getElem?_eq_some_iff.mp e).1
    obtain ⟨k, rfl, y⟩ := hx i d e
    refine ⟨hg i H (by omega), fun v H' yy => ?_⟩
    obtain ⟨rfl, rfl⟩ := y _ _ _ yy
    exact ⟨.refl, r, .int _⟩
  · intro H ρ h p r c
    rw [hl]; exact hs H
theorem intsD_length {lo : Int} {n : Nat} : (intsD lo n).length = n := by simp [intsD]
theorem wk_up {K : PySem.W.Frag} {ρ0 : List Addr} {H0 : Hp} {lo : Int} {n : Nat} : Wk K (Itr lo n) ρ0 H0 (intsD lo n) [] := by
  refine wk_range (lo := lo) (n := n) intsD_length (fun i d e => ?_) (fun i H h => h) (fun H => Nat.le_refl _)
  unfold intsD at e
  rw [List.getElem?_map] at e
  have hi : i < n := by
    by_cases hi : i < n
    · exact hi
    · rw [List.getElem?_eq_none (by simp; omega)] at e; cases e
  rw [List.getElem?_range hi] at e
  cases e
  exact ⟨_, rfl, fun H v H' y => y⟩
theorem wk_down {K : PySem.W.Frag} {ρ0 : List Addr} {H0 : Hp} {lo : Int} {n : Nat} : Wk K (Itc lo (-1) n) ρ0 H0 ((List.range n).map fun k => .int (lo - (k : Nat))) [] := by
  refine wk_range (lo := lo) (n := n) (by simp) (fun i d e => ?_) (fun i H h => h) (fun H => Nat.le_refl _)
  rw [List.getElem?_map] at e
  have hi : i < n := by
    by_cases hi : i < n
    · exact hi
    · rw [List.getElem?_eq_none (by simp; omega)] at e; cases e
  rw [List.getElem?_range hi] at e
  cases e
  refine ⟨_, rfl, fun H v H' y => ⟨y.1, ?_⟩⟩
  rw [y.2]; congr 1; omega
theorem i_range1 {p : Pos} {e1 : Expr} {x1 : Ev.X} (hg : Gl X "range") (hm : X.mg "range" = none) (ha : PA X [e1] (tA X.K c [x1])) (hs : starEach [e1] X.env = (false, eval e1 X.env) :: starEach [] X.env) : PI X tg (.Call (.Name "range" p) [e1] [] pos) (tI X.K c (.range [x1])) := by
  refine PI.to (pi_range1 hg hm ha hs) ?_
  rintro σ H R ⟨sl, h, ρ, xs, ch, h', rl, r, e, f⟩
  simp only [evI] at e
  obtain ⟨ds, h1, e1, e⟩ := Res.bind_eq e
  refine ⟨sl, h, ρ, ds, h1, rl, r, e1, fun vs H1 ρ1 p1 r1 rs => ?_⟩
  split at e <;> try (first | cases e; done)
  · split at e
    · rename_i hb
      cases e
      cases rs with
      | cons q1 q2 =>
        cases q2; cases q1
        have : (sizeLine : Int) < 2 ^ 62 := by decide
        exact ⟨_, rfl, hb.1, by omega, f _ _ _ p1 r1 trivial wk_up⟩
    · cases e
  · exfalso
    split at e <;> first | (cases e; done) | skip
    simp only [evs] at e1
    obtain ⟨_, _, _, z⟩ := Res.bind_eq e1
    simp only [Res.bind_ok] at z
    cases z
  · exfalso
    split at e <;> first | (cases e; done) | skip
    simp only [evs] at e1
    obtain ⟨_, _, _, z⟩ := Res.bind_eq e1
    simp only [Res.bind_ok] at z
    cases z
theorem i_range2 {p : Pos} {e1 e2 : Expr} {x1 x2 : Ev.X} (hg : Gl X "range") (hm : X.mg "range" = none) (ha : PA X [e1, e2] (tA X.K c [x1, x2])) (hs : starEach [e1, e2] X.env = (false, eval e1 X.env) :: starEach [e2] X.env) (hs2 : starEach [e2] X.env = (false, eval e2 X.env) :: starEach [] X.env) :
    PI X tg (.Call (.Name "range" p) [e1, e2] [] pos) (tI X.K c (.range [x1, x2])) := by
  refine PI.to (pi_range2 hg hm ha (by rw [hs, hs2]; rfl) (by rw [hs2]; rfl)) ?_
  rintro σ H R ⟨sl, h, ρ, xs, ch, h', rl, r, e, f⟩
  simp only [evI] at e
  obtain ⟨ds, h1, e1, e⟩ := Res.bind_eq e
  refine ⟨sl, h, ρ, ds, h1, rl, r, e1, fun vs H1 ρ1 p1 r1 rs => ?_⟩
  have two : ∃ a b, ds = [a, b] := by
    simp only [evs] at e1
    obtain ⟨_, _, _, z⟩ := Res.bind_eq e1
    obtain ⟨_, _, z1, z⟩ := Res.bind_eq z
    obtain ⟨_, _, _, z1⟩ := Res.bind_eq z1
    cases z1; cases z
    exact ⟨_, _, rfl⟩
  split at e <;> try (first | cases e; done)
  · obtain ⟨_, _, z⟩ := two; cases z
  · split at e
    · rename_i hb
      cases e
      cases rs with
      | cons q1 q2 =>
        cases q2 with
        | cons q2 q3 =>
          cases q3; cases q1; cases q2
          exact ⟨_, _, rfl, ⟨hb.1, hb.2.1, hb.2.2.1, hb.2.2.2.1⟩, f _ _ _ p1 r1 trivial wk_up⟩
    · cases e
  · obtain ⟨_, _, z⟩ := two; cases z
theorem i_range3 {p : Pos} {e1 e2 e3 : Expr} {x1 x2 x3 : Ev.X} (hg : Gl X "range") (hm : X.mg "range" = none) (ha : PA X [e1, e2, e3] (tA X.K c [x1, x2, x3])) (hs : starEach [e1, e2, e3] X.env = (false, eval e1 X.env) :: starEach [e2, e3] X.env) (hpl : (backTo pos (starEach [e2, e3] X.env)).any (·.1) = false) :
    PI X tg (.Call (.Name "range" p) [e1, e2, e3] [] pos) (tI X.K c (.range [x1, x2, x3])) := by
  refine PI.to (pi_range3 hg hm ha hs hpl) ?_
  rintro σ H R ⟨sl, h, ρ, xs, ch, h', rl, r, e, f⟩
  simp only [evI] at e
  obtain ⟨ds, h1, e1, e⟩ := Res.bind_eq e
  refine ⟨sl, h, ρ, ds, h1, rl, r, e1, fun vs H1 ρ1 p1 r1 rs => ?_⟩
  have two : ∃ a b c, ds = [a, b, c] := by
    simp only [evs] at e1
    obtain ⟨_, _, _, z⟩ := Res.bind_eq e1
    obtain ⟨_, _, z1, z⟩ := Res.bind_eq z
    obtain ⟨_, _, _, z1⟩ := Res.bind_eq z1
    obtain ⟨_, _, z2, z1⟩ := Res.bind_eq z1
    obtain ⟨_, _, _, z2⟩ := Res.bind_eq z2
    cases z2; cases z1; cases z
    exact ⟨_, _, _, rfl⟩
  split at e <;> try (first | cases e; done)
  · obtain ⟨_, _, _, z⟩ := two; cases z
  · obtain ⟨_, _, _, z⟩ := two; cases z
  · split at e
    · rename_i hb
      cases e
      cases rs with
      | cons q1 q2 =>
        cases q2 with
        | cons q2 q3 =>
          cases q3 with
          | cons q3 q4 =>
            cases q4; cases q1; cases q2; cases q3
            obtain ⟨rfl, b1, b2, b3, b4, b5⟩ := hb
            exact ⟨_, _, _, _, rfl, RgC.neg (by omega) (by omega) (by omega) (by omega), f _ _ _ p1 r1 trivial wk_down⟩
    · cases e
/-! ### zip, enumerate -/
theorem zip_get {xs ys : List D} {i : Nat} {d : D} (e : ((xs.zip ys).map fun p => D.tup [p.1, p.2])[i]? = some d) : ∃ x y, xs[i]? = some x ∧ ys[i]? = some y ∧ d = .tup [x, y] := by
  rw [List.getElem?_map] at e
  cases q : (xs.zip ys)[i]? with
  | none => rw [q] at e; cases e
  | some p =>
    rw [q] at e; cases e
    rw [List.getElem?_zip_eq_some] at q
    exact ⟨_, _, q.1, q.2, rfl⟩
theorem zip_len {xs ys : List D} {vs ws : List V} (h1 : xs.length = vs.length) (h2 : ys.length = ws.length) : vs.length ≤ ((xs.zip ys).map fun p => D.tup [p.1, p.2]).length ∨ ws.length ≤ ((xs.zip ys).map fun p => D.tup [p.1, p.2]).length := by
  rw [List.length_map, List.length_zip]; omega
theorem i_zip {p tpos : Pos} {e1 e2 : Expr} {elts : List Expr} {kk : Nat} (hg : Gl X "zip") (hm : X.mg "zip" = none) (ha : PE X e1 (tE X.K c xa)) (hb : PE X e2 (tE X.K c xb))
    (hs : starEach [e1, e2] X.env = (false, eval e1 X.env) :: starEach [e2] X.env) (hs2 : starEach [e2] X.env = (false, eval e2 X.env) :: starEach [] X.env) (hpl : (backTo pos (starEach [e2] X.env)).any (·.1) = false) :
    PI X (.Tuple elts kk tpos) (.Call (.Name "zip" p) [e1, e2] [] pos) (tI X.K c (.zip xa xb)) := by
  refine PI.to (RZ.pi_zipA hg hm (x_cons ha (x_cons hb x_nil hs2) hs) hs hpl) ?_
  rintro σ H R ⟨sl, h, ρ, xs, ch, h', rl, r, e, f⟩
  simp only [evI] at e
  obtain ⟨x, h1, e1, e⟩ := Res.bind_eq e
  obtain ⟨y, h2, e2, e⟩ := Res.bind_eq e
  refine ⟨sl, h, ρ, [x, y], h2, rl, r, by simp only [evs, e1, e2, Res.bind_ok], fun vs H1 ρ1 p1 r1 rs => ?_⟩
  cases rs with
  | cons q1 q2 =>
    cases q2 with
    | cons q2 q3 =>
      cases q3
      unfold zipop at e
      split at e
      · cases e
        obtain ⟨a, rfl, ga⟩ := later_tup r1 q1
        obtain ⟨b, rfl, gb⟩ := later_tup r1 q2
        obtain ⟨us, s1, _⟩ := ga H1 ρ1 _ .refl r1
        obtain ⟨ws, s2, _⟩ := gb H1 ρ1 _ .refl r1
        refine ⟨a, b, us, ws, rfl, .inr ⟨s1, s2, f _ _ _ p1 r1 trivial ⟨?_, ?_⟩⟩⟩
        · intro i H ρ h d p r c e
          obtain ⟨x, y, ex, ey, rfl⟩ := zip_get e
          obtain ⟨us, s1, t1⟩ := ga H ρ _ p r
          obtain ⟨ws, s2, t2⟩ := gb H ρ _ p r
          obtain ⟨v, g1, g2⟩ := t1.get ex
          obtain ⟨w, g3, g4⟩ := t2.get ey
          refine ⟨⟨us, ws, v, w, s1, s2, g1, g3⟩, fun v' H' yy => ?_⟩
          obtain ⟨T, x', y', rfl, hT, rfl, yx, yy⟩ := yy
          have ex := yx _ s1
          have ey := yy _ s2
          rw [g1] at ex; rw [g3] at ey
          cases ex; cases ey
          exact ⟨.fresh hT r, r.fresh hT, .tup (SqT.of upd_same) (RDs.ext ((Post.fresh hT r).ext r) (.cons g2 (.cons g4 .nil)))⟩
        · intro H ρ h p r c
          obtain ⟨us, s1, t1⟩ := ga H ρ _ p r
          obtain ⟨ws, s2, t2⟩ := gb H ρ _ p r
          exact ⟨us, ws, s1, s2, zip_len t1.length t2.length⟩
      · split at e
        · rename_i xs ys l1 l2
          cases e
          obtain ⟨a, rfl, ga⟩ := later_lst r1 q1 l1
          obtain ⟨b, rfl, gb⟩ := later_lst r1 q2 l2
          have co : chkOk (chkOf h' x ++ chkOf h' y) h' := chkOk_append.mpr ⟨chkOf_ok, chkOf_ok⟩
          obtain ⟨us, s1, _⟩ := ga H1 ρ1 _ .refl r1 chkOf_ok
          obtain ⟨ws, s2, _⟩ := gb H1 ρ1 _ .refl r1 chkOf_ok
          refine ⟨a, b, us, ws, rfl, .inl ⟨s1, s2, f _ _ _ p1 r1 co ⟨?_, ?_⟩⟩⟩
          · intro i H ρ h d p r c e
            obtain ⟨c1, c2⟩ := chkOk_append.mp c
            obtain ⟨x, y, ex, ey, rfl⟩ := zip_get e
            obtain ⟨us, s1, t1⟩ := ga H ρ _ p r c1
            obtain ⟨ws, s2, t2⟩ := gb H ρ _ p r c2
            obtain ⟨v, g1, g2⟩ := t1.get ex
            obtain ⟨w, g3, g4⟩ := t2.get ey
            refine ⟨⟨us, ws, v, w, s1, s2, g1, g3⟩, fun v' H' yy => ?_⟩
            obtain ⟨T, x', y', rfl, hT, rfl, yx, yy⟩ := yy
            have ex := yx _ s1
            have ey := yy _ s2
            rw [g1] at ex; rw [g3] at ey
            cases ex; cases ey
            exact ⟨.fresh hT r, r.fresh hT, .tup (SqT.of upd_same) (RDs.ext ((Post.fresh hT r).ext r) (.cons g2 (.cons g4 .nil)))⟩
          · intro H ρ h p r c
            obtain ⟨c1, c2⟩ := chkOk_append.mp c
            obtain ⟨us, s1, t1⟩ := ga H ρ _ p r c1
            obtain ⟨ws, s2, t2⟩ := gb H ρ _ p r c2
            exact ⟨us, ws, s1, s2, zip_len t1.length t2.length⟩
        · cases e
theorem pairsFrom_get : ∀ {xs : List D} {n i : Nat} {d : D}, (pairsFrom n xs)[i]? = some d → ∃ x, xs[i]? = some x ∧ d = .tup [.int ((n + i : Nat) : Int), x]
  | [], _, _, _, e => by simp [pairsFrom] at e
  | x :: xs, n, 0, d, e => by simp [pairsFrom] at e; subst e; exact ⟨x, rfl, rfl⟩
  | x :: xs, n, i + 1, d, e => by
    obtain ⟨y, h1, h2⟩ := pairsFrom_get (xs := xs) (n := n + 1) (i := i) (by simpa [pairsFrom] using e)
    refine ⟨y, by simpa using h1, ?_⟩
    rw [h2]
    have : n + 1 + i = n + (i + 1) := by omega
    rw [this]
theorem pairsFrom_length : ∀ (xs : List D) (n : Nat), (pairsFrom n xs).length = xs.length
  | [], _ => rfl
  | x :: xs, n => congrArg Nat.succ (pairsFrom_length xs (n + 1))
theorem i_enum {p tpos : Pos} {e1 : Expr} {elts : List Expr} {kk : Nat} (hg : Gl X "enumerate") (hm : X.mg "enumerate" = none) (ha : PE X e1 (tE X.K c xa))
    (hs : starEach [e1] X.env = (false, eval e1 X.env) :: starEach [] X.env) : PI X (.Tuple elts kk tpos) (.Call (.Name "enumerate" p) [e1] [] pos) (tI X.K c (.enum xa)) := by
  refine PI.to (PI.or (pi_enum hg hm (x_cons ha x_nil hs) hs) (pi_enumT hg hm (x_cons ha x_nil hs) hs)) ?_
  rintro σ H R ⟨sl, h, ρ, xs, ch, h', rl, r, e, f⟩
  simp only [evI] at e
  obtain ⟨x, h1, e1, e⟩ := Res.bind_eq e
  unfold enumop at e
  split at e
  · rename_i ys q
    cases e
    by_cases hT : ∃ zs, x = .tup zs
    · obtain ⟨zs, rfl⟩ := hT
      cases q
      refine .inr ⟨sl, h, ρ, [.tup ys], h', rl, r, by simp only [evs, e1, Res.bind_ok], fun vs H1 ρ1 p1 r1 rs => ?_⟩
      cases rs with
      | cons q1 q2 =>
        cases q2
        obtain ⟨a, rfl, ga⟩ := later_tup r1 q1
        obtain ⟨us, s1, _⟩ := ga H1 ρ1 _ .refl r1
        refine ⟨a, us, rfl, s1, f _ _ _ p1 r1 trivial ⟨?_, ?_⟩⟩
        · intro i H ρ h d p r c e
          obtain ⟨x, ex, rfl⟩ := pairsFrom_get e
          obtain ⟨us, s1, t1⟩ := ga H ρ _ p r
          obtain ⟨v, g1, g2⟩ := t1.get ex
          refine ⟨⟨us, v, s1, g1⟩, fun v' H' yy => ?_⟩
          obtain ⟨T, x', rfl, hT, rfl, yx⟩ := yy
          have ex := yx _ s1
          rw [g1] at ex
          cases ex
          rw [Nat.zero_add]
          exact ⟨.fresh hT r, r.fresh hT, .tup (SqT.of upd_same) (RDs.ext ((Post.fresh hT r).ext r) (.cons (.int _) (.cons g2 .nil)))⟩
        · intro H ρ h p r c
          obtain ⟨us, s1, t1⟩ := ga H ρ _ p r
          exact ⟨us, s1, by rw [pairsFrom_length, t1.length]⟩
    · have l1 : lstOf h' x = some ys := by
        unfold seqOf at q
        unfold lstOf
        split at q
        · exact absurd ⟨_, rfl⟩ hT
        · exact q
        · exact q
        · cases q
      refine .inl ⟨sl, h, ρ, [x], h', rl, r, by simp only [evs, e1, Res.bind_ok], fun vs H1 ρ1 p1 r1 rs => ?_⟩
      cases rs with
      | cons q1 q2 =>
        cases q2
        obtain ⟨a, rfl, ga⟩ := later_lst r1 q1 l1
        obtain ⟨us, s1, _⟩ := ga H1 ρ1 _ .refl r1 chkOf_ok
        refine ⟨a, us, rfl, s1, f _ _ _ p1 r1 chkOf_ok ⟨?_, ?_⟩⟩
        · intro i H ρ h d p r c e
          obtain ⟨x, ex, rfl⟩ := pairsFrom_get e
          obtain ⟨us, s1, t1⟩ := ga H ρ _ p r c
          obtain ⟨v, g1, g2⟩ := t1.get ex
          refine ⟨⟨us, v, s1, g1⟩, fun v' H' yy => ?_⟩
          obtain ⟨T, x', rfl, hT, rfl, yx⟩ := yy
          have ex := yx _ s1
          rw [g1] at ex
          cases ex
          rw [Nat.zero_add]
          exact ⟨.fresh hT r, r.fresh hT, .tup (SqT.of upd_same) (RDs.ext ((Post.fresh hT r).ext r) (.cons (.int _) (.cons g2 .nil)))⟩
        · intro H ρ h p r c
          obtain ⟨us, s1, t1⟩ := ga H ρ _ p r c
          exact ⟨us, s1, by rw [pairsFrom_length, t1.length]; exact Nat.le_refl _⟩
  · cases e
end
end Ev
/-! Ev: targets, comprehensions, statements. -/
namespace Ev
open PySem PySem.Spec PyProof.Rows L2
/-! ### targets -/
mutual
def Tg.names : Tg → List Nat
  | .nm i => [i]
  | .tup ts => Tg.namess ts
def Tg.namess : List Tg → List Nat
  | [] => []
  | t :: r => t.names ++ Tg.namess r
end
theorem wipe_set {σ : L2.St} {i : Nat} {x : Option V} : ∀ {vs : List Nat}, i ∈ vs → wipe (σ.set i x) vs = wipe σ vs
  | [], h => by simp at h
  | v :: vs, h => by
    show (wipe (σ.set i x) vs).set v none = (wipe σ vs).set v none
    by_cases hv : i ∈ vs
    · rw [wipe_set hv]
    · have e : i = v := by simpa [hv] using h
      subst e
      have go : ∀ (us : List Nat), i ∉ us → wipe (σ.set i x) us = (wipe σ us).set i x := by
        intro us
        induction us with
        | nil => intro _; rfl
        | cons u us ih =>
          intro hu
          show (wipe (σ.set i x) us).set u none = ((wipe σ us).set u none).set i x
          rw [ih (fun z => hu (by simp [z])), List.set_comm _ _ (fun z => hu (by simp [z]))]
      rw [go vs hv, List.set_set]
def tGt (K : PySem.W.Frag) (t : Tg) : TG := fun v σ H Q => ∃ sl ρ d sl', Rsl K H ρ sl σ ∧ RD K H ρ d v ∧ assign t d sl = some sl' ∧ ∀ σ', Rsl K H ρ sl' σ' → (∀ vs, (∀ i ∈ t.names, i ∈ vs) → wipe σ' vs = wipe σ vs) → Q σ' H
def tGts (K : PySem.W.Frag) (ts : List Tg) : TGs := fun us σ H Q => ∃ sl ρ ds sl', Rsl K H ρ sl σ ∧ RDs K H ρ ds us ∧ assign.assigns ts ds sl = some sl' ∧ ∀ σ', Rsl K H ρ sl' σ' → (∀ vs, (∀ i ∈ Tg.namess ts, i ∈ vs) → wipe σ' vs = wipe σ vs) → Q σ' H
section
variable {X : Cx} {pos : Pos} {e : Expr} {es : List Expr}
theorem PG.to {t t' : TG} (h : PG X e t) (g : ∀ v σ H Q, t' v σ H Q → t v σ H Q) : PG X e t' := ⟨fun pins s σ H v u Q I r q => h.run pins s σ H v u Q I r (g v σ H Q q)⟩
theorem PGs.to {t t' : TGs} (h : PGs X es t) (g : ∀ v σ H Q, t' v σ H Q → t v σ H Q) : PGs X es t' := ⟨fun pins s σ H v u Q I r q => h.run pins s σ H v u Q I r (g v σ H Q q)⟩
theorem g_nm {i : Nat} {x : Str} (hN : X.N.Nodup) (hi : X.N[i]? = some x) (hx : Loc X.env.scope x) (hf : X.fn x = true ∨ X.env.scope.names.lookup x = some .local) : PG X (.Name x pos) (tGt X.K (.nm i)) := by
  refine PG.to (pg_name hN hi hx hf) ?_
  rintro v σ H Q ⟨sl, ρ, d, sl', rl, rd, e, f⟩
  simp only [assign] at e
  cases e
  exact f _ (rl.set rd) fun vs h => wipe_set (h i (by simp [Tg.names]))
theorem gs_nil : PGs X [] (tGts X.K []) := by
  refine PGs.to pgs_nil ?_
  rintro us σ H Q ⟨sl, ρ, ds, sl', rl, rd, e, f⟩
  cases rd with
  | nil =>
    simp only [assign.assigns] at e
    cases e
    exact ⟨rfl, f σ rl fun _ _ => rfl⟩
  | cons r1 r2 => simp [assign.assigns] at e
theorem gs_cons {t : Tg} {ts : List Tg} (h1 : PG X e (tGt X.K t)) (h2 : PGs X es (tGts X.K ts)) (hs : (assignEach (e :: es) X.env).map (·.2) = PySem.assign e X.env :: (assignEach es X.env).map (·.2)) : PGs X (e :: es) (tGts X.K (t :: ts)) := by
  refine PGs.to (pgs_cons h1 h2 hs) ?_
  rintro us σ H Q ⟨sl, ρ, ds, sl', rl, rd, e, f⟩
  cases rd with
  | nil => simp [assign.assigns] at e
  | cons r1 r2 =>
    simp only [assign.assigns] at e
    split at e
    · rename_i sl1 e1
      refine ⟨_, _, rfl, sl, ρ, _, sl1, rl, r1, e1, fun σ1 rl1 w1 => ?_⟩
      refine ⟨sl1, ρ, _, sl', rl1, r2, e, fun σ2 rl2 w2 => f σ2 rl2 fun vs hv => ?_⟩
      rw [w2 vs fun i hi => hv i (by simp [Tg.namess, hi]), w1 vs fun i hi => hv i (by simp [Tg.namess, hi])]
    · cases e
theorem assigns_length : ∀ {ts : List Tg} {ds : List D} {sl sl' : SL}, assign.assigns ts ds sl = some sl' → ds.length = ts.length
  | [], [], _, _, _ => rfl
  | [], _ :: _, _, _, e => by simp [assign.assigns] at e
  | _ :: _, [], _, _, e => by simp [assign.assigns] at e
  | t :: ts, d :: ds, sl, sl', e => by
    simp only [assign.assigns] at e
    split at e
    · exact congrArg Nat.succ (assigns_length e)
    · cases e
theorem g_tup {ts : List Tg} {k : Nat} (hc : X.calm = true) (h : PGs X es (tGts X.K ts)) (hn : (assignEach es X.env).length = ts.length) (hst : (assignEach es X.env).findIdx? (·.1) = none) : PG X (.Tuple es k pos) (tGt X.K (.tup ts)) := by
  refine PG.to (pg_tup hc h hn hst) ?_
  rintro v σ H Q ⟨sl, ρ, d, sl', rl, rd, e, f⟩
  cases rd with
  | @tup a xs vs s rs =>
    simp only [assign] at e
    exact ⟨a, vs, rfl, s, by rw [← rs.length]; exact assigns_length e, sl, ρ, xs, sl', rl, rs, e, fun σ' r' w => f σ' r' w⟩
  | _ => simp [assign] at e
end
/-! ### comprehensions -/
section
variable {X : Cx} {c : CallT} {a b e : Expr} {xa xb xc xe : Ev.X} {pos : Pos}
/-- a comprehension's condition -/
def tTs (K : PySem.W.Frag) (c : CallT) (x : Option Ev.X) : TT := fun σ H Q => ∃ sl h ρ h' b, Rsl K H ρ sl σ ∧ RS K H ρ h ∧ evc c x sl h = .ok b h' ∧ FinT K ρ H b h' Q
theorem PTs.to {ifs : List Expr} {t t' : TT} (h : PTs X ifs t) (g : ∀ σ H Q, t' σ H Q → t σ H Q) : PTs X ifs t' := ⟨fun pins s σ H Q I q => h.run pins s σ H Q I (g σ H Q q)⟩
theorem ts_none : PTs X [] (tTs X.K c none) := by
  refine PTs.to pts_nil ?_
  rintro σ H Q ⟨sl, h, ρ, h', k, rl, r, e, f⟩
  simp only [evc] at e
  cases e
  exact f _ _ .refl r
theorem ts_some (ha : PT X a (tT X.K c xa)) : PTs X [a] (tTs X.K c (some xa)) := by
  refine PTs.to (pts_one ha) ?_
  rintro σ H Q ⟨sl, h, ρ, h', k, rl, r, e, f⟩
  simp only [evc] at e
  obtain ⟨d, h1, e1, e⟩ := Res.bind_eq e
  split at e
  · rename_i tr
    cases e
    exact ⟨sl, h, ρ, d, _, _, rl, r, e1, tr, f⟩
  · cases e
theorem wipe_idem {σ : L2.St} : ∀ (vs : List Nat), wipe (wipe σ vs) vs = wipe σ vs := by
  intro vs
  have mem : ∀ us : List Nat, (∀ u ∈ us, u ∈ vs) → wipe (wipe σ vs) us = wipe σ vs := by
    intro us
    induction us with
    | nil => intro _; rfl
    | cons u us ih =>
      intro h
      show (wipe (wipe σ vs) us).set u none = wipe σ vs
      rw [ih fun x hx => h x (by simp [hx])]
      apply List.ext_getElem?
      intro i
      by_cases hi : i = u
      · subst hi
        by_cases hl : i < (wipe σ vs).length
        · rw [List.getElem?_set_self hl]
          cases q : (wipe σ vs)[i]? with
          | none => rw [List.getElem?_eq_none_iff] at q; omega
          | some o =>
            cases o with
            | none => rfl
            | some v => exact absurd (h i (by simp)) (wipe_some q).2
        · rw [List.getElem?_eq_none (by simpa using hl), List.getElem?_eq_none (by omega)]
      · rw [List.getElem?_set_ne (Ne.symm hi)]
  exact mem vs fun _ h => h
theorem compLoop_of {K : PySem.W.Frag} {c : CallT} {tg : Tg} {own : List Nat} {cond : Option Ev.X} {elt : Ev.X} {J : It} {ρ0 : List Addr} {H0 : Hp} {xs : List D} {ch : Chk} {σ : L2.St} {sl : SL} {h0 h2 : Sto} {ys : List D} {D : Addr} {Q : VK}
    (rl0 : Rsl K H0 ρ0 sl σ) (r0 : RS K H0 ρ0 h0) (c0 : chkOk ch h0) (w : Wk K J ρ0 H0 xs ch) (hD : H0 D = none) (hz : xs.length ≤ sizeLine) (hown : ∀ i ∈ tg.names, i ∈ own)
    (e : compLoop (fun x h => match assign tg x (kills own sl) with
      | some sl' => (evc c cond sl' h).bind fun b h => if b then (ev c elt sl' h).bind fun y h => .ok (some y) h else .ok none h
      | none => .bad) ch xs h0 = .ok ys h2) (f : Fin K ρ0 H0 (.ref h2.length) (h2 ++ [.lst ys]) Q) :
    ∃ W : Nat → Nat → Hp → Prop, (∃ m, W 0 m (upd H0 D (.lst []))) ∧ ∀ i m H, W i m H →
      (J.stop i H ∧ Q (.ref D) H) ∨ (J.go i H ∧ ∃ Nx : Hp → Prop, (∀ H', Nx H' → ∃ m', m' < m ∧ W (i + 1) m' H') ∧ ∀ x H', J.yld i H x H' → tGt K tg x (wipe σ own) H' fun σ2 H2 => wipe σ2 own = wipe σ own ∧ tTs K c cond σ2 H2 fun b H3 =>
        if b = true then tE K c elt σ2 H3 fun y H4 => ∃ acc, H4 D = some (.lst acc) ∧ acc.length < sizeLine ∧ Nx (upd H4 D (.lst (acc ++ [y]))) else Nx H3) := by
  have nD0 : D ∉ ρ0 := r0.none_out hD
  -- the invariant: what is left to do, what stands in the new list
  let W : Nat → Nat → Hp → Prop := fun i m H => m = xs.length - i ∧ i ≤ xs.length ∧ ∃ ρ h acc accD rest, Post ρ0 H0 ρ H ∧ RS K H ρ h ∧ chkOk ch h ∧ H D = some (.lst acc) ∧ D ∉ ρ ∧ RDs K H ρ accD acc ∧ acc.length ≤ i ∧
    accD ++ rest = ys ∧ compLoop (fun x h => match assign tg x (kills own sl) with
      | some sl' => (evc c cond sl' h).bind fun b h => if b then (ev c elt sl' h).bind fun y h => .ok (some y) h else .ok none h
      | none => .bad) ch (xs.drop i) h = .ok rest h2
  refine ⟨W, ⟨xs.length, by simp, Nat.zero_le _, ρ0, h0, [], [], ys, .fresh hD r0, r0.fresh hD, c0, upd_same, nD0, .nil, Nat.le_refl _, rfl, by simpa using e⟩, ?_⟩
  rintro i m H ⟨rfl, hi, ρ, h, acc, accD, rest, p, r, ck, hHD, nD, ra, la, ey, el⟩
  by_cases hlt : i < xs.length
  · have hx : xs[i]? = some xs[i] := List.getElem?_eq_getElem hlt
    rw [List.drop_eq_getElem_cons hlt] at el
    simp only [compLoop] at el
    obtain ⟨y, h1, e1, el⟩ := Res.bind_eq el
    split at el
    · rename_i ck1
      obtain ⟨rest', h3, e3, el⟩ := Res.bind_eq el
      cases el
      obtain ⟨go, yld⟩ := w.go i H ρ h xs[i] p r ck hx
      refine .inr ⟨go, W (i + 1) (xs.length - (i + 1)), fun H' w' => ⟨xs.length - (i + 1), by omega, w'⟩, fun v H' yv => ?_⟩
      obtain ⟨p1, r1, rd1⟩ := yld v H' yv
      split at e1
      · rename_i sl' ea
        have pp1 := p.trans p1
        refine ⟨kills own sl, ρ, _, sl', (rl0.ext (pp1.ext r0)).wiped own, rd1, ea, fun σ2 rl2 w2 => ⟨by rw [w2 own hown, wipe_idem], ?_⟩⟩
        obtain ⟨b, h4, e4, e1⟩ := Res.bind_eq e1
        refine ⟨sl', h, ρ, h4, b, rl2, r1, e4, fun H3 ρ3 p3 r3 => ?_⟩
        have hHD' : H' D = some (.lst acc) := p1.keep _ _ hHD nD
        have hHD3 : H3 D = some (.lst acc) := p3.keep _ _ hHD' nD
        have nD3 : D ∉ ρ3 := fun hm => by
          have := p3.new D hm nD
          rw [hHD'] at this; cases this
        cases b with
        | false =>
          rw [if_neg Bool.false_ne_true] at e1
          show W (i + 1) (xs.length - (i + 1)) H3
          cases e1
          exact ⟨rfl, hlt, ρ3, _, acc, accD, _, pp1.trans p3, r3, ck1, hHD3, nD3, ra.ext ((p1.trans p3).ext r), by omega, ey, e3⟩
        | true =>
          rw [if_pos rfl] at e1
          show tE K c elt σ2 H3 _
          obtain ⟨y', h5, e5, e1⟩ := Res.bind_eq e1
          cases e1
          refine ⟨sl', h4, ρ3, y', _, rl2.ext (p3.ext r1), r3, e5, fun v4 H4 ρ4 p4 r4 rd4 => ?_⟩
          have hHD4 : H4 D = some (.lst acc) := p4.keep _ _ hHD3 nD3
          have nD4 : D ∉ ρ4 := fun hm => by
            have := p4.new D hm nD3
            rw [hHD3] at this; cases this
          refine ⟨acc, hHD4, by omega, rfl, hlt, ρ4, _, acc ++ [v4], accD ++ [y'], rest', ?_, ?_, ck1, upd_same, nD4, ?_, by simp; omega, by rw [← ey]; simp, e3⟩
          · have q := pp1.trans (p3.trans p4)
            refine ⟨q.pre, fun b o eb nb => ?_, q.new⟩
            have hb : b ≠ D := fun z => by rw [z, hD] at eb; cases eb
            rw [upd_ne hb]; exact q.keep b o eb nb
          · exact r4.wr hHD4 nD4 (fun _ z => by cases z) (fun _ _ z => by cases z)
          · have x : Ext K ρ4 H4 ρ4 (upd H4 D (.lst (acc ++ [v4]))) := ext_wr hHD4 (fun _ z => by cases z) (fun _ _ z => by cases z)
            exact ((ra.ext ((p1.trans (p3.trans p4)).ext r)).append (.cons rd4 .nil)).ext x
      · cases e1
    · cases el
  · have hi2 : i = xs.length := by omega
    subst hi2
    rw [List.drop_eq_nil_of_le (Nat.le_refl _)] at el
    simp only [compLoop] at el
    cases el
    refine .inl ⟨w.stop H ρ _ p r ck, ?_⟩
    have ey' : accD = ys := by simpa using ey
    subst ey'
    refine f (.ref D) H (ρ ++ [D]) ⟨p.pre.trans (List.prefix_append _ _), p.keep, fun b hb nb => ?_⟩ (r.join hHD nD (.lst ra)) (.top r)
    rcases List.mem_append.mp hb with hb | hb
    · exact p.new b hb nb
    · have eb : b = D := by simpa using hb
      subst eb; exact hD
theorem comp_of {it cnd : Option Ev.X} {xit xelt : Ev.X} {xcond : Option Ev.X} {t : Tg} {own : List Nat} {K : PySem.W.Frag} {σ : L2.St} {H : Hp} {Q : VK} (hown : ∀ i ∈ t.names, i ∈ own) (q : tE K c (.comp xelt t xit xcond own) σ H Q) :
    tLc (tI K c xit) (tGt K t) (tTs K c xcond) (tE K c xelt) own σ H Q := by
  obtain ⟨sl, h, ρ, d, h', rl, r, e, f⟩ := q
  simp only [ev] at e
  obtain ⟨xc, h1, e1, e⟩ := Res.bind_eq e
  split at e
  · cases e
  · rename_i hz
    obtain ⟨ys, h2, e2, e⟩ := Res.bind_eq e
    cases e
    obtain ⟨xs, ch⟩ := xc
    refine ⟨sl, h, ρ, xs, ch, h1, rl, r, e1, fun J H1 ρ1 p1 r1 c1 w => fun D hD => ?_⟩
    exact compLoop_of (rl.ext (p1.ext r)) r1 c1 w hD (by simp only at hz; omega) hown e2 (f.trans p1)
theorem x_comp {elt tg iter : Expr} {ifs : List Expr} {scope : Scope} {own : List (Str × Nat)} {xit xelt : Ev.X} {xcond : Option Ev.X} {t : Tg} (hc : X.calm = true) (hN : X.N.Nodup) (hi : PI X tg iter (tI X.K c xit)) (ok : BlkOk X.N X.env.scope scope own)
    (hown : ∀ i ∈ t.names, i ∈ own.map (·.2))
    (hg : ∀ (s : Shared) (H : Hp) (C : Addr) (cl : List (Str × Addr)) (fp : List Addr), PG (X.blk s H scope (compEnvC scope cl C X.env) fp) tg (tGt X.K t)) (ht : ∀ (s : Shared) (H : Hp) (C : Addr) (cl : List (Str × Addr)) (fp : List Addr), PTs (X.blk s H scope (compEnvC scope cl C X.env) fp) ifs (tTs X.K c xcond))
    (he : ∀ (s : Shared) (H : Hp) (C : Addr) (cl : List (Str × Addr)) (fp : List Addr), PE (X.blk s H scope (compEnvC scope cl C X.env) fp) elt (tE X.K c xelt)) (hs : ∀ x, foldedSetIterable iter X.env x = pure x) :
    PE X (.ListComp elt [⟨tg, iter, ifs, 0⟩] scope pos) (tE X.K c (.comp xelt t xit xcond (own.map (·.2)))) :=
  PE.to (pe_lc hc hN hi ok hg ht he hs) fun σ H Q q => comp_of (it := none) (cnd := none) hown q
/-! ### list(range), tuple(range), {} -/
theorem rg_rds {K : PySem.W.Frag} {H : Hp} {ρ : List Addr} {i : Int} : ∀ n : Nat, RDs K H ρ (intsD i n) ((List.range n).map fun k => V.int (i + (k : Nat))) := by
  intro n
  unfold intsD
  generalize List.range n = l
  induction l with
  | nil => exact .nil
  | cons a l ih => exact .cons (.int _) ih
theorem rgOk_of {ds : List D} {i j : Int} (e : rngOf ds = some (i, j)) : RgOk i j := by
  have hs : (sizeLine : Int) ≤ 2 ^ 24 := by decide
  unfold rngOf at e
  split at e
  · split at e
    · cases e
      exact ⟨by omega, by omega, by omega, by omega, by omega⟩
    · cases e
  · split at e
    · cases e
      exact ⟨by omega, by omega, by omega, by omega, by omega⟩
    · cases e
  · cases e
/-- range(j), range(i, j) as bounds -/
theorem prg_of {e : Expr} {es : List Expr} {xs : List Ev.X} {p pos : Pos} (hg : Gl X "range") (hm : X.mg "range" = none) (hes : PA X (e :: es) (tA X.K c xs)) (hs : starEach (e :: es) X.env = (false, eval e X.env) :: starEach es X.env) (hpl : (backTo pos (starEach es X.env)).any (·.1) = false) :
    PRg X (.Call (.Name "range" p) (e :: es) [] pos) (fun σ H Q => ∃ sl h ρ ds i j h', Rsl X.K H ρ sl σ ∧ RS X.K H ρ h ∧ evs c xs sl h = .ok ds h' ∧ rngOf ds = some (i, j) ∧ ∀ H' ρ', Post ρ H ρ' H' → RS X.K H' ρ' h' → Q i j H') := by
  intro pins s σ H Q I q
  obtain ⟨sl, h, ρ, ds, i, j, h', rl, r, ee, er, f⟩ := q
  have run := hes.run pos pins s σ H (fun vs H1 => ∃ ρ1, Post ρ H ρ1 H1 ∧ RS X.K H1 ρ1 h' ∧ RDs X.K H1 ρ1 ds vs) I ⟨sl, h, ρ, ds, h', rl, r, ee, fun vs H1 ρ1 p1 r1 rs => ⟨ρ1, p1, r1, rs⟩⟩
  refine Call_ (ld_blt I hg hm boot_range (PyProof.Rows.callWith_type1 (thn run fun us s1 ⟨vs, H1, I1, r1, ρ1, p1, r2, rs⟩ => ?_) hs hpl))
  unfold rngOf at er
  split at er
  · split at er
    · cases er
      cases rs with
      | cons q1 q2 =>
        cases q2; cases q1
        cases r1 with
        | cons a b =>
          cases b
          obtain ⟨t, rfl⟩ := a
          exact call_range_1 ⟨_, 0, _, _, _, _, H1, rfl, IsRange.new _ _ _ _ _ _ _, I1.kept fun b u e => Heap.get?_push_of_some _ e, f _ _ p1 r2⟩
    · cases er
  · split at er
    · cases er
      cases rs with
      | cons q1 q2 =>
        cases q2 with
        | cons q2 q3 =>
          cases q3; cases q1; cases q2
          cases r1 with
          | cons a b =>
            cases b with
            | cons b b2 =>
              cases b2
              obtain ⟨t, rfl⟩ := a
              obtain ⟨t', rfl⟩ := b
              exact call_range_2 ⟨_, _, _, _, _, _, H1, rfl, IsRange.new _ _ _ _ _ _ _, I1.kept fun b u e => Heap.get?_push_of_some _ e, f _ _ p1 r2⟩
    · cases er
  · cases er
theorem x_lrange {e : Expr} {xs : List Ev.X} {p pos : Pos} (hc : X.calm = true) (hg : Gl X "list") (hm : X.mg "list" = none) (st : starEach [e] X.env = (false, eval e X.env) :: starEach [] X.env)
    (he : PRg X e (fun σ H Q => ∃ sl h ρ ds i j h', Rsl X.K H ρ sl σ ∧ RS X.K H ρ h ∧ evs c xs sl h = .ok ds h' ∧ rngOf ds = some (i, j) ∧ ∀ H' ρ', Post ρ H ρ' H' → RS X.K H' ρ' h' → Q i j H')) : PE X (.Call (.Name "list" p) [e] [] pos) (tE X.K c (.lrange xs)) := by
  refine PE.to (pe_listRg hc hg hm he st) ?_
  rintro σ H Q ⟨sl, h, ρ, d, h', rl, r, e, f⟩
  simp only [ev] at e
  obtain ⟨ds, h1, e1, e⟩ := Res.bind_eq e
  split at e
  · rename_i i j er
    cases e
    exact ⟨sl, h, ρ, ds, i, j, h1, rl, r, e1, er, fun H1 ρ1 p1 r1 => ⟨rgOk_of er, fun q hq => fin_alloc (f.trans p1) r1 hq (.lst (rg_rds _))⟩⟩
  · cases e
theorem x_trange {e : Expr} {xs : List Ev.X} {p pos : Pos} (hc : X.calm = true) (hg : Gl X "tuple") (hm : X.mg "tuple" = none) (st : starEach [e] X.env = (false, eval e X.env) :: starEach [] X.env)
    (he : PRg X e (fun σ H Q => ∃ sl h ρ ds i j h', Rsl X.K H ρ sl σ ∧ RS X.K H ρ h ∧ evs c xs sl h = .ok ds h' ∧ rngOf ds = some (i, j) ∧ ∀ H' ρ', Post ρ H ρ' H' → RS X.K H' ρ' h' → Q i j H')) : PE X (.Call (.Name "tuple" p) [e] [] pos) (tE X.K c (.trange xs)) := by
  refine PE.to (pe_tupRg hc hg hm he st) ?_
  rintro σ H Q ⟨sl, h, ρ, d, h', rl, r, e, f⟩
  simp only [ev] at e
  obtain ⟨ds, h1, e1, e⟩ := Res.bind_eq e
  split at e
  · rename_i i j er
    cases e
    exact ⟨sl, h, ρ, ds, i, j, _, rl, r, e1, er, fun H1 ρ1 p1 r1 => ⟨rgOk_of er, fun q hq => fin_tup (f.trans p1) r1 hq (rg_rds _)⟩⟩
  · cases e
theorem x_dnewk : PE X (.Dict [] [] pos) (tE X.K c (.dnew .k)) := by
  refine PE.to pe_dnewK ?_
  rintro σ H Q ⟨sl, h, ρ, d, h', rl, r, e, f⟩
  simp only [ev] at e
  cases e
  exact fun p hp => fin_alloc f r hp (.dk .nil)
/-! ### statements -/
def FinS (K : PySem.W.Frag) (ρ : List Addr) (H : Hp) (o : Out) (h' : Sto) (D : Ends) : Prop := ∀ H' ρ', Post ρ H ρ' H' → RS K H' ρ' h' → match o with
  | .nx sl => ∀ σ', Rsl K H' ρ' sl σ' → D.nx σ' H'
  | .brk sl => ∀ σ', Rsl K H' ρ' sl σ' → D.bk σ' H'
  | .cnt sl => ∀ σ', Rsl K H' ρ' sl σ' → D.ct σ' H'
  | .ret d => ∀ v, RD K H' ρ' d v → D.rt v H'
theorem FinS.trans {K : PySem.W.Frag} {ρ ρ1 : List Addr} {H H1 : Hp} {o : Out} {h' : Sto} {D : Ends} (f : FinS K ρ H o h' D) (p : Post ρ H ρ1 H1) : FinS K ρ1 H1 o h' D := fun H' ρ' q r => f H' ρ' (p.trans q) r
def tS (K : PySem.W.Frag) (c : CallT) (s : S) : TS := fun D σ H => ∃ sl h ρ o h', Rsl K H ρ sl σ ∧ RS K H ρ h ∧ exs c s sl h = .ok o h' ∧ FinS K ρ H o h' D
def tSs (K : PySem.W.Frag) (c : CallT) (s : List S) : TS := fun D σ H => ∃ sl h ρ o h', Rsl K H ρ sl σ ∧ RS K H ρ h ∧ exss c s sl h = .ok o h' ∧ FinS K ρ H o h' D
theorem PS.to {st : Stmt} {t t' : TS} (h : PS X st t) (g : ∀ D σ H, t' D σ H → t D σ H) : PS X st t' := ⟨fun pins s σ H D I q => h.run pins s σ H D I (g D σ H q)⟩
theorem PSs.to {st : List Stmt} {t t' : TS} (h : PSs X st t) (g : ∀ D σ H, t' D σ H → t D σ H) : PSs X st t' := ⟨fun pins s σ H D I q => h.run pins s σ H D I (g D σ H q)⟩
theorem ss_nil : PSs X [] (tSs X.K c []) := by
  refine PSs.to pss_nil ?_
  rintro D σ H ⟨sl, h, ρ, o, h', rl, r, e, f⟩
  simp only [exss] at e
  cases e
  exact f H ρ .refl r σ rl
theorem ss_cons {st : Stmt} {rest : List Stmt} {s : S} {ss : List S} (h1 : PS X st (tS X.K c s)) (h2 : PSs X rest (tSs X.K c ss)) : PSs X (st :: rest) (tSs X.K c (s :: ss)) := by
  refine PSs.to (pss_cons h1 h2) ?_
  rintro D σ H ⟨sl, h, ρ, o, h', rl, r, e, f⟩
  simp only [exss] at e
  obtain ⟨o1, h1, e1, e⟩ := Res.bind_eq e
  refine ⟨sl, h, ρ, o1, h1, rl, r, e1, fun H1 ρ1 p1 r1 => ?_⟩
  cases o1 with
  | nx sl1 => exact fun σ1 rl1 => ⟨sl1, h1, ρ1, o, h', rl1, r1, e, f.trans p1⟩
  | brk sl1 => cases e; exact f H1 ρ1 p1 r1
  | cnt sl1 => cases e; exact f H1 ρ1 p1 r1
  | ret d => cases e; exact f H1 ρ1 p1 r1
theorem s_pass : PS X (.Pass pos) (tS X.K c .pass) := by
  refine PS.to ps_pass ?_
  rintro D σ H ⟨sl, h, ρ, o, h', rl, r, e, f⟩
  simp only [exs] at e; cases e
  exact f H ρ .refl r σ rl
theorem s_brk : PS X (.Break pos) (tS X.K c .brk) := by
  refine PS.to ps_break ?_
  rintro D σ H ⟨sl, h, ρ, o, h', rl, r, e, f⟩
  simp only [exs] at e; cases e
  exact f H ρ .refl r σ rl
theorem s_cnt : PS X (.Continue pos) (tS X.K c .cnt) := by
  refine PS.to ps_continue ?_
  rintro D σ H ⟨sl, h, ρ, o, h', rl, r, e, f⟩
  simp only [exs] at e; cases e
  exact f H ρ .refl r σ rl
theorem s_raise {st : Stmt} : PS X st (tS X.K c .raise) := by
  refine PS.to ps_never ?_
  rintro D σ H ⟨sl, h, ρ, o, h', rl, r, e, f⟩
  simp only [exs] at e; cases e
theorem s_doc {x j pos pos'} : PS X (.Expr (.Constant (.str x) j pos) pos') (tS X.K c .pass) := by
  refine PS.to ps_doc ?_
  rintro D σ H ⟨sl, h, ρ, o, h', rl, r, e, f⟩
  simp only [exs] at e; cases e
  exact f H ρ .refl r σ rl
theorem s_expr (ha : PE X e (tE X.K c xe)) (hs : swapsWith e none pos.line X.env = pure false) : PS X (.Expr e pos) (tS X.K c (.expr xe)) := by
  refine PS.to (ps_expr ha hs) ?_
  rintro D σ H ⟨sl, h, ρ, o, h', rl, r, e, f⟩
  simp only [exs] at e
  obtain ⟨d, h1, e1, e⟩ := Res.bind_eq e
  cases e
  exact ⟨sl, h, ρ, d, _, rl, r, e1, fun v H1 ρ1 p1 r1 rd1 => f H1 ρ1 p1 r1 σ (rl.ext (p1.ext r))⟩
theorem s_ret (ha : PE X e (tE X.K c xe)) : PS X (.Return (some e) pos) (tS X.K c (.ret xe)) := by
  refine PS.to (ps_ret ha) ?_
  rintro D σ H ⟨sl, h, ρ, o, h', rl, r, e, f⟩
  simp only [exs] at e
  obtain ⟨d, h1, e1, e⟩ := Res.bind_eq e
  cases e
  exact ⟨sl, h, ρ, d, _, rl, r, e1, fun v H1 ρ1 p1 r1 rd1 => f H1 ρ1 p1 r1 v rd1⟩
theorem s_retN : PS X (.Return none pos) (tS X.K c .retN) := by
  refine PS.to ps_retN ?_
  rintro D σ H ⟨sl, h, ρ, o, h', rl, r, e, f⟩
  simp only [exs] at e; cases e
  exact f H ρ .refl r .non .non
/-- a stored value -/
theorem asg_of {K : PySem.W.Frag} {t : Tg} {D : Ends} {σ : L2.St} {H : Hp} (q : tS K c (.asg t xe) D σ H) : tAsg (tE K c xe) (tGt K t) D σ H := by
  obtain ⟨sl, h, ρ, o, h', rl, r, e, f⟩ := q
  simp only [exs] at e
  obtain ⟨d, h1, e1, e⟩ := Res.bind_eq e
  split at e
  · rename_i sl' ea
    cases e
    refine ⟨sl, h, ρ, d, _, rl, r, e1, fun v H1 ρ1 p1 r1 rd1 => ?_⟩
    exact ⟨sl, ρ1, d, sl', rl.ext (p1.ext r), rd1, ea, fun σ' rl' _ => f H1 ρ1 p1 r1 σ' rl'⟩
  · cases e
theorem s_asg {tg : Expr} {t : Tg} (ha : PE X e (tE X.K c xe)) (hg : PG X tg (tGt X.K t)) (hs : swapsWithSole [tg] e pos.line X.env = pure false) (hw : swappedStores [tg] e X.env = pure none)
    (h1 : (assignEach [tg] X.env).map (·.2) = [PySem.assign tg X.env]) : PS X (.Assign [tg] e pos) (tS X.K c (.asg t xe)) :=
  PS.to (ps_asg ha hg hs hw h1) fun D σ H q => asg_of q
theorem s_set {i : Nat} {x : Str} {pos' : Pos} (hN : X.N.Nodup) (hi : X.N[i]? = some x) (hx : Loc X.env.scope x) (ha : PE X e (tE X.K c xe)) (hs : swapsWith e (some (.Name x pos')) pos.line X.env = pure false) (hf : X.fn x = true ∨ X.env.scope.names.lookup x = some .local) :
    PS X (.Assign [.Name x pos'] e pos) (tS X.K c (.asg (.nm i) xe)) := by
  refine PS.to (ps_set hN hi hx ha hs hf) ?_
  intro D σ H q
  obtain ⟨sl, h, ρ, d, h', rl, r, e, f⟩ := asg_of q
  refine ⟨sl, h, ρ, d, h', rl, r, e, fun v H1 ρ1 p1 r1 rd1 => ?_⟩
  obtain ⟨sl1, ρ2, d2, sl2, q1, q2, q3, q4⟩ := f v H1 ρ1 p1 r1 rd1
  simp only [assign] at q3
  cases q3
  exact q4 _ (q1.set q2) fun vs hv => wipe_set (hv i (by simp [Tg.names]))
theorem s_setLc {i : Nat} {y : Str} {py spos : Pos} {elt tg iter : Expr} {ifs : List Expr} {scope : Scope} {own : List (Str × Nat)} {xit xelt : Ev.X} {xcond : Option Ev.X} {t : Tg} (hc : X.calm = true) (hN : X.N.Nodup) (hy : X.N[i]? = some y) (hyl : X.env.scope.names.lookup y = some .local)
    (hsw : swapsWith (.ListComp elt [⟨tg, iter, ifs, 0⟩] scope pos) (some (.Name y py)) spos.line X.env = pure true) (hi : PI X tg iter (tI X.K c xit)) (ok : BlkOk X.N X.env.scope scope own)
    (hown : ∀ i ∈ t.names, i ∈ own.map (·.2))
    (hg : ∀ (s : Shared) (H : Hp) (C : Addr) (cl : List (Str × Addr)) (fp : List Addr), PG (X.blk s H scope (compEnvC scope cl C X.env) fp) tg (tGt X.K t)) (ht : ∀ (s : Shared) (H : Hp) (C : Addr) (cl : List (Str × Addr)) (fp : List Addr), PTs (X.blk s H scope (compEnvC scope cl C X.env) fp) ifs (tTs X.K c xcond))
    (he : ∀ (s : Shared) (H : Hp) (C : Addr) (cl : List (Str × Addr)) (fp : List Addr), PE (X.blk s H scope (compEnvC scope cl C X.env) fp) elt (tE X.K c xelt)) (hs : ∀ x, foldedSetIterable iter X.env x = pure x) :
    PS X (.Assign [.Name y py] (.ListComp elt [⟨tg, iter, ifs, 0⟩] scope pos) spos) (tS X.K c (.asg (.nm i) (.comp xelt t xit xcond (own.map (·.2))))) := by
  refine PS.to (ps_setLc hc hN hy hyl hsw hi ok hg ht he hs) ?_
  intro D σ H q
  have q := asg_of q
  refine comp_of (it := none) (cnd := none) hown ?_
  obtain ⟨sl, h, ρ, d, h', rl, r, e, f⟩ := q
  refine ⟨sl, h, ρ, d, h', rl, r, e, fun v H1 ρ1 p1 r1 rd1 => ?_⟩
  obtain ⟨sl1, ρ2, d2, sl2, q1, q2, q3, q4⟩ := f v H1 ρ1 p1 r1 rd1
  simp only [assign] at q3
  cases q3
  exact q4 _ (q1.set q2) fun vs hv => wipe_set (hv i (by simp [Tg.names]))
theorem s_par2 {i j : Nat} {x y : Str} {px py pt : Pos} {kt k2 pt2} (hc : X.calm = true) (hN : X.N.Nodup) (hi : X.N[i]? = some x) (hj : X.N[j]? = some y) (hij : i ≠ j)
    (hx : X.env.scope.names.lookup x = some .local) (hy : X.env.scope.names.lookup y = some .local) (ha : PE X a (tE X.K c xa)) (hb : PE X b (tE X.K c xb)) (h1 : starEach [a, b] X.env = (false, eval a X.env) :: starEach [b] X.env) (h2 : starEach [b] X.env = (false, eval b X.env) :: starEach [] X.env)
    (hw : swappedStores [.Tuple [.Name x px, .Name y py] kt pt] (.Tuple [a, b] k2 pt2) X.env = pure (some [x, y]))
    (hs : swapsWithSole [.Tuple [.Name x px, .Name y py] kt pt] (.Tuple [a, b] k2 pt2) pos.line X.env = pure false) :
    PS X (.Assign [.Tuple [.Name x px, .Name y py] kt pt] (.Tuple [a, b] k2 pt2) pos) (tS X.K c (.par2 i j xa xb)) := by
  refine PS.to (ps_par hc hN hi hj hij hx hy (x_cons ha (x_cons hb x_nil h2) h1) hw hs) ?_
  rintro D σ H ⟨sl, h, ρ, o, h', rl, r, e, f⟩
  simp only [exs] at e
  obtain ⟨d1, h1, e1, e⟩ := Res.bind_eq e
  obtain ⟨d2, h2, e2, e⟩ := Res.bind_eq e
  cases e
  refine ⟨sl, h, ρ, [d1, d2], h', rl, r, by simp only [evs, e1, e2, Res.bind_ok], fun vs H1 ρ1 p1 r1 rs => ?_⟩
  cases rs with
  | cons q1 q2 =>
    cases q2 with
    | cons q2 q3 =>
      cases q3
      exact ⟨_, _, rfl, f H1 ρ1 p1 r1 _ (((rl.ext (p1.ext r)).set q1).set q2)⟩
theorem s_par3 {i j l : Nat} {x y z : Str} {a2 : Expr} {px py pz pt : Pos} {kt k2 pt2} (hc : X.calm = true) (hN : X.N.Nodup) (hi : X.N[i]? = some x) (hj : X.N[j]? = some y) (hl : X.N[l]? = some z) (hij : i ≠ j) (hil : i ≠ l) (hjl : j ≠ l)
    (hx : X.env.scope.names.lookup x = some .local) (hy : X.env.scope.names.lookup y = some .local) (hz : X.env.scope.names.lookup z = some .local) (ha : PE X a (tE X.K c xa)) (hb : PE X b (tE X.K c xb)) (hc3 : PE X a2 (tE X.K c xc))
    (h1 : starEach [a, b, a2] X.env = (false, eval a X.env) :: starEach [b, a2] X.env) (h2 : starEach [b, a2] X.env = (false, eval b X.env) :: starEach [a2] X.env) (h3 : starEach [a2] X.env = (false, eval a2 X.env) :: starEach [] X.env)
    (hw : swappedStores [.Tuple [.Name x px, .Name y py, .Name z pz] kt pt] (.Tuple [a, b, a2] k2 pt2) X.env = pure (some [x, y, z]))
    (hs : swapsWithSole [.Tuple [.Name x px, .Name y py, .Name z pz] kt pt] (.Tuple [a, b, a2] k2 pt2) pos.line X.env = pure false) :
    PS X (.Assign [.Tuple [.Name x px, .Name y py, .Name z pz] kt pt] (.Tuple [a, b, a2] k2 pt2) pos) (tS X.K c (.par3 i j l xa xb xc)) := by
  refine PS.to (ps_par3 hc hN hi hj hl hij hil hjl hx hy hz (x_cons ha (x_cons hb (x_cons hc3 x_nil h3) h2) h1) hw hs) ?_
  rintro D σ H ⟨sl, h, ρ, o, h', rl, r, e, f⟩
  simp only [exs] at e
  obtain ⟨d1, h1, e1, e⟩ := Res.bind_eq e
  obtain ⟨d2, h2, e2, e⟩ := Res.bind_eq e
  obtain ⟨d3, h3, e3, e⟩ := Res.bind_eq e
  cases e
  refine ⟨sl, h, ρ, [d1, d2, d3], h', rl, r, by simp only [evs, e1, e2, e3, Res.bind_ok], fun vs H1 ρ1 p1 r1 rs => ?_⟩
  cases rs with
  | cons q1 q2 =>
    cases q2 with
    | cons q2 q3 =>
      cases q3 with
      | cons q3 q4 =>
        cases q4
        exact ⟨_, _, _, rfl, f H1 ρ1 p1 r1 _ ((((rl.ext (p1.ext r)).set q1).set q2).set q3)⟩
/-- x[i] = v by values -/
def rSet (K : PySem.W.Frag) : V → V → V → Hp → (Hp → Prop) → Prop := fun o i v H Q => ∃ h ρ x y z h', RS K H ρ h ∧ RD K H ρ x o ∧ RD K H ρ y i ∧ RD K H ρ z v ∧ setop x y z h = .ok () h' ∧ ∀ H' ρ', Post ρ H ρ' H' → RS K H' ρ' h' → Q H'
theorem sem_set : PSet X (rSet X.K) := by
  intro pins s σ H o i v ov iv u Q I ro ri rv q
  refine set_list pins s σ H o i v ov iv u Q I ro ri rv ?_
  obtain ⟨h, ρ, x, y, z, h', r, rx, ry, rz, e, f⟩ := q
  unfold setop at e
  split at e
  · split at e
    · rename_i xs q
      split at e
      · rename_i j hj
        cases e
        obtain ⟨a, ws, rfl, h1, h2, h3⟩ := own_of r rx q
        cases ry
        obtain ⟨r', p⟩ := r.write h1 h2 (fun _ z => by cases z) (fun _ _ z => by cases z) (.lst (RDs.set rz j h3))
        exact ⟨a, ws, _, j, rfl, rfl, h2, by rw [← h3.length]; exact hj, f _ _ p r'⟩
      · cases e
    · cases e
  · cases e
theorem s_setIx {i : Expr} {xi : Ev.X} {pos' : Pos} (he : PE X e (tE X.K c xe)) (ha : PE X a (tE X.K c xa)) (hi : PE X i (tE X.K c xi)) (hw : swappedStores [.Subscript a i pos'] e X.env = pure none) (hs : swapsWithSole [.Subscript a i pos'] e pos.line X.env = pure false)
    (h1 : (assignEach [.Subscript a i pos'] X.env).map (·.2) = [PySem.assign (.Subscript a i pos') X.env])
    (hA : ∀ v, PySem.assign (.Subscript a i pos') X.env v = (do
      let ov ← holding [v] (eval a X.env)
      let iv ← holding [v, ov] (eval i X.env)
      standAt pos'
      holding [v, ov, iv] (setItem ov iv v)
      release [v, ov, iv] [])) :
    PS X (.Assign [.Subscript a i pos'] e pos) (tS X.K c (.setIx xa xi xe)) := by
  refine PS.to (ps_asg he (pg_sub ha hi sem_set hA) hs hw h1) ?_
  rintro D σ H ⟨sl, h, ρ, o, h', rl, r, e, f⟩
  simp only [exs] at e
  obtain ⟨d1, h1, e1, e⟩ := Res.bind_eq e
  obtain ⟨d2, h2, e2, e⟩ := Res.bind_eq e
  obtain ⟨d3, h3, e3, e⟩ := Res.bind_eq e
  obtain ⟨u, h4, e4, e⟩ := Res.bind_eq e
  cases e
  refine ⟨sl, h, ρ, d1, h1, rl, r, e1, fun v H1 ρ1 p1 r1 rd1 => ?_⟩
  refine ⟨sl, h1, ρ1, d2, h2, rl.ext (p1.ext r), r1, e2, fun v2 H2 ρ2 p2 r2 rd2 => ?_⟩
  have p12 := p1.trans p2
  refine ⟨sl, h2, ρ2, d3, h3, rl.ext (p12.ext r), r2, e3, fun v3 H3 ρ3 p3 r3 rd3 => ?_⟩
  have p123 := p12.trans p3
  refine ⟨h3, ρ3, d2, d3, d1, _, r3, rd2.ext (p3.ext r2), rd3, rd1.ext ((p2.trans p3).ext r1), e4, fun H4 ρ4 p4 r4 => ?_⟩
  exact f H4 ρ4 (p123.trans p4) r4 σ (rl.ext ((p123.trans p4).ext r))
theorem sem_aug {o : BOp} (ho : o = .add ∨ o = .sub) : PIp X o.op (rSem X.K (augop o)) := by
  rcases ho with rfl | rfl
  · intro pins s σ H x y v u Q I r1 r2 q
    refine ip_add pins s σ H x y v u Q I r1 r2 ?_
    obtain ⟨h, ρ, a, b, d, h', r, ra, rb, e, f⟩ := q
    unfold augop at e
    split at e <;> (rename_i q1; try cases q1) <;> first | (cases e; done) | skip
    cases e; cases ra; cases rb
    exact ⟨_, _, rfl, rfl, fin_same f r (.int _)⟩
  · intro pins s σ H x y v u Q I r1 r2 q
    refine ip_sub pins s σ H x y v u Q I r1 r2 ?_
    obtain ⟨h, ρ, a, b, d, h', r, ra, rb, e, f⟩ := q
    unfold augop at e
    split at e <;> (rename_i q1; try cases q1) <;> first | (cases e; done) | skip
    cases e; cases ra; cases rb
    exact ⟨_, _, rfl, rfl, fin_same f r (.int _)⟩
theorem s_aug {i : Nat} {x : Str} {o : BOp} {pos' : Pos} (ho : o = .add ∨ o = .sub) (hN : X.N.Nodup) (hi : X.N[i]? = some x) (hx : Loc X.env.scope x) (he : PE X e (tE X.K c xe)) (hf : X.fn x = true ∨ X.env.scope.names.lookup x = some .local) :
    PS X (.AugAssign (.Name x pos') o.op e pos) (tS X.K c (.aug i o xe)) := by
  refine PS.to (ps_aug hN hi hx he (sem_aug ho) hf) ?_
  rintro D σ H ⟨sl, h, ρ, out, h', rl, r, e, f⟩
  simp only [exs] at e
  split at e
  · rename_i d0 q
    obtain ⟨d1, h1, e1, e⟩ := Res.bind_eq e
    obtain ⟨d2, h2, e2, e⟩ := Res.bind_eq e
    cases e
    obtain ⟨v0, g1, g2⟩ := rl.2 i d0 q
    refine ⟨v0, g1, sl, h, ρ, d1, h1, rl, r, e1, fun v H1 ρ1 p1 r1 rd1 => ?_⟩
    refine ⟨h1, ρ1, d0, d1, d2, _, r1, g2.ext (p1.ext r), rd1, e2, fun z H2 ρ2 p2 r2 rd2 => ?_⟩
    exact f H2 ρ2 (p1.trans p2) r2 _ ((rl.ext ((p1.trans p2).ext r)).set rd2)
  · cases e
theorem s_ite {c0 : Expr} {p q : List Stmt} {xp xq : List S} (hc : PT X c0 (tT X.K c xe)) (ha : PSs X p (tSs X.K c xp)) (hb : PSs X q (tSs X.K c xq)) : PS X (.If c0 p q pos) (tS X.K c (.ite xe xp xq)) := by
  refine PS.to (ps_if hc ha hb) ?_
  rintro D σ H ⟨sl, h, ρ, o, h', rl, r, e, f⟩
  simp only [exs] at e
  obtain ⟨d, h1, e1, e⟩ := Res.bind_eq e
  split at e
  · rename_i tr
    refine ⟨sl, h, ρ, d, h1, true, rl, r, e1, tr, fun H1 ρ1 p1 r1 => ?_⟩
    show tSs X.K c xp D σ H1
    exact ⟨sl, h1, ρ1, o, h', rl.ext (p1.ext r), r1, e, f.trans p1⟩
  · rename_i tr
    refine ⟨sl, h, ρ, d, h1, false, rl, r, e1, tr, fun H1 ρ1 p1 r1 => ?_⟩
    show tSs X.K c xq D σ H1
    exact ⟨sl, h1, ρ1, o, h', rl.ext (p1.ext r), r1, e, f.trans p1⟩
  · cases e
theorem Rsl.shrink {K : PySem.W.Frag} {H : Hp} {ρ ρ' : List Addr} {σ : L2.St} (p : ρ <+: ρ') {sl : SL} (rl : Rsl K H ρ' sl σ) (cl : SL.clo ρ.length sl = true) : Rsl K H ρ sl σ := by
  refine ⟨rl.1, fun i d e => ?_⟩
  obtain ⟨v, h1, h2⟩ := rl.2 i d e
  refine ⟨v, h1, h2.shrink p ?_⟩
  have go : ∀ (sl : SL) (i : Nat), SL.clo ρ.length sl = true → sl[i]? = some (some d) → d.clo ρ.length = true := by
    intro sl
    induction sl with
    | nil => intro i _ e; simp at e
    | cons x r ih =>
      intro i c e
      cases i with
      | zero => simp at e; subst e; rw [SL.clo, Bool.and_eq_true] at c; exact c.1
      | succ i =>
        refine ih i ?_ (by simpa using e)
        cases x with
        | none => exact c
        | some y => rw [SL.clo, Bool.and_eq_true] at c; exact c.2
  exact go sl i cl e
theorem turnEnd_of {K : PySem.W.Frag} {H1 H : Hp} {ρ1 ρ : List Addr} {σ : L2.St} {sl : SL} {h : Sto} {n : Nat} {kill : List Nat} (hn : ρ1.length = n) (p : Post ρ1 H1 ρ H) (rl : Rsl K H ρ sl σ) (r : RS K H ρ h) :
    ∃ ρ', Post ρ1 H1 ρ' H ∧ Rsl K H ρ' (turnEnd n kill sl h).1 σ ∧ RS K H ρ' (turnEnd n kill sl h).2 := by
  unfold turnEnd
  split
  · rename_i co
    rw [Bool.and_eq_true] at co
    subst hn
    exact ⟨ρ1, p.shrink, (rl.kills kill).shrink p.pre co.1, r.shrink p.pre co.2⟩
  · exact ⟨ρ, p, rl.kills kill, r⟩
theorem s_for {iter tg : Expr} {body : List Stmt} {t : Tg} {xit : Ev.X} {xb : List S} {kill : List Nat} (hx : X.xe = fun _ _ => False) (hc : X.calm = true) (hi : PI X tg iter (tI X.K c xit)) (hg : PG X tg (tGt X.K t)) (hb : PSs X body (tSs X.K c xb))
    (hs : ∀ x, foldedSetIterable iter X.env x = pure x) : PS X (.For tg iter body [] pos) (tS X.K c (.for t xit xb kill)) := by
  refine PS.to (ps_for (by rw [hx]; exact PassesOwn.never) hc hi hg hb hs) ?_
  rintro D σ H ⟨sl, h, ρ, o, h', rl, r, e, f⟩
  simp only [exs] at e
  obtain ⟨xc, h1, e1, e⟩ := Res.bind_eq e
  obtain ⟨xs, ch⟩ := xc
  refine ⟨sl, h, ρ, xs, ch, h1, rl, r, e1, fun J H1 ρ1 p1 r1 c1 w => ?_⟩
  have f1 := f.trans p1
  have rl1 := rl.ext (p1.ext r)
  have hn : ρ1.length = h1.length := r1.len
  let W : Nat → Nat → L2.St → Hp → Prop := fun i m σ H => m = xs.length - i ∧ i ≤ xs.length ∧ ∃ sl h ρ, Post ρ1 H1 ρ H ∧ Rsl X.K H ρ sl σ ∧ RS X.K H ρ h ∧ chkOk ch h ∧
    forLoop (fun x sl h => match assign t x sl with
      | some sl' => exss c xb sl' h
      | none => .bad) ch kill h1.length (xs.drop i) sl h = .ok o h'
  refine ⟨W, ⟨xs.length, by simp, Nat.zero_le _, sl, h1, ρ1, .refl, rl1, r1, c1, by rw [List.drop_zero]; exact e⟩, ?_⟩
  rintro i m σ H ⟨rfl, hi, sl, h, ρ, p, rl, r, ck, el⟩
  by_cases hlt : i < xs.length
  · have hx : xs[i]? = some xs[i] := List.getElem?_eq_getElem hlt
    rw [List.drop_eq_getElem_cons hlt] at el
    simp only [forLoop] at el
    obtain ⟨o1, h2, e2, el⟩ := Res.bind_eq el
    obtain ⟨go, yld⟩ := w.go i H ρ h xs[i] p r ck hx
    refine .inr ⟨go, fun σ' H' => W (i + 1) (xs.length - (i + 1)) σ' H', fun σ' H' w' => ⟨xs.length - (i + 1), by omega, w'⟩, fun v H' yv => ?_⟩
    obtain ⟨p2, r2, rd2⟩ := yld v H' yv
    split at e2
    · rename_i sl' ea
      have pp := p.trans p2
      refine ⟨sl, ρ, _, sl', rl.ext (p2.ext r), rd2, ea, fun σ2 rl2 w2 => ?_⟩
      refine ⟨sl', h, ρ, o1, h2, rl2, r2, e2, fun H3 ρ3 p3 r3 => ?_⟩
      have pp3 := pp.trans p3
      cases o1 with
      | nx sl1 =>
        intro σ3 rl3
        simp only at el
        split at el
        · rename_i ck2
          obtain ⟨ρ4, q1, q2, q3⟩ := turnEnd_of (kill := kill) hn pp3 rl3 r3
          exact ⟨rfl, hlt, _, _, ρ4, q1, q2, q3, ck2, el⟩
        · cases el
      | cnt sl1 =>
        intro σ3 rl3
        simp only at el
        split at el
        · rename_i ck2
          obtain ⟨ρ4, q1, q2, q3⟩ := turnEnd_of (kill := kill) hn pp3 rl3 r3
          exact ⟨rfl, hlt, _, _, ρ4, q1, q2, q3, ck2, el⟩
        · cases el
      | brk sl1 =>
        cases el
        exact f1 H3 ρ3 pp3 r3
      | ret d =>
        cases el
        exact f1 H3 ρ3 pp3 r3
    · cases e2
  · have hi2 : i = xs.length := by omega
    subst hi2
    rw [List.drop_eq_nil_of_le (Nat.le_refl _)] at el
    simp only [forLoop] at el
    cases el
    exact .inl ⟨w.stop H ρ _ p r ck, f1 H ρ p r σ rl⟩
theorem whileLim_eq {cond : SL → Sto → Res Bool} {body : SL → Sto → Res Out} {kill : List Nat} {n : Nat} {sl : SL} {h h' : Sto} {o : Out} (e : whileLim cond body kill n sl h = .ok o h') : ∃ k, whileN cond body kill n k sl h = .ok o h' := by
  unfold whileLim at e
  split at e
  · rename_i q
    exact ⟨_, e⟩
  · cases e
theorem s_while {c0 : Expr} {body : List Stmt} {xb : List S} {kill : List Nat} (hx : X.xe = fun _ _ => False) (hc : PT X c0 (tT X.K c xe)) (hb : PSs X body (tSs X.K c xb)) : PS X (.While c0 body [] pos) (tS X.K c (.while xe xb kill)) := by
  refine PS.to (ps_while (by rw [hx]; exact PassesOwn.never) hc hb) ?_
  rintro D σ H ⟨sl, h, ρ, o, h', rl, r, e, f⟩
  simp only [exs] at e
  obtain ⟨k, e⟩ := whileLim_eq e
  have hn : ρ.length = h.length := r.len
  refine ⟨fun m σ H' => ∃ sl h1 ρ', Post ρ H ρ' H' ∧ Rsl X.K H' ρ' sl σ ∧ RS X.K H' ρ' h1 ∧ whileN (fun sl h => (ev c xe sl h).bind fun d h => match truth h d with
      | some b => .ok b h
      | none => .bad) (fun sl h => exss c xb sl h) kill h.length m sl h1 = .ok o h', ⟨k, sl, h, ρ, .refl, rl, r, e⟩, ?_⟩
  rintro m σ H1 ⟨sl, h1, ρ1, p1, rl1, r1, e1⟩
  cases m with
  | zero => simp [whileN] at e1
  | succ m =>
    simp only [whileN] at e1
    obtain ⟨b, h2, e2, e1⟩ := Res.bind_eq e1
    obtain ⟨d, h3, e3, e2⟩ := Res.bind_eq e2
    split at e2
    · rename_i b' tr
      cases e2
      refine ⟨sl, h1, ρ1, d, _, b, rl1, r1, e3, tr, fun H2 ρ2 p2 r2 => ?_⟩
      have pp := p1.trans p2
      cases b with
      | false =>
        show D.nx σ H2
        simp only [Bool.false_eq_true, if_false] at e1
        cases e1
        exact f H2 ρ2 pp r2 σ (rl1.ext (p2.ext r1))
      | true =>
        simp only [if_true] at e1
        obtain ⟨o1, h4, e4, e1⟩ := Res.bind_eq e1
        show ∃ N : L2.St → Hp → Prop, _
        refine ⟨_, fun σ' H' w' => ⟨m, Nat.lt_succ_self _, w'⟩, sl, _, ρ2, o1, h4, rl1.ext (p2.ext r1), r2, e4, fun H3 ρ3 p3 r3 => ?_⟩
        have pp3 := pp.trans p3
        cases o1 with
        | nx sl1 =>
          intro σ3 rl3
          obtain ⟨ρ4, q1, q2, q3⟩ := turnEnd_of (kill := kill) hn pp3 rl3 r3
          exact ⟨_, _, ρ4, q1, q2, q3, e1⟩
        | cnt sl1 =>
          intro σ3 rl3
          obtain ⟨ρ4, q1, q2, q3⟩ := turnEnd_of (kill := kill) hn pp3 rl3 r3
          exact ⟨_, _, ρ4, q1, q2, q3, e1⟩
        | brk sl1 => cases e1; exact f H3 ρ3 pp3 r3
        | ret d => cases e1; exact f H3 ρ3 pp3 r3
    · cases e2
end
end Ev
/-! Ev: a checker that an expression or statement of the evaluator is the program's, and its rule. -/
namespace Ev
open PySem PySem.Spec PyProof.Rows L2
/-! ### names -/
def natsB : List Nat → List Nat → Bool
  | [], [] => true
  | a :: r, b :: s => Nat.beq a b && natsB r s
  | _, _ => false
theorem natsB_iff : ∀ {r s : List Nat}, natsB r s = true ↔ r = s
  | [], [] => by simp [natsB]
  | [], _ :: _ => by simp [natsB]
  | _ :: _, [] => by simp [natsB]
  | a :: r, b :: s => by simp [natsB, natsB_iff (r := r) (s := s)]
def strB (a b : Str) : Bool := natsB a.cps.toList b.cps.toList
theorem strB_iff {a b : Str} : strB a b = true ↔ a = b := by
  unfold strB
  rw [natsB_iff]
  cases a with
  | mk a => cases b with
    | mk b => constructor
              · intro h
                have : a = b := by
                  cases a; cases b
                  simpa using h
                rw [this]
              · intro h; cases h; rfl
theorem strB_beq (a b : Str) : strB a b = (a == b) := by
  rw [Bool.eq_iff_iff, strB_iff, beq_iff_eq]
def kindIn : List (Str × NameKind) → Str → Option NameKind
  | [], _ => none
  | (m, k) :: r, n => if strB n m then some k else kindIn r n
theorem kindIn_eq : ∀ (l : List (Str × NameKind)) (n : Str), kindIn l n = l.lookup n
  | [], _ => rfl
  | (m, k) :: r, n => by
    rw [kindIn, List.lookup, strB_beq, kindIn_eq r n]
    cases (n == m) <;> rfl
def nmAt (N : List Str) (i : Nat) (n : Str) : Bool := match N[i]? with
  | some m => strB m n
  | none => false
theorem nmAt_eq {N : List Str} {i : Nat} {n : Str} (h : nmAt N i n = true) : N[i]? = some n := by
  unfold nmAt at h
  split at h
  · rename_i m q; rw [q, strB_iff.mp h]
  · cases h
def inL (l : List Str) (n : Str) : Bool := l.any fun m => strB m n
theorem inL_mem {l : List Str} {n : Str} (h : inL l n = true) : n ∈ l := by
  unfold inL at h
  rw [List.any_eq_true] at h
  obtain ⟨m, hm, e⟩ := h
  rw [strB_iff] at e; subst e; exact hm
mutual
def dB : D → D → Bool
  | .non, .non => true
  | .bl a, .bl b => a == b
  | .int a, .int b => decide (a = b)
  | .str a, .str b => strB a b
  | .tup a, .tup b => dsB a b
  | _, _ => false
def dsB : List D → List D → Bool
  | [], [] => true
  | a :: r, b :: s => dB a b && dsB r s
  | _, _ => false
end
mutual
theorem dB_eq : ∀ {a b : D}, dB a b = true → a = b
  | .non, b, h => by cases b <;> simp [dB] at h <;> rfl
  | .bl a, b, h => by cases b <;> simp [dB] at h; rw [h]
  | .int a, b, h => by cases b <;> simp [dB] at h; rw [h]
  | .str a, b, h => by cases b <;> simp [dB] at h; rw [strB_iff.mp h]
  | .tup a, .tup b, h => by rw [dsB_eq (show dsB a b = true by simpa [dB] using h)]
  | .tup a, .non, h => by simp [dB] at h
  | .tup a, .bl _, h => by simp [dB] at h
  | .tup a, .int _, h => by simp [dB] at h
  | .tup a, .str _, h => by simp [dB] at h
  | .tup a, .fl _, h => by simp [dB] at h
  | .tup a, .ref _, h => by simp [dB] at h
  | .fl a, b, h => by cases b <;> simp [dB] at h
  | .ref a, b, h => by cases b <;> simp [dB] at h
theorem dsB_eq : ∀ {a b : List D}, dsB a b = true → a = b
  | [], [], _ => rfl
  | [], _ :: _, h => by simp [dsB] at h
  | _ :: _, [], h => by simp [dsB] at h
  | a :: r, b :: s, h => by
    rw [dsB, Bool.and_eq_true] at h
    rw [dB_eq h.1, dsB_eq h.2]
end
/-- what is known of a function's names -/
structure G where
  N : List Str
  sc : Scope
  fn : Option Scope
  T : List (Str × Nat)
  B : List Str
  C : List (Str × D)
def visB (sc : Scope) (n : Str) : Bool := match kindIn sc.names n with
  | some .local => true
  | some .cell => true
  | some .free => true
  | _ => false
def glB (sc : Scope) (n : Str) : Bool := match kindIn sc.names n with
  | some .globalImplicit => true
  | _ => false
def locB (sc : Scope) (n : Str) : Bool := match kindIn sc.names n with
  | some .local => true
  | some .cell => true
  | _ => false
def lclB (sc : Scope) (n : Str) : Bool := match kindIn sc.names n with
  | some .local => true
  | _ => false
def fnB (Γ : G) (n : Str) : Bool := match Γ.fn with
  | none => true
  | some sc => match kindIn sc.names n with
    | some .cell => true
    | _ => false
theorem vis_of {sc : Scope} {n : Str} (h : visB sc n = true) : Vis sc n := by
  unfold visB at h
  rw [kindIn_eq] at h
  unfold Vis
  split at h <;> first | (rename_i q; rw [q]; simp; done) | cases h
theorem loc_of {sc : Scope} {n : Str} (h : locB sc n = true) : L2.Loc sc n := by
  unfold locB at h
  rw [kindIn_eq] at h
  unfold L2.Loc
  split at h <;> first | (rename_i q; rw [q]; simp; done) | cases h
theorem lcl_of {sc : Scope} {n : Str} (h : lclB sc n = true) : sc.names.lookup n = some .local := by
  unfold lclB at h
  rw [kindIn_eq] at h
  split at h <;> first | (rename_i q; rw [q]; done) | cases h
theorem gl_of {sc : Scope} {n : Str} (h : glB sc n = true) : sc.names.lookup n = some .globalImplicit := by
  unfold glB at h
  rw [kindIn_eq] at h
  split at h <;> first | (rename_i q; rw [q]; done) | cases h
structure XOk (X : Cx) (Γ : G) (c : CallT) : Prop where
  N : X.N = Γ.N
  nd : X.N.Nodup
  dbg : ∀ n ∈ Γ.N, (n == ("__debug__" : Str)) = false ∧ (n == ("__classdict__" : Str)) = false
  sc : X.env.scope = Γ.sc
  kind : Γ.sc.kind = .function
  fn : ∀ n, fnB Γ n = true → X.fn n = true
  calm : X.calm = true
  un : X.A.units + 100 < cLine
  gd : X.A.guards = some []
  xe : X.xe = fun _ _ => False
  fns : ∀ i n ar, Γ.T[i]? = some (n, ar) → (n == ("__debug__" : Str)) = false ∧ ∃ f fd ps k, FnG X.prog X.w X.K X.mg X.base k f fd ps (spF X.K c ar i) ∧ Room k X.A ∧ X.mg n = some (.ref f) ∧ PySem.W.keepIn X.K (.ref f) = true ∧ Binds X.K fd ps []
  blt : ∀ n ∈ Γ.B, X.mg n = none
  cst : ∀ n d, (n, d) ∈ Γ.C → (n == ("__debug__" : Str)) = false ∧ ∃ u v, X.mg n = some u ∧ RelV v u ∧ ∀ H ρ, RD X.K H ρ d v
theorem XOk.gl {X : Cx} {Γ : G} {c : CallT} (k : XOk X Γ c) {n : Str} (h : glB Γ.sc n = true) : Gl X n := by
  show X.env.scope.names.lookup n = some .globalImplicit
  rw [k.sc]; exact gl_of h
/-! ### syntax -/
def noStar : Expr → Bool
  | .Starred .. => false
  | _ => true
theorem star_of {e : Expr} {es : List Expr} {env : Env} (h : noStar e = true) : starEach (e :: es) env = (false, eval e env) :: starEach es env := by
  cases e <;> first | rfl | cases h
theorem back_of {pos : Pos} {env : Env} : ∀ {es : List Expr}, es.all noStar = true → (backTo pos (starEach es env)).any (·.1) = false
  | [], _ => rfl
  | e :: es, h => by
    rw [List.all_cons, Bool.and_eq_true] at h
    rw [star_of h.1]
    show (false || (backTo pos (starEach es env)).any (·.1)) = false
    rw [back_of h.2]; rfl
theorem back_all {pos : Pos} {env : Env} : ∀ {es : List Expr}, es.all noStar = true → (backTo pos (starEach es env)).all (fun x => !x.1) = true
  | [], _ => rfl
  | e :: es, h => by
    rw [List.all_cons, Bool.and_eq_true] at h
    rw [star_of h.1]
    show (!false && (backTo pos (starEach es env)).all (fun x => !x.1)) = true
    rw [back_all h.2]; rfl
def noSlice : Expr → Bool
  | .Slice .. => false
  | _ => true
theorem plainIx_of {e : Expr} (h : noSlice e = true) : PlainIx e := by
  intro o i
  cases e <;> first | rfl | cases h
/-- no call: a method's receiver -/
def baseOk : Expr → Bool
  | .Call (.Name _ _) [] [] _ => false
  | _ => true
theorem base_of {e : Expr} {n : Str} {env : Env} {whole : Sem Value} (h : baseOk e = true) : attributeBase e n env whole = whole := by
  unfold attributeBase
  split
  · simp [baseOk] at h
  · rfl
def noSet : Expr → Bool
  | .Set .. => false
  | _ => true
theorem folded_of {e : Expr} {env : Env} {x : Value} (h : noSet e = true) : foldedSetIterable e env x = pure x := by
  cases e <;> first | rfl | cases h
/-- forms whose truth is taken of the value -/
def plainT : Expr → Bool
  | .UnaryOp .. => false
  | .BoolOp .. => false
  | .IfExp .. => false
  | .Compare .. => false
  | _ => true
theorem plainT_of {e : Expr} {env : Env} (h : plainT e = true) : ∀ whole, isTrue e env whole = (do let v ← whole; standAt e.pos; holding [v] (truthy v)) := by
  intro whole
  cases e <;> first | rfl | cases h
def isComp : Expr → Bool
  | .ListComp .. => true
  | .SetComp .. => true
  | .DictComp .. => true
  | _ => false
theorem swaps_no {e : Expr} {t : Option Expr} {l : Nat} {env : Env} (h : isComp e = false) : swapsWith e t l env = pure false := by
  cases e <;> first | rfl | cases h
def isNm : Expr → Bool
  | .Name .. => true
  | _ => false
theorem swaps_no2 {e t : Expr} {l : Nat} {env : Env} (h : isNm t = false) : swapsWith e (some t) l env = pure false := by
  cases e <;> first | rfl | (cases t <;> first | rfl | cases h)
def isTup : Expr → Bool
  | .Tuple .. => true
  | _ => false
def isLst : Expr → Bool
  | .List .. => true
  | _ => false
theorem stores_no {t e : Expr} {env : Env} (h : (isTup t && isTup e) = false) (h2 : isLst t = false) : swappedStores [t] e env = pure none := by
  unfold swappedStores
  cases t <;> first | (cases h2; done) | rfl | (cases e <;> first | rfl | (cases h; done))
theorem each_one {t : Expr} {env : Env} (h : noStar t = true) : (assignEach [t] env).map (·.2) = [PySem.assign t env] := by
  cases t <;> first | rfl | cases h
theorem each_cons {t : Expr} {ts : List Expr} {env : Env} (h : noStar t = true) : (assignEach (t :: ts) env).map (·.2) = PySem.assign t env :: (assignEach ts env).map (·.2) := by
  cases t <;> first | rfl | cases h
theorem each_len {env : Env} : ∀ {ts : List Expr}, ts.all noStar = true → (assignEach ts env).length = ts.length ∧ (assignEach ts env).findIdx? (·.1) = none
  | [], _ => ⟨rfl, rfl⟩
  | t :: ts, h => by
    rw [List.all_cons, Bool.and_eq_true] at h
    obtain ⟨h1, h2⟩ := each_len (env := env) h.2
    have e : assignEach (t :: ts) env = (false, PySem.assign t env) :: assignEach ts env := by
      cases t <;> first | rfl | (cases h.1; done)
    rw [e]
    refine ⟨congrArg Nat.succ h1, ?_⟩
    rw [List.findIdx?_cons]
    simp [h2]
theorem sub_assign {a i : Expr} {pos' : Pos} {env : Env} (h : noSlice i = true) (v : Value) : PySem.assign (.Subscript a i pos') env v = (do
      let ov ← holding [v] (eval a env)
      let iv ← holding [v, ov] (eval i env)
      standAt pos'
      holding [v, ov, iv] (setItem ov iv v)
      release [v, ov, iv] []) := by
  cases i <;> first | rfl | cases h
theorem aug_store {i : Expr} (h : noSlice i = true) (ov iv new : Value) : augStore i ov iv new = (do holding [new, ov, iv] (setItem ov iv new); release [new, ov, iv] []; pure .next) := by
  cases i <;> first | rfl | cases h
/-! ### swapped stores -/
theorem block_fn {env : Env} (h : env.scope.kind = .function) : env.blockKind = .function := by
  unfold Env.blockKind
  rw [h]; rfl
def foldB (vs : List Expr) : Bool := vs.all (foldedForSure 8)
def constB (vs : List Expr) : Bool := vs.all (constantsAlone 8)
theorem stores_fold {ts vs : List Expr} {k1 k2 : Nat} {p1 p2 : Pos} {env : Env} (h : foldB vs = true ∨ (ts.length ≠ 2 ∧ ts.length ≠ 3)) : swappedStores [.Tuple ts k1 p1] (.Tuple vs k2 p2) env = pure none := by
  unfold swappedStores
  simp only
  split
  · rfl
  · rename_i h1
    rcases h with h | h
    · split
      · rfl
      · split
        · rfl
        · unfold foldB at h
          simp only [h, if_true]
    · exfalso
      apply h1
      simp [h.1, h.2]
theorem filterMap_lt {α β : Type} {f : α → Option β} : ∀ {l : List α}, (∃ x ∈ l, f x = none) → (l.filterMap f).length < l.length
  | [], h => by obtain ⟨x, hx, _⟩ := h; simp at hx
  | a :: l, h => by
    have le : (l.filterMap f).length ≤ l.length := List.length_filterMap_le f l
    rw [List.filterMap_cons]
    cases e : f a with
    | none => simp only [List.length_cons]; omega
    | some b =>
      obtain ⟨x, hx, hn⟩ := h
      have : x ∈ l := by
        rcases List.mem_cons.mp hx with z | z
        · rw [z, e] at hn; cases hn
        · exact z
      have := filterMap_lt ⟨x, this, hn⟩
      simp only [List.length_cons]; omega
/-- a target that is no plain local name -/
def notLcl (sc : Scope) : Expr → Bool
  | .Name n _ => !lclB sc n
  | _ => true
theorem stores_cell {ts vs : List Expr} {k1 k2 : Nat} {p1 p2 : Pos} {env : Env} (h : ts.any (notLcl env.scope) = true) : swappedStores [.Tuple ts k1 p1] (.Tuple vs k2 p2) env = pure none := by
  unfold swappedStores
  simp only
  split
  · rfl
  · split
    · rfl
    · split
      · rfl
      · rename_i h3
        exfalso
        apply h3
        rw [List.any_eq_true] at h
        obtain ⟨x, hx, hn⟩ := h
        have lt := filterMap_lt (f := fun
          | Expr.Name id pos => if env.kindOf id == some .local && pos.line == ((ts.head?.map (·.pos.line)).getD 0) then some id else none
          | _ => none) ⟨x, hx, by
            unfold notLcl at hn
            split at hn
            · rename_i n p
              have : (env.kindOf n == some NameKind.local) = false := by
                show (env.scope.names.lookup n == some NameKind.local) = false
                rw [Bool.not_eq_true'] at hn
                unfold lclB at hn
                rw [kindIn_eq] at hn
                cases q : env.scope.names.lookup n with
                | none => rfl
                | some k => rw [q] at hn; cases k <;> first | rfl | cases hn
              simp only [this, Bool.false_and, Bool.false_eq_true, if_false]
            · rfl⟩
        rw [Bool.or_eq_true]
        refine .inl ?_
        rw [bne_iff_ne]
        exact Nat.ne_of_lt lt
theorem any_star {vs : List Expr} (h : vs.all noStar = true) : (vs.any fun | .Starred .. => true | _ => false) = false := by
  rw [List.any_eq_false]
  intro x hx
  have := List.all_eq_true.mp h x hx
  cases x <;> first | (simp; done) | (cases this)
theorem stores_2 {x y : Str} {px py p1 p2 : Pos} {k1 k2 : Nat} {a b : Expr} {env : Env} (hk : env.scope.kind = .function) (hx : env.scope.names.lookup x = some .local) (hy : env.scope.names.lookup y = some .local) (hl : (py.line == px.line) = true) (hxy : (x == y) = false)
    (hs : [a, b].all noStar = true) (hf : foldB [a, b] = false) (hc : constB [a, b] = false) : swappedStores [.Tuple [.Name x px, .Name y py] k1 p1] (.Tuple [a, b] k2 p2) env = pure (some [x, y]) := by
  have e1 : (env.kindOf x == some NameKind.local && px.line == px.line) = true := by
    show (env.scope.names.lookup x == some NameKind.local && px.line == px.line) = true
    rw [hx]; simp
  have e2 : (env.kindOf y == some NameKind.local && py.line == px.line) = true := by
    show (env.scope.names.lookup y == some NameKind.local && py.line == px.line) = true
    rw [hy, hl]; simp
  have dup : ([x, y] : List Str).eraseDups.length = 2 := by
    have : (y == x) = false := by rw [Bool.eq_false_iff] at hxy ⊢; intro z; rw [beq_iff_eq] at z; subst z; simp at hxy
    simp [List.eraseDups, List.eraseDupsBy, List.eraseDupsBy.loop, this]
  unfold foldB at hf
  unfold constB at hc
  have hst := any_star hs
  unfold swappedStores
  simp only [List.length_cons, List.length_nil, block_fn hk]
  rw [if_neg (by decide)]
  refine (if_neg (fun z => Bool.false_ne_true (hst.symm.trans z))).trans ?_
  have head : (([Expr.Name x px, Expr.Name y py].head?.map (·.pos.line)).getD 0) = px.line := rfl
  rw [head]
  simp only [List.filterMap_cons, List.filterMap_nil, e1, e2, if_true]
  rw [if_neg (by rw [dup]; simp), hf, hc]
  rfl
theorem stores_3 {x y z : Str} {px py pz p1 p2 : Pos} {k1 k2 : Nat} {a b d : Expr} {env : Env} (hk : env.scope.kind = .function) (hx : env.scope.names.lookup x = some .local) (hy : env.scope.names.lookup y = some .local) (hz : env.scope.names.lookup z = some .local) (hl : (py.line == px.line) = true) (hl2 : (pz.line == px.line) = true)
    (hxy : (x == y) = false) (hxz : (x == z) = false) (hyz : (y == z) = false)
    (hs : [a, b, d].all noStar = true) (hf : foldB [a, b, d] = false) (hc : constB [a, b, d] = false) : swappedStores [.Tuple [.Name x px, .Name y py, .Name z pz] k1 p1] (.Tuple [a, b, d] k2 p2) env = pure (some [x, y, z]) := by
  have e1 : (env.kindOf x == some NameKind.local && px.line == px.line) = true := by
    show (env.scope.names.lookup x == some NameKind.local && px.line == px.line) = true
    rw [hx]; simp
  have e2 : (env.kindOf y == some NameKind.local && py.line == px.line) = true := by
    show (env.scope.names.lookup y == some NameKind.local && py.line == px.line) = true
    rw [hy, hl]; simp
  have e3 : (env.kindOf z == some NameKind.local && pz.line == px.line) = true := by
    show (env.scope.names.lookup z == some NameKind.local && pz.line == px.line) = true
    rw [hz, hl2]; simp
  have sym : ∀ {u v : Str}, (u == v) = false → (v == u) = false := by
    intro u v h
    rw [Bool.eq_false_iff] at h ⊢; intro z; rw [beq_iff_eq] at z; subst z; simp at h
  have dup : ([x, y, z] : List Str).eraseDups.length = 3 := by
    simp [List.eraseDups, List.eraseDupsBy, List.eraseDupsBy.loop, sym hxy, sym hxz, sym hyz]
  unfold foldB at hf
  unfold constB at hc
  have hst := any_star hs
  unfold swappedStores
  simp only [List.length_cons, List.length_nil, block_fn hk]
  rw [if_neg (by decide)]
  refine (if_neg (fun z => Bool.false_ne_true (hst.symm.trans z))).trans ?_
  have head : (([Expr.Name x px, Expr.Name y py, Expr.Name z pz].head?.map (·.pos.line)).getD 0) = px.line := rfl
  rw [head]
  simp only [List.filterMap_cons, List.filterMap_nil, e1, e2, e3, if_true]
  rw [if_neg (by rw [dup]; simp), hf, hc]
  rfl
/-- a comprehension stored to a name: is it handed over -/
def handB (sc : Scope) (y : Str) (py : Pos) (scope : Scope) (pos : Pos) : Bool := lclB sc y && py.line == pos.line && !(scope.names.any fun (n, k) => strB n y && (k == .local || k == .cell))
theorem swaps_comp {elt : Expr} {gs : List Comprehension} {scope : Scope} {pos py : Pos} {y : Str} {l : Nat} {env : Env} (hk : env.scope.kind = .function) : swapsWith (.ListComp elt gs scope pos) (some (.Name y py)) l env = pure (handB env.scope y py scope pos) := by
  unfold swapsWith
  simp only [block_fn hk]
  have e : (env.kindOf y == some NameKind.local) = lclB env.scope y := by
    show (env.scope.names.lookup y == some NameKind.local) = _
    unfold lclB
    rw [kindIn_eq]
    cases env.scope.names.lookup y with
    | none => rfl
    | some k => cases k <;> rfl
  have f : (scope.names.any fun (n, k) => n == y && (k == .local || k == .cell)) = scope.names.any fun (n, k) => strB n y && (k == .local || k == .cell) := by
    congr 1
    funext p
    obtain ⟨n, k⟩ := p
    show (n == y && (k == NameKind.local || k == NameKind.cell)) = (strB n y && (k == NameKind.local || k == NameKind.cell))
    rw [strB_beq]
  rw [e, f]
  rfl
/-! ### the checker -/
def scalB : D → Const → Bool
  | .non, .none => true
  | .bl a, .bool b => a == b
  | .int a, .int b => decide (a = b)
  | .str a, .str b => strB a b
  | _, _ => false
theorem scal_of {d : D} {q : Const} (h : scalB d q = true) : ∃ v, Scal d q v := by
  cases d <;> cases q <;> simp [scalB] at h
  · exact ⟨_, .non⟩
  · subst h; exact ⟨_, .bl _⟩
  · subst h; exact ⟨_, .int _⟩
  · rw [strB_iff] at h; subst h; exact ⟨_, .str _⟩
/-- a built-in's name, whether it is a class -/
def Bi.nm : Bi → Str
  | .len => "len" | .abs => "abs" | .max2 => "max" | .min2 => "min" | .int => "int" | .all => "all" | .any => "any" | .sum => "sum" | .tuple => "tuple" | .list => "list" | .sorted => "sorted" | .minl => "min" | .maxl => "max" | .repr => "repr" | .str => "str"
  | .isInt => "int" | .isBool => "bool" | .isStr => "str" | .isTup => "tuple" | .isList => "list" | .isDict => "dict"
def sIsinstance : Str := "isinstance"
def sRange : Str := "range"
def sZip : Str := "zip"
def sEnumerate : Str := "enumerate"
def tgLen : List Tg → Nat := List.length
def ownP (N : List Str) (own : List Nat) : List (Str × Nat) := own.filterMap fun i => (N[i]?).map fun n => (n, i)
mutual
def chkG : Nat → G → Tg → Expr → Bool
  | 0, _, _, _ => false
  | k + 1, Γ, t, e => match t with
    | .nm i => match e with
      | .Name n _ => nmAt Γ.N i n && locB Γ.sc n && (fnB Γ n || lclB Γ.sc n)
      | _ => false
    | .tup ts => match e with
      | .Tuple es _ _ => es.all noStar && Nat.beq es.length ts.length && chkGs k Γ ts es
      | _ => false
def chkGs : Nat → G → List Tg → List Expr → Bool
  | 0, _, _, _ => false
  | k + 1, Γ, ts, es => match ts with
    | [] => match es with
      | [] => true
      | _ => false
    | t :: ts => match es with
      | e :: es => noStar e && chkG k Γ t e && chkGs k Γ ts es
      | _ => false
end
mutual
def chkE : Nat → G → X → Expr → Bool
  | 0, _, _, _ => false
  | k + 1, Γ, x, e => match x with
    | .var i => match e with
      | .Name n _ => nmAt Γ.N i n && visB Γ.sc n
      | _ => false
    | .cst d => match e with
      | .Constant q _ _ => scalB d q
      | _ => false
    | .glob d => match e with
      | .Name n _ => glB Γ.sc n && Γ.C.any fun p => strB p.1 n && dB p.2 d
      | _ => false
    | .tup xs => match e with
      | .Tuple es _ _ => Nat.ble xs.length sizeLine && chkEs k Γ xs es
      | _ => false
    | .lst xs => match e with
      | .List es _ => Nat.ble xs.length sizeLine && chkEs k Γ xs es
      | _ => false
    | .bin o a b => match e with
      | .BinOp ea op eb _ => decide (o.op = op) && chkE k Γ a ea && chkE k Γ b eb
      | _ => false
    | .neg a => match e with
      | .UnaryOp .USub ea _ => chkE k Γ a ea
      | _ => false
    | .not a => match e with
      | .UnaryOp .Not ea _ => chkE k Γ a ea
      | _ => false
    | .cmp o a b => match e with
      | .Compare ea [op] [eb] _ => decide (o.op = op) && !(behindInMarks op eb) && chkE k Γ a ea && chkE k Γ b eb
      | _ => false
    | .chain o p a b d => match e with
      | .Compare ea [op, op2] [eb, ed] _ => decide (o.op = op) && decide (p.op = op2) && !(lastMarks [op, op2] [eb, ed]) && chkE k Γ a ea && chkE k Γ b eb && chkE k Γ d ed
      | _ => false
    | .and a b => match e with
      | .BoolOp .And (ea :: eb :: rest) pos => chkE k Γ a ea && chkE k Γ b (.BoolOp .And (eb :: rest) pos)
      | _ => false
    | .or a b => match e with
      | .BoolOp .Or (ea :: eb :: rest) pos => chkE k Γ a ea && chkE k Γ b (.BoolOp .Or (eb :: rest) pos)
      | _ => false
    | .one a => match e with
      | .BoolOp _ [ea] _ => chkE k Γ a ea
      | _ => false
    | .ife d a b => match e with
      | .IfExp ed ea eb _ => chkT k Γ d ed && chkE k Γ a ea && chkE k Γ b eb
      | _ => false
    | .call f xs => match e with
      | .Call (.Name n _) es [] _ => (match Γ.T[f]? with
        | some (m, ar) => strB m n && Nat.beq xs.length ar
        | none => false) && glB Γ.sc n && chkEs k Γ xs es
      | _ => false
    | .bi b xs => match e with
      | .Call (.Name n _) es [] _ => if b.isIs then (match xs, es with
          | [a], [ea, .Name m _] => strB sIsinstance n && strB b.nm m && inL Γ.B n && inL Γ.B m && glB Γ.sc n && glB Γ.sc m && noStar ea && chkE k Γ a ea
          | _, _ => false)
        else strB b.nm n && inL Γ.B n && glB Γ.sc n && !es.isEmpty && chkEs k Γ xs es
      | _ => false
    | .mu m a xs => match e with
      | .Call (.Attribute ea n apos) es [] pos => strB m.str n && baseOk ea && Nat.beq apos.endLine pos.line && Nat.blt es.length 30 && chkE k Γ a ea && chkEs k Γ xs es
      | _ => false
    | .me m a xs => match e with
      | .Call (.Attribute ea n apos) es [] pos => (match m with | .count => true | .index => true | _ => false) && strB m.str n && baseOk ea && Nat.beq apos.endLine pos.line && Nat.blt es.length 30 && chkE k Γ a ea && chkEs k Γ xs es
      | _ => false
    | .idx a i => match e with
      | .Subscript ea ei _ => noSlice ei && chkE k Γ a ea && chkE k Γ i ei
      | _ => false
    | .slice a lo hi => match e with
      | .Subscript ea (.Slice elo ehi none _) _ => chkE k Γ a ea && chkO k Γ lo elo && chkO k Γ hi ehi
      | _ => false
    | .rev a => match e with
      | .Subscript ea (.Slice none none (some (.UnaryOp .USub (.Constant (.int i) _ _) _)) _) _ => decide (i = 1) && chkE k Γ a ea
      | _ => false
    | .comp elt t it cond own => match e with
      | .ListComp ee [g] scope _ => chkC k Γ elt t it cond own ee g scope
      | _ => false
    | .trunc a => chkE k Γ a e
    | .range _ => true
    | .dnew .k => match e with
      | .Dict [] [] _ => true
      | _ => false
    | .lrange xs => match e with
      | .Call (.Name n _) [.Call (.Name m _) es [] _] [] _ => strB (Bi.nm .list) n && strB sRange m && inL Γ.B n && inL Γ.B m && glB Γ.sc n && glB Γ.sc m && Nat.blt es.length 3 && !es.isEmpty && chkEs k Γ xs es
      | _ => false
    | .trange xs => match e with
      | .Call (.Name n _) [.Call (.Name m _) es [] _] [] _ => strB (Bi.nm .tuple) n && strB sRange m && inL Γ.B n && inL Γ.B m && glB Γ.sc n && glB Γ.sc m && Nat.blt es.length 3 && !es.isEmpty && chkEs k Γ xs es
      | _ => false
    | _ => false
def chkC : Nat → G → X → Tg → X → Option X → List Nat → Expr → Comprehension → Scope → Bool
  | 0, _, _, _, _, _, _, _, _, _ => false
  | k + 1, Γ, elt, t, it, cond, own, ee, g, scope => decide (g.is_async = 0) && natsB ((ownP Γ.N own).map (·.2)) own && blkC Γ.N Γ.sc scope (ownP Γ.N own) && t.names.all (fun i => own.any fun j => Nat.beq j i) && noSet g.iter &&
      chkI k Γ (isTup g.target) it g.iter && chkG k { Γ with sc := relS scope Γ.sc, fn := some scope } t g.target && chkQ k { Γ with sc := relS scope Γ.sc, fn := some scope } cond g.ifs && chkE k { Γ with sc := relS scope Γ.sc, fn := some scope } elt ee
/-- a comprehension's conditions -/
def chkQ : Nat → G → Option X → List Expr → Bool
  | 0, _, _, _ => false
  | k + 1, Γ, c, es => match c with
    | none => match es with
      | [] => true
      | _ => false
    | some x => match es with
      | [e] => chkT k Γ x e
      | _ => false
def chkT : Nat → G → X → Expr → Bool
  | 0, _, _, _ => false
  | k + 1, Γ, x, e => if plainT e then chkE k Γ x e else match x with
    | .not a => match e with
      | .UnaryOp .Not ea _ => chkT k Γ a ea
      | _ => false
    | .cmp o a b => match e with
      | .Compare ea [op] [eb] _ => decide (o.op = op) && !(behindInMarks op eb) && chkE k Γ a ea && chkE k Γ b eb
      | _ => false
    | .chain o p a b d => match e with
      | .Compare ea [op, op2] [eb, ed] _ => decide (o.op = op) && decide (p.op = op2) && !(lastMarks [op, op2] [eb, ed]) && chkE k Γ a ea && chkE k Γ b eb && chkE k Γ d ed
      | _ => false
    | _ => chkW k Γ x e
def chkW : Nat → G → X → Expr → Bool
  | 0, _, _, _ => false
  | k + 1, Γ, x, e => match x with
    | .and a b => match e with
      | .BoolOp .And (ea :: eb :: rest) pos => chkT k Γ a ea && chkW k Γ b (.BoolOp .And (eb :: rest) pos)
      | _ => false
    | .or a b => match e with
      | .BoolOp .Or (ea :: eb :: rest) pos => chkT k Γ a ea && chkW k Γ b (.BoolOp .Or (eb :: rest) pos)
      | _ => false
    | .one a => match e with
      | .BoolOp _ [ea] _ => chkT k Γ a ea
      | _ => false
    | _ => false
def chkEs : Nat → G → List X → List Expr → Bool
  | 0, _, _, _ => false
  | k + 1, Γ, xs, es => match xs with
    | [] => match es with
      | [] => true
      | _ => false
    | x :: xs => match es with
      | e :: es => noStar e && chkE k Γ x e && chkEs k Γ xs es
      | _ => false
def chkO : Nat → G → Option X → Option Expr → Bool
  | 0, _, _, _ => false
  | k + 1, Γ, x, e => match x with
    | none => match e with
      | none => true
      | _ => false
    | some x => match e with
      | some e => chkE k Γ x e
      | _ => false
/-- what is walked; tup: the target is a tuple -/
def chkI : Nat → G → Bool → X → Expr → Bool
  | 0, _, _, _, _ => false
  | k + 1, Γ, tup, x, e => match x with
    | .range xs => match e with
      | .Call (.Name n _) es [] _ => strB sRange n && inL Γ.B n && glB Γ.sc n && Nat.blt es.length 4 && !es.isEmpty && chkEs k Γ xs es
      | _ => false
    | .zip a b => match e with
      | .Call (.Name n _) [ea, eb] [] _ => tup && strB sZip n && inL Γ.B n && glB Γ.sc n && noStar ea && noStar eb && chkE k Γ a ea && chkE k Γ b eb
      | _ => false
    | .enum a => match e with
      | .Call (.Name n _) [ea] [] _ => tup && strB sEnumerate n && inL Γ.B n && glB Γ.sc n && noStar ea && chkE k Γ a ea
      | _ => false
    | .items _ => false
    | .vals _ => false
    | x => chkE k Γ x e
end
mutual
def chkS : Nat → G → S → Stmt → Bool
  | 0, _, _, _ => false
  | k + 1, Γ, s, st => match s with
    | .asg t x => match st with
      | .Assign [tg] e _ => noStar tg && (match tg with
        | .Name n npos => match t with
          | .nm i => nmAt Γ.N i n && locB Γ.sc n && (fnB Γ n || lclB Γ.sc n) && (match e with
            | .ListComp ee [g] scope pos => if handB Γ.sc n npos scope pos then (match x with
                | .comp elt tc it cond own => chkC k Γ elt tc it cond own ee g scope
                | _ => false)
              else chkE k Γ x e
            | e => !isComp e && chkE k Γ x e)
          | _ => false
        | .Tuple ts _ _ => (match e with
          | .Tuple vs _ _ => ts.any (notLcl Γ.sc) || (foldB vs || !(Nat.beq ts.length 2 || Nat.beq ts.length 3))
          | _ => true) && chkG k Γ t tg && chkE k Γ x e
        | _ => false)
      | _ => false
    | .par2 i j a b => match st with
      | .Assign [.Tuple [.Name x px, .Name y py] _ _] (.Tuple [ea, eb] _ _) _ => nmAt Γ.N i x && nmAt Γ.N j y && !(Nat.beq i j) && lclB Γ.sc x && lclB Γ.sc y && py.line == px.line && !(strB x y) && noStar ea && noStar eb && !(foldB [ea, eb]) && !(constB [ea, eb]) && chkE k Γ a ea && chkE k Γ b eb
      | _ => false
    | .par3 i j l a b d => match st with
      | .Assign [.Tuple [.Name x px, .Name y py, .Name z pz] _ _] (.Tuple [ea, eb, ed] _ _) _ => nmAt Γ.N i x && nmAt Γ.N j y && nmAt Γ.N l z && !(Nat.beq i j) && !(Nat.beq i l) && !(Nat.beq j l) && lclB Γ.sc x && lclB Γ.sc y && lclB Γ.sc z && py.line == px.line && pz.line == px.line && !(strB x y) && !(strB x z) && !(strB y z) && noStar ea && noStar eb && noStar ed && !(foldB [ea, eb, ed]) && !(constB [ea, eb, ed]) && chkE k Γ a ea && chkE k Γ b eb && chkE k Γ d ed
      | _ => false
    | .setIx a i x => match st with
      | .Assign [.Subscript ea ei _] e _ => noSlice ei && chkE k Γ a ea && chkE k Γ i ei && chkE k Γ x e
      | _ => false
    | .aug i o x => match st with
      | .AugAssign (.Name n _) op e _ => (match o with | .add => true | .sub => true | _ => false) && decide (o.op = op) && nmAt Γ.N i n && locB Γ.sc n && (fnB Γ n || lclB Γ.sc n) && chkE k Γ x e
      | _ => false
    | .augIx _ _ _ _ => false
    | .ite c t u => match st with
      | .If ec p q _ => chkT k Γ c ec && chkSs k Γ t p && chkSs k Γ u q
      | _ => false
    | .for t it body _ => match st with
      | .For tg e b [] _ => noSet e && chkI k Γ (isTup tg) it e && chkG k Γ t tg && chkSs k Γ body b
      | _ => false
    | .while c body _ => match st with
      | .While ec b [] _ => chkT k Γ c ec && chkSs k Γ body b
      | _ => false
    | .ret x => match st with
      | .Return (some e) _ => chkE k Γ x e
      | _ => false
    | .retN => match st with
      | .Return none _ => true
      | _ => false
    | .expr x => match st with
      | .Expr e _ => !isComp e && chkE k Γ x e
      | _ => false
    | .brk => match st with
      | .Break _ => true
      | _ => false
    | .cnt => match st with
      | .Continue _ => true
      | _ => false
    | .pass => match st with
      | .Pass _ => true
      | .Expr (.Constant (.str _) _ _) _ => true
      | _ => false
    | .raise => true
def chkSs : Nat → G → List S → List Stmt → Bool
  | 0, _, _, _ => false
  | k + 1, Γ, ss, sts => match ss with
    | [] => match sts with
      | [] => true
      | _ => false
    | s :: ss => match sts with
      | st :: sts => chkS k Γ s st && chkSs k Γ ss sts
      | _ => false
end
end Ev
/-! Ev: the checker's rule. -/
namespace Ev
open PySem PySem.Spec PyProof.Rows L2
theorem relS_eq {sc : Scope} {cl : List (Str × Addr)} {C : Addr} {env : Env} : (compEnvC sc cl C env).scope = relS sc env.scope := rfl
theorem XOk.blk {X : Cx} {Γ : G} {c : CallT} (K : XOk X Γ c) {scope : Scope} (hk : scope.kind = .function) (s : Shared) (H : Hp) (C : Addr) (cl : List (Str × Addr)) (fp : List Addr) :
    XOk (X.blk s H scope (compEnvC scope cl C X.env) fp) { Γ with sc := relS scope Γ.sc, fn := some scope } c where
  N := K.N
  nd := K.nd
  dbg := K.dbg
  sc := by
    show (compEnvC scope cl C X.env).scope = relS scope Γ.sc
    rw [relS_eq, K.sc]
  kind := hk
  fn := fun n h => by
    show (scope.names.lookup n == some NameKind.cell) = true
    unfold fnB at h
    simp only at h
    rw [kindIn_eq] at h
    split at h
    · rename_i q; rw [q]; rfl
    · cases h
  calm := K.calm
  un := K.un
  gd := K.gd
  xe := rfl
  fns := K.fns
  blt := K.blt
  cst := K.cst
section
variable {X : Cx} {Γ : G} {c : CallT}
theorem XOk.ix {i : Nat} {n : Str} (K : XOk X Γ c) (h : nmAt Γ.N i n = true) : X.N[i]? = some n := by rw [K.N]; exact nmAt_eq h
theorem XOk.dbg1 {i : Nat} {n : Str} (K : XOk X Γ c) (h : nmAt Γ.N i n = true) : (n == ("__debug__" : Str)) = false ∧ (n == ("__classdict__" : Str)) = false := K.dbg n (List.mem_of_getElem? (nmAt_eq h))
theorem XOk.lcl {n : Str} (K : XOk X Γ c) (h : lclB Γ.sc n = true) : X.env.scope.names.lookup n = some .local := by rw [K.sc]; exact lcl_of h
theorem XOk.loc {n : Str} (K : XOk X Γ c) (h : locB Γ.sc n = true) : L2.Loc X.env.scope n := by rw [K.sc]; exact loc_of h
theorem XOk.fn1 {n : Str} (K : XOk X Γ c) (h : (fnB Γ n || lclB Γ.sc n) = true) : X.fn n = true ∨ X.env.scope.names.lookup n = some .local := by
  rw [Bool.or_eq_true] at h
  exact h.elim (fun h => .inl (K.fn n h)) fun h => .inr (K.lcl h)
theorem chkG_ok : ∀ (k : Nat) (Γ : G) (X : Cx), XOk X Γ c → (∀ t e, chkG k Γ t e = true → PG X e (tGt X.K t)) ∧ ∀ ts es, chkGs k Γ ts es = true → PGs X es (tGts X.K ts)
  | 0, Γ, X, K => ⟨fun t e h => by simp [chkG] at h, fun ts es h => by simp [chkGs] at h⟩
  | k + 1, Γ, X, K => by
    obtain ⟨ih1, ih2⟩ := chkG_ok k Γ X K
    refine ⟨fun t e h => ?_, fun ts es h => ?_⟩
    · cases t with
      | nm i =>
        simp only [chkG] at h
        split at h
        · rename_i n pos
          rw [Bool.and_eq_true, Bool.and_eq_true] at h
          exact g_nm K.nd (K.ix h.1.1) (K.loc h.1.2) (K.fn1 h.2)
        · cases h
      | tup ts =>
        simp only [chkG] at h
        split at h
        · rename_i es kk pos
          rw [Bool.and_eq_true, Bool.and_eq_true] at h
          obtain ⟨l1, l2⟩ := each_len (env := X.env) h.1.1
          exact g_tup K.calm (ih2 ts es h.2) (by rw [l1]; exact Nat.eq_of_beq_eq_true h.1.2) l2
        · cases h
    · cases ts with
      | nil =>
        simp only [chkGs] at h
        split at h
        · exact gs_nil
        · cases h
      | cons t ts =>
        simp only [chkGs] at h
        split at h
        · rename_i e es
          rw [Bool.and_eq_true, Bool.and_eq_true] at h
          exact gs_cons (ih1 t e h.1.2) (ih2 ts es h.2) (each_cons h.1.1)
        · cases h
theorem boot_bi (b : Bi) : bootBuiltins b.nm = some (match b with
    | .int | .tuple | .list | .str | .isInt | .isBool | .isStr | .isTup | .isList | .isDict => .type (match b with | .int => "int" | .tuple => "tuple" | .list => "list" | .str => "str" | b => b.cls)
    | .len => .builtin "len" | .abs => .builtin "abs" | .max2 => .builtin "max" | .min2 => .builtin "min" | .all => .builtin "all" | .any => .builtin "any" | .sum => .builtin "sum" | .sorted => .builtin "sorted" | .minl => .builtin "min" | .maxl => .builtin "max" | .repr => .builtin "repr") := by
  cases b <;> decide +kernel
theorem nm_ne (b : Bi) : b.nm ≠ "__name__" ∧ (b.nm == ("__debug__" : Str)) = false := by
  cases b <;> decide +kernel
/-- a built-in's call -/
theorem bi_ok (K : XOk X Γ c) {b : Bi} {p pos : Pos} {e : Expr} {es : List Expr} {xs : List Ev.X} (hb : b.isIs = false) (hi : inL Γ.B b.nm = true) (hg : glB Γ.sc b.nm = true) (ha : PA X (e :: es) (tA X.K c xs)) (hs : (e :: es).all noStar = true) :
    PE X (.Call (.Name b.nm p) (e :: es) [] pos) (tE X.K c (.bi b xs)) := by
  have hm := K.blt _ (inL_mem hi)
  have hgl := K.gl hg
  obtain ⟨n1, n2⟩ := nm_ne b
  rw [List.all_cons, Bool.and_eq_true] at hs
  have he := star_of (es := es) (env := X.env) hs.1
  have hp := back_of (pos := pos) (env := X.env) hs.2
  have bt := boot_bi b
  cases b with
  | len => exact x_biB sem_len hgl hm bt ha n1 n2 he hp
  | abs => exact x_biB sem_abs hgl hm bt ha n1 n2 he hp
  | max2 => exact x_biB (sem_max2 K.calm) hgl hm bt ha n1 n2 he hp
  | min2 => exact x_biB (sem_min2 K.calm) hgl hm bt ha n1 n2 he hp
  | int => exact x_biT sem_int hgl hm bt ha n1 n2 he hp
  | all => exact x_biB (sem_all K.calm) hgl hm bt ha n1 n2 he hp
  | any => exact x_biB (sem_any K.calm) hgl hm bt ha n1 n2 he hp
  | sum => exact x_biB (sem_sum K.calm) hgl hm bt ha n1 n2 he hp
  | tuple => exact x_biT sem_tuple hgl hm bt ha n1 n2 he hp
  | list => exact x_biT sem_list hgl hm bt ha n1 n2 he hp
  | sorted => exact x_biB (sem_sorted K.un) hgl hm bt ha n1 n2 he hp
  | minl => exact x_biB (sem_minl K.un K.calm) hgl hm bt ha n1 n2 he hp
  | maxl => exact x_biB (sem_maxl K.un K.calm) hgl hm bt ha n1 n2 he hp
  | repr => exact x_biB (sem_repr K.un K.gd) hgl hm bt ha n1 n2 he hp
  | str => exact x_biT sem_str hgl hm bt ha n1 n2 he hp
  | _ => cases hb
theorem chkEs_star : ∀ (k : Nat) (Γ : G) (xs : List Ev.X) (es : List Expr), chkEs k Γ xs es = true → es.all noStar = true ∧ es.length = xs.length
  | 0, _, _, _, h => by simp [chkEs] at h
  | k + 1, Γ, [], es, h => by
    simp only [chkEs] at h
    split at h
    · exact ⟨rfl, rfl⟩
    · cases h
  | k + 1, Γ, x :: xs, es, h => by
    simp only [chkEs] at h
    split at h
    · rename_i e es
      rw [Bool.and_eq_true, Bool.and_eq_true] at h
      obtain ⟨h1, h2⟩ := chkEs_star k Γ xs es h.2
      refine ⟨by rw [List.all_cons, h.1.1, h1]; rfl, congrArg Nat.succ h2⟩
    · cases h
theorem meSyn_of {a : Expr} {n : Str} {es : List Expr} {apos pos : Pos} (h1 : baseOk a = true) (h2 : Nat.beq apos.endLine pos.line = true) (h3 : Nat.blt es.length 30 = true) (h4 : es.all noStar = true) : MeSyn X a n es apos pos where
  base := base_of h1
  few := by
    rw [back_all h4]
    have h3 : es.length < 30 := Nat.le_of_ble_eq_true h3
    have : decide (es.length + ([] : List Keyword).length + (if ([] : List Keyword).isEmpty then 0 else 1) < 30) = true := by
      rw [decide_eq_true_eq]
      simpa using h3
    rw [this]
    rfl
  line := by rw [Nat.eq_of_beq_eq_true h2]; simp
  star := fun e r he => by
    subst he
    rw [List.all_cons, Bool.and_eq_true] at h4
    exact ⟨star_of h4.1, back_of h4.2⟩
/-- what a comprehension's rule asks -/
structure CompOk (X : Cx) (c : CallT) (elt : Ev.X) (t : Tg) (it : Ev.X) (cond : Option Ev.X) (own : List Nat) (ee : Expr) (g : Comprehension) (scope : Scope) : Prop where
  sync : g.is_async = 0
  ex : ∃ op : List (Str × Nat), op.map (·.2) = own ∧ BlkOk X.N X.env.scope scope op
  names : ∀ i ∈ t.names, i ∈ own
  it : PI X g.target g.iter (tI X.K c it)
  tg : ∀ (s : Shared) (H : Hp) (C : Addr) (cl : List (Str × Addr)) (fp : List Addr), PG (X.blk s H scope (compEnvC scope cl C X.env) fp) g.target (tGt X.K t)
  ifs : ∀ (s : Shared) (H : Hp) (C : Addr) (cl : List (Str × Addr)) (fp : List Addr), PTs (X.blk s H scope (compEnvC scope cl C X.env) fp) g.ifs (tTs X.K c cond)
  elt : ∀ (s : Shared) (H : Hp) (C : Addr) (cl : List (Str × Addr)) (fp : List Addr), PE (X.blk s H scope (compEnvC scope cl C X.env) fp) ee (tE X.K c elt)
  fold : ∀ x, foldedSetIterable g.iter X.env x = pure x
theorem rng_ok (K : XOk X Γ c) {es : List Expr} {xs : List Ev.X} {p pos : Pos} (hg : glB Γ.sc sRange = true) (hi : inL Γ.B sRange = true) (h8 : (!es.isEmpty) = true) (st : es.all noStar = true) (pa : PA X es (tA X.K c xs)) :
    PRg X (.Call (.Name sRange p) es [] pos) (fun σ H Q => ∃ sl h ρ ds i j h', Rsl X.K H ρ sl σ ∧ RS X.K H ρ h ∧ evs c xs sl h = .ok ds h' ∧ rngOf ds = some (i, j) ∧ ∀ H' ρ', Post ρ H ρ' H' → RS X.K H' ρ' h' → Q i j H') := by
  cases es with
  | nil => cases h8
  | cons e es =>
    rw [List.all_cons, Bool.and_eq_true] at st
    exact prg_of (K.gl hg) (K.blt _ (inL_mem hi)) pa (star_of st.1) (back_of st.2)
theorem chk_ok : ∀ (k : Nat) (Γ : G) (X : Cx), XOk X Γ c → (∀ x e, chkE k Γ x e = true → PE X e (tE X.K c x)) ∧
    (∀ elt t it cond own ee g scope, chkC k Γ elt t it cond own ee g scope = true → CompOk X c elt t it cond own ee g scope) ∧
    (∀ x es, chkQ k Γ x es = true → PTs X es (tTs X.K c x)) ∧
    (∀ x e, chkT k Γ x e = true → PT X e (tT X.K c x)) ∧ (∀ x e, chkW k Γ x e = true → PW X e (tT X.K c x)) ∧ (∀ xs es, chkEs k Γ xs es = true → PA X es (tA X.K c xs)) ∧
    (∀ x e, chkO k Γ x e = true → PO X e (tPO X.K c x)) ∧ (∀ tup x e tg, chkI k Γ tup x e = true → (tup = true → isTup tg = true) → PI X tg e (tI X.K c x))
  | 0, Γ, X, K => ⟨fun _ _ h => by simp [chkE] at h, fun _ _ _ _ _ _ _ _ h => by simp [chkC] at h, fun _ _ h => by simp [chkQ] at h, fun _ _ h => by simp [chkT] at h, fun _ _ h => by simp [chkW] at h, fun _ _ h => by simp [chkEs] at h, fun _ _ h => by simp [chkO] at h, fun _ _ _ _ h => by simp [chkI] at h⟩
  | k + 1, Γ, X, K => by
    obtain ⟨iE, iC, iQ, iT, iW, iEs, iO, iI⟩ := chk_ok k Γ X K
    refine ⟨fun x e h => ?_, fun elt t it cond own ee g scope h => ?_, fun x es h => ?_, fun x e h => ?_, fun x e h => ?_, fun xs es h => ?_, fun x e h => ?_, fun tup x e tg h ht => ?_⟩
    · cases x with
      | var i =>
        simp only [chkE] at h
        split at h
        · rw [Bool.and_eq_true] at h
          exact x_var (K.ix h.1) (by rw [K.sc]; exact vis_of h.2) (K.dbg1 h.1).1 (K.dbg1 h.1).2
        · cases h
      | cst d =>
        simp only [chkE] at h
        split at h
        · obtain ⟨v, s⟩ := scal_of h
          exact x_cst s
        · cases h
      | glob d =>
        simp only [chkE] at h
        split at h
        · rw [Bool.and_eq_true, List.any_eq_true] at h
          obtain ⟨h1, ⟨n', d'⟩, hm, h2⟩ := h
          rw [Bool.and_eq_true] at h2
          have e1 := strB_iff.mp h2.1
          have e2 := dB_eq h2.2
          simp only at e1 e2
          subst e1 e2
          obtain ⟨q1, u, v, q2, q3, q4⟩ := K.cst _ _ hm
          exact x_glob (K.gl h1) q2 q3 q4 q1
        · cases h
      | tup xs =>
        simp only [chkE] at h
        split at h
        · rw [Bool.and_eq_true] at h
          exact x_tup (iEs _ _ h.2) (Nat.le_of_ble_eq_true h.1)
        · cases h
      | lst xs =>
        simp only [chkE] at h
        split at h
        · rw [Bool.and_eq_true] at h
          exact x_lst (iEs _ _ h.2) (Nat.le_of_ble_eq_true h.1)
        · cases h
      | bin o a b =>
        simp only [chkE] at h
        split at h
        · simp only [Bool.and_eq_true, decide_eq_true_eq] at h
          obtain ⟨⟨rfl, h2⟩, h3⟩ := h
          exact x_bin (iE _ _ h2) (iE _ _ h3)
        · cases h
      | neg a =>
        simp only [chkE] at h
        split at h
        · exact x_neg (iE _ _ h)
        · cases h
      | not a =>
        simp only [chkE] at h
        split at h
        · exact x_not (iE _ _ h)
        · cases h
      | cmp o a b =>
        simp only [chkE] at h
        split at h
        · simp only [Bool.and_eq_true, decide_eq_true_eq, Bool.not_eq_true'] at h
          obtain ⟨⟨⟨rfl, h2⟩, h3⟩, h4⟩ := h
          exact x_cmp K.un (iE _ _ h3) (iE _ _ h4) h2
        · cases h
      | chain o p a b d =>
        simp only [chkE] at h
        split at h
        · simp only [Bool.and_eq_true, decide_eq_true_eq, Bool.not_eq_true'] at h
          obtain ⟨⟨⟨⟨⟨rfl, rfl⟩, h2⟩, h3⟩, h4⟩, h5⟩ := h
          exact x_chain K.un (iE _ _ h3) (iE _ _ h4) (iE _ _ h5) h2
        · cases h
      | and a b =>
        simp only [chkE] at h
        split at h
        · rw [Bool.and_eq_true] at h
          exact x_and (iE _ _ h.1) (iE _ _ h.2)
        · cases h
      | or a b =>
        simp only [chkE] at h
        split at h
        · rw [Bool.and_eq_true] at h
          exact x_or (iE _ _ h.1) (iE _ _ h.2)
        · cases h
      | one a =>
        simp only [chkE] at h
        split at h
        · exact x_one (iE _ _ h)
        · cases h
      | ife d a b =>
        simp only [chkE] at h
        split at h
        · rw [Bool.and_eq_true, Bool.and_eq_true] at h
          exact x_ife (iT _ _ h.1.1) (iE _ _ h.1.2) (iE _ _ h.2)
        · cases h
      | call f xs =>
        simp only [chkE] at h
        split at h
        · rename_i n p es pos
          rw [Bool.and_eq_true, Bool.and_eq_true] at h
          obtain ⟨⟨h1, h2⟩, h3⟩ := h
          split at h1
          · rename_i m ar q
            rw [Bool.and_eq_true] at h1
            obtain ⟨h1, h4⟩ := h1
            rw [strB_iff] at h1
            subst h1
            obtain ⟨dbg, f', fd, ps, k', F, hr, hm, hk, hb⟩ := K.fns _ _ _ q
            obtain ⟨st, sl⟩ := chkEs_star _ _ _ _ h3
            have hl := Nat.eq_of_beq_eq_true h4
            cases es with
            | nil =>
              cases xs with
              | nil => simp at hl; subst hl; exact x_call0 F hr K.gd (K.gl h2) hm hk hb dbg
              | cons _ _ => simp at sl
            | cons e es =>
              rw [List.all_cons, Bool.and_eq_true] at st
              exact x_call F hr K.gd (K.gl h2) hm hk hb (iEs _ _ h3) hl dbg (star_of st.1) (back_of st.2)
          · cases h1
        · cases h
      | bi b xs =>
        simp only [chkE] at h
        split at h
        · rename_i n p es pos
          split at h
          · rename_i hb
            split at h
            · rename_i a ea m p2
              simp only [Bool.and_eq_true] at h
              obtain ⟨⟨⟨⟨⟨⟨⟨h1, h2⟩, h3⟩, h4⟩, h5⟩, h6⟩, h7⟩, h8⟩ := h
              rw [strB_iff] at h1 h2
              subst h1 h2
              obtain ⟨n1, n2⟩ := nm_ne b
              exact x_is hb (K.gl h5) (K.blt _ (inL_mem h3)) (K.gl h6) (K.blt _ (inL_mem h4)) (by have := boot_bi b; cases b <;> first | exact this | cases hb) n1 n2 (iE _ _ h8) (star_of h7)
            · cases h
          · rename_i hb
            simp only [Bool.and_eq_true] at h
            obtain ⟨⟨⟨⟨h1, h2⟩, h3⟩, h4⟩, h5⟩ := h
            rw [strB_iff] at h1
            subst h1
            obtain ⟨st, sl⟩ := chkEs_star _ _ _ _ h5
            cases es with
            | nil => simp at h4
            | cons e es => exact bi_ok K (by simpa using hb) h2 h3 (iEs _ _ h5) st
        · cases h
      | me m a xs =>
        simp only [chkE] at h
        split at h
        · rename_i ea n apos es pos
          simp only [Bool.and_eq_true] at h
          obtain ⟨⟨⟨⟨⟨⟨h0, h1⟩, h2⟩, h3⟩, h4⟩, h5⟩, h6⟩ := h
          rw [strB_iff] at h1
          subst h1
          obtain ⟨st, sl⟩ := chkEs_star _ _ _ _ h6
          have hm : m = .count ∨ m = .index := by cases m <;> first | exact .inl rfl | exact .inr rfl | cases h0
          exact x_me K.un hm (iE _ _ h5) (iEs _ _ h6) (meSyn_of h2 h3 h4 st) (fun z => by subst z; simpa using sl.symm)
        · cases h
      | mu m a xs =>
        simp only [chkE] at h
        split at h
        · rename_i ea n apos es pos
          simp only [Bool.and_eq_true] at h
          obtain ⟨⟨⟨⟨⟨h1, h2⟩, h3⟩, h4⟩, h5⟩, h6⟩ := h
          rw [strB_iff] at h1
          subst h1
          obtain ⟨st, sl⟩ := chkEs_star _ _ _ _ h6
          exact x_mu (iE _ _ h5) (iEs _ _ h6) (meSyn_of h2 h3 h4 st) (fun z => by subst z; simpa using sl.symm)
        · cases h
      | idx a i =>
        simp only [chkE] at h
        split at h
        · rw [Bool.and_eq_true, Bool.and_eq_true] at h
          exact x_idx (iE _ _ h.1.2) (iE _ _ h.2) (plainIx_of h.1.1)
        · cases h
      | slice a lo hi =>
        simp only [chkE] at h
        split at h
        · rw [Bool.and_eq_true, Bool.and_eq_true] at h
          exact x_slice (iE _ _ h.1.1) (iO _ _ h.1.2) (iO _ _ h.2)
        · cases h
      | rev a =>
        simp only [chkE] at h
        split at h
        · rw [Bool.and_eq_true, decide_eq_true_eq] at h
          obtain ⟨rfl, h⟩ := h
          exact x_rev (iE _ _ h)
        · cases h
      | comp elt t it cond own =>
        simp only [chkE] at h
        split at h
        · rename_i ee g scope pos
          have q := iC _ _ _ _ _ _ _ _ h
          obtain ⟨op, e1, ok⟩ := q.ex
          obtain ⟨tg, iter, ifs, as⟩ := g
          have e2 : as = 0 := q.sync
          subst e2
          have := x_comp (pos := pos) K.calm K.nd q.it ok (by rw [e1]; exact q.names) q.tg q.ifs q.elt q.fold
          rw [e1] at this
          exact this
        · cases h
      | trunc a =>
        simp only [chkE] at h
        exact x_trunc (iE _ _ h)
      | dnew f =>
        cases f with
        | k =>
          simp only [chkE] at h
          split at h
          · exact x_dnewk
          · cases h
        | t => simp [chkE] at h
      | lrange xs =>
        simp only [chkE] at h
        split at h
        · rename_i n p m p2 es pos2 pos
          simp only [Bool.and_eq_true] at h
          obtain ⟨⟨⟨⟨⟨⟨⟨⟨h1, h2⟩, h3⟩, h4⟩, h5⟩, h6⟩, h7⟩, h8⟩, h9⟩ := h
          rw [strB_iff] at h1 h2
          subst h1 h2
          exact x_lrange K.calm (K.gl h5) (K.blt _ (inL_mem h3)) (star_of rfl) (rng_ok K h6 h4 h8 (chkEs_star _ _ _ _ h9).1 (iEs _ _ h9))
        · cases h
      | trange xs =>
        simp only [chkE] at h
        split at h
        · rename_i n p m p2 es pos2 pos
          simp only [Bool.and_eq_true] at h
          obtain ⟨⟨⟨⟨⟨⟨⟨⟨h1, h2⟩, h3⟩, h4⟩, h5⟩, h6⟩, h7⟩, h8⟩, h9⟩ := h
          rw [strB_iff] at h1 h2
          subst h1 h2
          exact x_trange K.calm (K.gl h5) (K.blt _ (inL_mem h3)) (star_of rfl) (rng_ok K h6 h4 h8 (chkEs_star _ _ _ _ h9).1 (iEs _ _ h9))
        · cases h
      | range as => exact ⟨fun pins s σ H Q I q => by obtain ⟨sl, h, ρ, d, h', rl, r, e, f⟩ := q; simp only [ev] at e; cases e⟩
      | _ => simp [chkE] at h
    · simp only [chkC, Bool.and_eq_true, decide_eq_true_eq] at h
      obtain ⟨⟨⟨⟨⟨⟨⟨⟨h1, h2⟩, h3⟩, h4⟩, h5⟩, h6⟩, h7⟩, h8⟩, h9⟩ := h
      have blk : BlkOk X.N X.env.scope scope (ownP Γ.N own) := by rw [K.N, K.sc]; exact blkOk_by h3
      refine ⟨h1, ⟨_, natsB_iff.mp h2, blk⟩, ?_, iI _ _ _ _ h6 (fun z => z), fun s H C cl fp => ?_, fun s H C cl fp => ?_, fun s H C cl fp => ?_, fun x => folded_of h5⟩
      · intro i hi
        rw [List.all_eq_true] at h4
        have := h4 i hi
        rw [List.any_eq_true] at this
        obtain ⟨j, hj, e⟩ := this
        rw [Nat.eq_of_beq_eq_true e] at hj
        exact hj
      · exact (chkG_ok k _ _ (K.blk blk.kind s H C cl fp)).1 _ _ h7
      · exact (chk_ok k _ _ (K.blk blk.kind s H C cl fp)).2.2.1 _ _ h8
      · exact (chk_ok k _ _ (K.blk blk.kind s H C cl fp)).1 _ _ h9
    · cases x with
      | none =>
        simp only [chkQ] at h
        split at h
        · exact ts_none
        · cases h
      | some x =>
        simp only [chkQ] at h
        split at h
        · exact ts_some (iT _ _ h)
        · cases h
    · simp only [chkT] at h
      split at h
      · rename_i hp
        exact xt_val (iE _ _ h) (plainT_of hp)
      · split at h
        · split at h
          · exact xt_not (iT _ _ h)
          · cases h
        · split at h
          · simp only [Bool.and_eq_true, decide_eq_true_eq, Bool.not_eq_true'] at h
            obtain ⟨⟨⟨rfl, h2⟩, h3⟩, h4⟩ := h
            exact xt_cmp K.un (iE _ _ h3) (iE _ _ h4) h2
          · cases h
        · split at h
          · simp only [Bool.and_eq_true, decide_eq_true_eq, Bool.not_eq_true'] at h
            obtain ⟨⟨⟨⟨⟨rfl, rfl⟩, h2⟩, h3⟩, h4⟩, h5⟩ := h
            exact xt_chain K.un (iE _ _ h3) (iE _ _ h4) (iE _ _ h5) h2
          · cases h
        · exact (iW _ _ h).pt
    · cases x with
      | and a b =>
        simp only [chkW] at h
        split at h
        · rw [Bool.and_eq_true] at h
          exact xw_and (iT _ _ h.1) (iW _ _ h.2)
        · cases h
      | or a b =>
        simp only [chkW] at h
        split at h
        · rw [Bool.and_eq_true] at h
          exact xw_or (iT _ _ h.1) (iW _ _ h.2)
        · cases h
      | one a =>
        simp only [chkW] at h
        split at h
        · rename_i op ea pos
          cases op with
          | And => exact xw_one_and (iT _ _ h)
          | Or => exact xw_one_or (iT _ _ h)
        · cases h
      | _ => simp [chkW] at h
    · cases xs with
      | nil =>
        simp only [chkEs] at h
        split at h
        · exact x_nil
        · cases h
      | cons x xs =>
        simp only [chkEs] at h
        split at h
        · rw [Bool.and_eq_true, Bool.and_eq_true] at h
          exact x_cons (iE _ _ h.1.2) (iEs _ _ h.2) (star_of h.1.1)
        · cases h
    · cases x with
      | none =>
        simp only [chkO] at h
        split at h
        · exact xo_none
        · cases h
      | some x =>
        simp only [chkO] at h
        split at h
        · exact xo_some (iE _ _ h)
        · cases h
    · have dflt : (∀ sl h, evI c x sl h = (ev c x sl h).bind fun d h' => itemsOf h.length d h') → chkE k Γ x e = true → PI X tg e (tI X.K c x) := fun hd h => pi_val (iE _ _ h) hd
      cases x with
      | range xs =>
        simp only [chkI] at h
        split at h
        · rename_i n p es pos
          simp only [Bool.and_eq_true] at h
          obtain ⟨⟨⟨⟨⟨h1, h2⟩, h3⟩, h4⟩, h5⟩, h6⟩ := h
          rw [strB_iff] at h1
          subst h1
          obtain ⟨st, sl⟩ := chkEs_star _ _ _ _ h6
          have h4 : es.length < 4 := Nat.le_of_ble_eq_true h4
          have hm := K.blt _ (inL_mem h2)
          have hg := K.gl h3
          have pa := iEs _ _ h6
          match es, xs, st, sl, pa, h5, h4 with
          | [e1], [x1], st, _, pa, _, _ =>
            simp only [List.all_cons, Bool.and_eq_true] at st
            exact i_range1 hg hm pa (star_of st.1)
          | [e1, e2], [x1, x2], st, _, pa, _, _ =>
            simp only [List.all_cons, Bool.and_eq_true] at st
            exact i_range2 hg hm pa (star_of st.1) (star_of st.2.1)
          | [e1, e2, e3], [x1, x2, x3], st, _, pa, _, _ =>
            simp only [List.all_cons, Bool.and_eq_true] at st
            exact i_range3 hg hm pa (star_of st.1) (back_of (by simp [st.2.1, st.2.2.1]))
          | [], _, _, _, _, h5, _ => simp at h5
          | [_], [], _, sl, _, _, _ => simp at sl
          | [_], _ :: _ :: _, _, sl, _, _, _ => simp at sl
          | [_, _], [], _, sl, _, _, _ => simp at sl
          | [_, _], [_], _, sl, _, _, _ => simp at sl
          | [_, _], _ :: _ :: _ :: _, _, sl, _, _, _ => simp at sl
          | [_, _, _], [], _, sl, _, _, _ => simp at sl
          | [_, _, _], [_], _, sl, _, _, _ => simp at sl
          | [_, _, _], [_, _], _, sl, _, _, _ => simp at sl
          | [_, _, _], _ :: _ :: _ :: _ :: _, _, sl, _, _, _ => simp at sl
          | _ :: _ :: _ :: _ :: _, _, _, _, _, _, h4 => simp at h4; omega
        · cases h
      | zip a b =>
        simp only [chkI] at h
        split at h
        · rename_i n p ea eb pos
          simp only [Bool.and_eq_true] at h
          obtain ⟨⟨⟨⟨⟨⟨⟨h0, h1⟩, h2⟩, h3⟩, h4⟩, h5⟩, h6⟩, h7⟩ := h
          rw [strB_iff] at h1
          subst h1
          have ht := ht h0
          cases tg <;> first | (cases ht; done) | skip
          exact i_zip (K.gl h3) (K.blt _ (inL_mem h2)) (iE _ _ h6) (iE _ _ h7) (star_of h4) (star_of h5) (back_of (by simp [h5]))
        · cases h
      | enum a =>
        simp only [chkI] at h
        split at h
        · rename_i n p ea pos
          simp only [Bool.and_eq_true] at h
          obtain ⟨⟨⟨⟨⟨h0, h1⟩, h2⟩, h3⟩, h4⟩, h5⟩ := h
          rw [strB_iff] at h1
          subst h1
          have ht := ht h0
          cases tg <;> first | (cases ht; done) | skip
          exact i_enum (K.gl h3) (K.blt _ (inL_mem h2)) (iE _ _ h5) (star_of h4)
        · cases h
      | items a => simp [chkI] at h
      | vals a => simp [chkI] at h
      | _ => exact dflt (fun sl h => by rw [evI]; all_goals (intros; rename_i z; cases z)) (by simpa only [chkI] using h)
end
end Ev
/-! Ev: the checker's rule for statements; functions. -/
namespace Ev
open PySem PySem.Spec PyProof.Rows L2
theorem swaps_no3 {e t : Expr} {l : Nat} {env : Env} (h : isNm t = false) : swapsWithSole [t] e l env = pure false := swaps_no2 h
section
variable {c : CallT}
theorem chkS_ok : ∀ (k : Nat) (Γ : G) (X : Cx), XOk X Γ c → (∀ s st, chkS k Γ s st = true → PS X st (tS X.K c s)) ∧ ∀ ss sts, chkSs k Γ ss sts = true → PSs X sts (tSs X.K c ss)
  | 0, Γ, X, K => ⟨fun _ _ h => by simp [chkS] at h, fun _ _ h => by simp [chkSs] at h⟩
  | k + 1, Γ, X, K => by
    obtain ⟨iS, iSs⟩ := chkS_ok k Γ X K
    obtain ⟨iE, iC, iQ, iT, iW, iEs, iO, iI⟩ := chk_ok (c := c) k Γ X K
    obtain ⟨iG, iGs⟩ := chkG_ok (c := c) k Γ X K
    have hkind : X.env.scope.kind = .function := by rw [K.sc]; exact K.kind
    refine ⟨fun s st h => ?_, fun ss sts h => ?_⟩
    · cases s with
      | asg t x =>
        simp only [chkS] at h
        split at h
        · rename_i tg e pos
          rw [Bool.and_eq_true] at h
          obtain ⟨h0, h⟩ := h
          split at h
          · rename_i n npos
            split at h
            · rename_i i
              simp only [Bool.and_eq_true] at h
              obtain ⟨⟨⟨h1, h2⟩, h3⟩, h4⟩ := h
              split at h4
              · rename_i ee g scope cpos
                split at h4
                · rename_i hh
                  split at h4
                  · rename_i elt tc it cond own
                    have q := iC _ _ _ _ _ _ _ _ h4
                    obtain ⟨op, e1, ok⟩ := q.ex
                    obtain ⟨gt, iter, ifs, as⟩ := g
                    have e2 : as = 0 := q.sync
                    subst e2
                    have hl : lclB Γ.sc n = true := by
                      unfold handB at hh
                      simp only [Bool.and_eq_true] at hh
                      exact hh.1.1
                    have := s_setLc (py := npos) (spos := pos) (pos := cpos) K.calm K.nd (K.ix h1) (K.lcl hl) (by rw [swaps_comp hkind, K.sc, hh]) q.it ok (by rw [e1]; exact q.names) q.tg q.ifs q.elt q.fold
                    rw [e1] at this
                    exact this
                  · cases h4
                · rename_i hh
                  exact s_set K.nd (K.ix h1) (K.loc h2) (iE _ _ h4) (by rw [swaps_comp hkind, K.sc, Bool.eq_false_iff.mpr hh]) (K.fn1 h3)
              · rw [Bool.and_eq_true, Bool.not_eq_true'] at h4
                exact s_set K.nd (K.ix h1) (K.loc h2) (iE _ _ h4.2) (swaps_no h4.1) (K.fn1 h3)
            · cases h
          · rename_i ts kk tpos
            simp only [Bool.and_eq_true] at h
            obtain ⟨⟨h1, h2⟩, h3⟩ := h
            refine s_asg (iE _ _ h3) (iG _ _ h2) (swaps_no3 rfl) ?_ (each_one h0)
            split at h1
            · rw [Bool.or_eq_true] at h1
              rcases h1 with h1 | h1
              · exact stores_cell (by rw [K.sc]; exact h1)
              refine stores_fold ?_
              rw [Bool.or_eq_true, Bool.not_eq_true', Bool.or_eq_false_iff] at h1
              refine h1.imp_right fun z => ⟨fun q => ?_, fun q => ?_⟩
              · rw [q] at z; simp at z
              · rw [q] at z; simp at z
            · rename_i hn
              refine stores_no ?_ rfl
              cases e <;> first | rfl | exact absurd rfl (hn _ _ _)
          · cases h
        · cases h
      | par2 i j a b =>
        simp only [chkS] at h
        split at h
        · rename_i x px y py kt pt ea eb k2 pt2 pos
          simp only [Bool.and_eq_true, Bool.not_eq_true'] at h
          obtain ⟨⟨⟨⟨⟨⟨⟨⟨⟨⟨⟨⟨h1, h2⟩, h3⟩, h4⟩, h5⟩, h6⟩, h7⟩, h8⟩, h9⟩, h10⟩, h11⟩, h12⟩, h13⟩ := h
          refine s_par2 K.calm K.nd (K.ix h1) (K.ix h2) (fun z => by rw [z] at h3; simp at h3) (K.lcl h4) (K.lcl h5) (iE _ _ h12) (iE _ _ h13) (star_of h8) (star_of h9) ?_ (swaps_no3 rfl)
          exact stores_2 hkind (K.lcl h4) (K.lcl h5) h6 (by rw [← strB_beq]; exact h7) (by simp [h8, h9]) h10 h11
        · cases h
      | par3 i j l a b d =>
        simp only [chkS] at h
        split at h
        · rename_i x px y py z pz kt pt ea eb ed k2 pt2 pos
          simp only [Bool.and_eq_true, Bool.not_eq_true'] at h
          obtain ⟨⟨⟨⟨⟨⟨⟨⟨⟨⟨⟨⟨⟨⟨⟨⟨⟨⟨⟨⟨⟨h1, h2⟩, h3⟩, h4⟩, h5⟩, h6⟩, h7⟩, h8⟩, h9⟩, h10⟩, h11⟩, h12⟩, h13⟩, h14⟩, h15⟩, h16⟩, h17⟩, h18⟩, h19⟩, h20⟩, h21⟩, h22⟩ := h
          refine s_par3 K.calm K.nd (K.ix h1) (K.ix h2) (K.ix h3) (fun z => by rw [z] at h4; simp at h4) (fun z => by rw [z] at h5; simp at h5) (fun z => by rw [z] at h6; simp at h6) (K.lcl h7) (K.lcl h8) (K.lcl h9) (iE _ _ h20) (iE _ _ h21) (iE _ _ h22) (star_of h15) (star_of h16) (star_of h17) ?_ (swaps_no3 rfl)
          exact stores_3 hkind (K.lcl h7) (K.lcl h8) (K.lcl h9) h10 h11 (by rw [← strB_beq]; exact h12) (by rw [← strB_beq]; exact h13) (by rw [← strB_beq]; exact h14) (by simp [h15, h16, h17]) h18 h19
        · cases h
      | setIx a i x =>
        simp only [chkS] at h
        split at h
        · simp only [Bool.and_eq_true] at h
          obtain ⟨⟨⟨h1, h2⟩, h3⟩, h4⟩ := h
          exact s_setIx (iE _ _ h4) (iE _ _ h2) (iE _ _ h3) (stores_no rfl rfl) (swaps_no3 rfl) rfl (sub_assign h1)
        · cases h
      | aug i o x =>
        simp only [chkS] at h
        split at h
        · simp only [Bool.and_eq_true, decide_eq_true_eq] at h
          obtain ⟨⟨⟨⟨⟨h1, rfl⟩, h2⟩, h3⟩, h4⟩, h5⟩ := h
          have ho : o = .add ∨ o = .sub := by cases o <;> first | exact .inl rfl | exact .inr rfl | cases h1
          exact s_aug ho K.nd (K.ix h2) (K.loc h3) (iE _ _ h5) (K.fn1 h4)
        · cases h
      | augIx a i x e => simp [chkS] at h
      | ite d t u =>
        simp only [chkS] at h
        split at h
        · rw [Bool.and_eq_true, Bool.and_eq_true] at h
          exact s_ite (iT _ _ h.1.1) (iSs _ _ h.1.2) (iSs _ _ h.2)
        · cases h
      | «for» t it body kill =>
        simp only [chkS] at h
        split at h
        · simp only [Bool.and_eq_true] at h
          obtain ⟨⟨⟨h1, h2⟩, h3⟩, h4⟩ := h
          exact s_for K.xe K.calm (iI _ _ _ _ h2 fun z => z) (iG _ _ h3) (iSs _ _ h4) fun x => folded_of h1
        · cases h
      | «while» d body kill =>
        simp only [chkS] at h
        split at h
        · rw [Bool.and_eq_true] at h
          exact s_while K.xe (iT _ _ h.1) (iSs _ _ h.2)
        · cases h
      | ret x =>
        simp only [chkS] at h
        split at h
        · exact s_ret (iE _ _ h)
        · cases h
      | retN =>
        simp only [chkS] at h
        split at h
        · exact s_retN
        · cases h
      | expr x =>
        simp only [chkS] at h
        split at h
        · rw [Bool.and_eq_true, Bool.not_eq_true'] at h
          exact s_expr (iE _ _ h.2) (swaps_no h.1)
        · cases h
      | brk =>
        simp only [chkS] at h
        split at h
        · exact s_brk
        · cases h
      | cnt =>
        simp only [chkS] at h
        split at h
        · exact s_cnt
        · cases h
      | pass =>
        simp only [chkS] at h
        split at h
        · exact s_pass
        · exact s_doc
        · cases h
      | raise => exact s_raise
    · cases ss with
      | nil =>
        simp only [chkSs] at h
        split at h
        · exact ss_nil
        · cases h
      | cons s ss =>
        simp only [chkSs] at h
        split at h
        · rw [Bool.and_eq_true] at h
          exact ss_cons (iS _ _ h.1) (iSs _ _ h.2)
        · cases h
end
/-! ### functions -/
/-- a def as it stands in the program -/
structure Df where
  name : Str
  params : Arguments
  body : List Stmt
  scope : Scope
  ps : List Str
  N : List Str
structure FOk (K : PySem.W.Frag) (mg : Str → Option Value) (d : Df) (f : Addr) (fd : FuncData) : Prop where
  fun_ : FunD K d.name d.name d.params d.body d.scope [] [] f fd
  bind : Binds K fd d.ps []
  glob : mg d.name = some (.ref f)
/-- what a table of functions must satisfy: checked by evaluation -/
def scopeB (N ps : List Str) (sc : Scope) : Bool :=
  (match sc.kind with | .function => true | _ => false) && !sc.isCoroutine && !sc.isGenerator && (N.zipIdx.all fun p => N.zipIdx.all fun q => Nat.beq p.2 q.2 || !(strB p.1 q.1)) && (Nat.ble ps.length N.length && (ps.zip N).all fun p => strB p.1 p.2) &&
    (ps.all fun x => locB sc x) && (sc.names.all fun y => match y.2 with | .free => false | _ => true)
theorem scope_of {N ps : List Str} {sc : Scope} (h : scopeB N ps sc = true) : FnScope N ps sc := by
  unfold scopeB at h
  simp only [Bool.and_eq_true, Bool.not_eq_true', List.all_eq_true] at h
  obtain ⟨⟨⟨⟨⟨⟨h1, h2⟩, h3⟩, h4⟩, h5, h6⟩, h7⟩, h8⟩ := h
  refine ⟨?_, h2, h3, ?_, ?_, fun x hx => ?_, fun y hy e => ?_⟩
  · split at h1 <;> first | assumption | cases h1
  · show N.Pairwise (· ≠ ·)
    rw [List.pairwise_iff_getElem]
    intro i j hi hj hij e
    have a1 : (N[i], i) ∈ N.zipIdx := by
      rw [List.mem_iff_getElem]
      exact ⟨i, by simpa using hi, by simp⟩
    have a2 : (N[j], j) ∈ N.zipIdx := by
      rw [List.mem_iff_getElem]
      exact ⟨j, by simpa using hj, by simp⟩
    have q := h4 _ a1 _ a2
    simp only [Bool.or_eq_true, Bool.not_eq_true'] at q
    rcases q with q | q
    · have := Nat.eq_of_beq_eq_true q
      omega
    · have : strB N[i] N[j] = true := strB_iff.mpr e
      rw [this] at q; cases q
  · have h5 := Nat.le_of_ble_eq_true h5
    apply List.ext_getElem
    · simp; omega
    · intro i hi1 hi2
      rw [List.getElem_take]
      have hm : (ps[i], N[i]'(by omega)) ∈ ps.zip N := by
        rw [List.mem_iff_getElem]
        exact ⟨i, by simp; omega, by simp⟩
      exact (strB_iff.mp (h6 _ hm)).symm
  · exact loc_of (h7 x hx)
  · have q := h8 y hy
    rw [e] at q
    cases q
def dbgB (n : Str) : Bool := !(strB n "__debug__") && !(strB n "__classdict__")
def gOf (T : List (Str × Nat)) (B : List Str) (C : List (Str × D)) (d : Df) : G := ⟨d.N, d.scope, none, T, B, C⟩
/-- one def's check -/
def dfB (T : List (Str × Nat)) (B : List Str) (C : List (Str × D)) (k : Nat) (d : Df) (fn : Fn) : Bool :=
  scopeB d.N d.ps d.scope && d.N.all dbgB && Nat.beq d.ps.length fn.np && Nat.beq d.N.length fn.ns && chkSs k (gOf T B C d) fn.body d.body
def tabB (ds : List Df) (fns : List Fn) : List (Str × Nat) := (ds.zip fns).map fun p => (p.1.name, p.2.np)
theorem start_rsl {K : PySem.W.Frag} {H : Hp} {ρ : List Addr} {ds : List D} {vs : List V} {N : List Str} (r : RDs K H ρ ds vs) (hl : ds.length ≤ N.length) : Rsl K H ρ (ds.map some ++ List.replicate (N.length - ds.length) none) (start N vs) := by
  have e : start N vs = vs.map some ++ List.replicate (N.length - vs.length) none := rfl
  rw [e, ← r.length]
  refine ⟨by simp [r.length], fun i d q => ?_⟩
  by_cases hi : i < ds.length
  · rw [List.getElem?_append_left (by simpa using hi)] at q
    rw [List.getElem?_append_left (by rw [List.length_map, ← r.length]; exact hi)]
    rw [List.getElem?_map] at q ⊢
    cases z : ds[i]? with
    | none => rw [z] at q; cases q
    | some d' =>
      rw [z] at q; cases q
      obtain ⟨v, h1, h2⟩ := r.get z
      exact ⟨v, by rw [h1]; rfl, h2⟩
  · rw [List.getElem?_append_right (by simpa using hi)] at q
    rw [List.getElem?_replicate] at q
    split at q <;> cases q
theorem rs_nil {K : PySem.W.Frag} {H : Hp} : RS K H [] [] := ⟨rfl, List.nodup_nil, fun n o e => by simp at e⟩
/-- an empty store's later state, seen from a store that was not handed over -/
theorem post_back {K : PySem.W.Frag} {H H' : Hp} {ρ ρ' : List Addr} {h : Sto} (r : RS K H ρ h) (p : Post [] H ρ' H') : Post ρ H ρ H' ∧ RS K H' ρ h := by
  have x := p.ext (rs_nil (K := K) (H := H))
  have p2 : Post ρ H ρ H' := ⟨List.prefix_refl _, fun a o e _ => p.keep a o e (by simp), fun _ m n => absurd m n⟩
  have x2 : Ext K ρ H ρ H' := p2.ext r
  refine ⟨p2, r.len, r.nd, fun n o e => ?_⟩
  obtain ⟨a, ho, h1, h2, h3⟩ := r.at_ n o e
  exact ⟨a, ho, h1, p.keep _ _ h2 (by simp), h3.ext x2⟩
theorem fin_out {K : PySem.W.Frag} {H : Hp} {ρ : List Addr} {h h1 h' : Sto} {d1 d : D} {Q : VK} (r : RS K H ρ h) (e : outOf h d1 h1 = some (d, h')) (f : Fin K ρ H d h' Q) : Fin K [] H d1 h1 Q := by
  intro v H' ρ' p r' rd
  obtain ⟨p2, r2⟩ := post_back r p
  have x0 : Ext K [] H' ρ H' := ⟨fun _ _ s => s, fun _ _ s => s, List.nil_prefix⟩
  unfold outOf at e
  split at e
  · rename_i cl
    cases e
    exact f v H' ρ p2 r2 ((rd.shrink List.nil_prefix cl).ext x0)
  · split at e
    · rename_i m
      split at e
      · rename_i o eo
        split at e
        · rename_i cl
          cases e
          obtain ⟨a, ho, rfl, g1, g2, g3⟩ := ref_of r' rd eo
          have ma : a ∈ ρ' := List.mem_of_getElem? g1
          have na : H a = none := p.new a ma (by simp)
          have no : a ∉ ρ := r.none_out na
          have x1 : Ext K ρ H' (ρ ++ [a]) H' := ⟨fun _ _ s => s, fun _ _ s => s, List.prefix_append _ _⟩
          refine f (.ref a) H' (ρ ++ [a]) ⟨List.prefix_append _ _, p2.keep, fun b hb nb => ?_⟩ (r2.join g2 no ((g3.shrink List.nil_prefix cl).ext x0)) (.top r2)
          rcases List.mem_append.mp hb with hb | hb
          · exact absurd hb nb
          · have eb : b = a := by simpa using hb
            subst eb; exact na
        · cases e
      · cases e
    · cases e
/-- a table of functions keeps its promise -/
theorem fns_ok {P : Program} {w : World} {K : PySem.W.Frag} {mg : Str → Option Value} {base : Heap} {dfs : List Df} {fns : List Fn} {B : List Str} {C : List (Str × D)} {fuel : Nat}
    (hF : ∀ (i : Nat) (d : Df), dfs[i]? = some d → ∃ f fd, FOk K mg d f fd) (hB : ∀ n ∈ B, mg n = none)
    (hC : ∀ n d, (n, d) ∈ C → (n == ("__debug__" : Str)) = false ∧ ∃ u v, mg n = some u ∧ RelV v u ∧ ∀ H ρ, RD K H ρ d v)
    (hn : ∀ d ∈ dfs, (d.name == ("__debug__" : Str)) = false)
    (hchk : ∀ (i : Nat) (d : Df) (fn : Fn), dfs[i]? = some d → fns[i]? = some fn → dfB (tabB dfs fns) B C fuel d fn = true) :
    ∀ (k i : Nat) (d : Df) (f : Addr) (fd : FuncData), dfs[i]? = some d → FOk K mg d f fd → FnG P w K mg base k f fd d.ps (spF K (callN fns k) d.ps.length i) := by
  intro k
  induction k with
  | zero =>
    intro i d f fd _ _
    refine ⟨fun vs H Q h => h.1, fun A outer s H args us vs Q hr hg e0 hb r h => ?_⟩
    obtain ⟨_, h, ρ, ds, d, h', _, _, e, _⟩ := h
    simp [callN] at e
  | succ k ih =>
    intro i d f fd hd ok
    cases hfn : fns[i]? with
    | none =>
      refine ⟨fun vs H Q h => h.1, fun A outer s H args us vs Q hr hg e0 hb r h => ?_⟩
      obtain ⟨_, h, ρ, ds, d, h', _, _, e, _⟩ := h
      simp [callN, hfn] at e
    | some fn =>
      have ck := hchk i d fn hd hfn
      unfold dfB at ck
      simp only [Bool.and_eq_true] at ck
      obtain ⟨⟨⟨⟨c1, c2⟩, c3⟩, c4⟩, c5⟩ := ck
      have S := scope_of c1
      have c3 := Nat.eq_of_beq_eq_true c3
      have c4 := Nat.eq_of_beq_eq_true c4
      refine fnG_of ok.fun_ S (fun vs H Q h => h.1) ?_
      intro cdv A outer s H vs Q hr hg hsp
      refine ⟨tSs K (callN fns k) fn.body, ?_, ?_⟩
      · have XK : XOk (cxOf CX0 P w K mg base d.N d.name d.scope f cdv A outer s H E0).nox (gOf (tabB dfs fns) B C d) (callN fns k) := by
          refine ⟨rfl, S.nd, fun n hm => ?_, rfl, S.kind, fun n _ => rfl, rfl, ?_, hg, rfl, fun j n ar e => ?_, hB, hC⟩
          · have := List.all_eq_true.mp c2 n hm
            unfold dbgB at this
            rw [strB_beq, strB_beq, Bool.and_eq_true, Bool.not_eq_true', Bool.not_eq_true'] at this
            exact this
          · have := hr.un
            show (A.deeper (envOfC d.name d.scope s.heap.objs.size f cdv)).units + 100 < cLine
            omega
          · show _ ∧ _
            have e : (tabB dfs fns)[j]? = some (n, ar) := e
            unfold tabB at e
            rw [List.getElem?_map] at e
            cases q : (dfs.zip fns)[j]? with
            | none => rw [q] at e; cases e
            | some p =>
              rw [q] at e
              cases e
              rw [List.getElem?_zip_eq_some] at q
              obtain ⟨q1, q2⟩ := q
              obtain ⟨f', fd', ok'⟩ := hF j p.1 q1
              have ck' := hchk j p.1 p.2 q1 q2
              unfold dfB at ck'
              simp only [Bool.and_eq_true] at ck'
              have l' := Nat.eq_of_beq_eq_true ck'.1.1.2
              refine ⟨hn _ (List.mem_of_getElem? q1), f', fd', p.1.ps, k, ?_, hr, ok'.glob, ok'.fun_.kp, ok'.bind⟩
              have F := ih j p.1 f' fd' q1 ok'
              rw [l'] at F
              exact F
        exact (chkS_ok fuel _ _ XK).2 _ _ c5
      · obtain ⟨hl, h, ρ, ds, dd, h', r, rs, e, fi⟩ := hsp
        have hdl : ds.length = fn.np := by rw [rs.length, hl]; exact c3
        have hN : ds.length ≤ d.N.length := by
          have := congrArg List.length S.pre
          rw [List.length_take] at this
          omega
        simp only [callN, hfn] at e
        have base : ∀ {ρ0 : List Addr} {h0 h1 : Sto} {d1 : D}, RS K H ρ0 h0 → RDs K H ρ0 ds vs → runF (callN fns k) fn ds h0 = .ok d1 h1 → Fin K ρ0 H d1 h1 Q → tSs K (callN fns k) fn.body { nx := fun _ H' => Q .non H', rt := Q } (start d.N vs) H := by
          intro ρ0 h0 h1 d1 r0 rs0 e0 f0
          unfold runF at e0
          rw [if_pos hdl] at e0
          obtain ⟨o, h2, e2, e0⟩ := Res.bind_eq e0
          have rsl := start_rsl (N := d.N) rs0 hN
          rw [← c4, ← hdl] at e2
          refine ⟨_, h0, ρ0, o, h2, rsl, r0, e2, fun H' ρ' p r' => ?_⟩
          cases o with
          | ret x => cases e0; exact fun v rd => f0 v H' ρ' p r' rd
          | nx sl => cases e0; exact fun σ' _ => f0 .non H' ρ' p r' .non
          | brk sl => cases e0
          | cnt sl => cases e0
        split at e
        · rename_i p q
          cases e
          unfold ownF at q
          split at q
          · rename_i cl
            split at q
            · rename_i d1 h1 e1
              exact base rs_nil (rs.shrink List.nil_prefix cl) e1 (fin_out r q fi)
            · cases q
          · cases q
        · obtain ⟨d1, h1, e1, e⟩ := Res.bind_eq e
          exact base r rs e1 (fin_trunc r e fi)
end Ev
/-! Ev: the head. -/
namespace Ev
open PySem PySem.Spec PyProof.Rows L2
def toD (d : Df) : He.DefD := ⟨(d.name, none), d.name, d.name, d.params, d.body, d.scope, [], []⟩
/-- the facts asked of the module -/
def faOf (ds : List Df) (B : List Str) (ex : List He.Fa) : List He.Fa := (ds.map fun d => .glo d.name) ++ (B.map fun n => .free n) ++ ex
def BindOk (d : Df) : Prop := ∀ (kV doc pm : Value) (an : Option Addr) (cdv ct : Value) (us : List Value), us.length = d.ps.length → bindArgs (PySem.W.fnOf d.name d.name d.params d.body d.scope .none kV doc pm an cdv ct) ⟨us, []⟩ = pure (d.ps.zip us)
section
variable {K : PySem.W.Frag} {h : Heap} {mg : Str → Option Value} {ds : List Df} {B : List Str} {ex : List He.Fa}
theorem fok_of (KX : K.In h) (G : h.Ns mainGlobals mg) (c : He.SaysD (faOf ds B ex) (ds.map toD) K) (hb : ∀ d ∈ ds, BindOk d) {i : Nat} {d : Df} (e : ds[i]? = some d) : ∃ f fd, FOk K mg d f fd := by
  have e2 : (ds.map toD)[i]? = some (toD d) := by rw [List.getElem?_map, e]; rfl
  obtain ⟨fd, F⟩ := c.def_ i e2
  have hi : i < ds.length := (List.getElem?_eq_some_iff.mp e).1
  have e3 : (faOf ds B ex)[i]? = some (.glo d.name) := by
    unfold faOf
    rw [List.append_assoc, List.getElem?_append_left (by simpa using hi), List.getElem?_map, e]
    rfl
  have g := He.glo_ok KX G (c.fact i e3)
  have F' : FunD K d.name d.name d.params d.body d.scope [] [] (He.fAd K (d.name, none)) fd := F
  exact ⟨_, fd, F', F'.bindsN (hb d (List.mem_of_getElem? e)), g⟩
theorem blt_of (KX : K.In h) (G : h.Ns mainGlobals mg) (c : He.SaysD (faOf ds B ex) (ds.map toD) K) : ∀ n ∈ B, mg n = none := by
  intro n hn
  obtain ⟨j, hj, e⟩ := List.mem_iff_getElem.mp hn
  have e3 : (faOf ds B ex)[ds.length + j]? = some (.free n) := by
    unfold faOf
    rw [List.append_assoc, List.getElem?_append_right (by simp), List.getElem?_append_left (by simp; omega), List.getElem?_map]
    simp only [List.length_map, Nat.add_sub_cancel_left]
    rw [List.getElem?_eq_getElem hj, e]
    rfl
  exact He.free_ok KX G (c.fact _ e3)
theorem ex_of (c : He.SaysD (faOf ds B ex) (ds.map toD) K) {f : He.Fa} (hf : f ∈ ex) : f.ok K = true := by
  obtain ⟨j, hj, e⟩ := List.mem_iff_getElem.mp hf
  have e3 : (faOf ds B ex)[ds.length + B.length + j]? = some f := by
    unfold faOf
    rw [List.getElem?_append_right (by simp)]
    simp only [List.length_append, List.length_map]
    rw [show ds.length + B.length + j - (ds.length + B.length) = j from by omega, List.getElem?_eq_getElem hj, e]
  exact c.fact _ e3
/-- ints and texts of the module -/
def cstFa : List (Str × D) → List He.Fa
  | [] => []
  | (n, .int i) :: r => .int n i :: cstFa r
  | (n, .str s) :: r => .str n s :: cstFa r
  | _ :: r => cstFa r
def cstPlain (p : Str × D) : Bool := dbgB p.1 && match p.2 with
  | .int _ => true
  | .str _ => true
  | _ => false
theorem cstFa_mem : ∀ {C : List (Str × D)} {n : Str} {d : D}, (n, d) ∈ C → (∀ i, d = .int i → He.Fa.int n i ∈ cstFa C) ∧ ∀ s, d = .str s → He.Fa.str n s ∈ cstFa C
  | [], _, _, h => by simp at h
  | (m, e) :: r, n, d, h => by
    rcases List.mem_cons.mp h with h | h
    · cases h
      refine ⟨fun i z => ?_, fun s z => ?_⟩
      · subst z; simp [cstFa]
      · subst z; simp [cstFa]
    · obtain ⟨h1, h2⟩ := cstFa_mem h
      have up : ∀ f, f ∈ cstFa r → f ∈ cstFa ((m, e) :: r) := by
        intro f hf
        cases e <;> simp [cstFa, hf]
      exact ⟨fun i z => up _ (h1 i z), fun s z => up _ (h2 s z)⟩
theorem cst_of {C : List (Str × D)} (KX : K.In h) (G : h.Ns mainGlobals mg) (c : He.SaysD (faOf ds B (cstFa C)) (ds.map toD) K) (hC : C.all cstPlain = true) : ∀ n d, (n, d) ∈ C → (n == ("__debug__" : Str)) = false ∧ ∃ u v, mg n = some u ∧ RelV v u ∧ ∀ H ρ, RD K H ρ d v := by
  intro n d hm
  have hp := List.all_eq_true.mp hC _ hm
  unfold cstPlain at hp
  rw [Bool.and_eq_true] at hp
  obtain ⟨h1, h2⟩ := hp
  unfold dbgB at h1
  rw [strB_beq, strB_beq, Bool.and_eq_true, Bool.not_eq_true', Bool.not_eq_true'] at h1
  refine ⟨h1.1, ?_⟩
  obtain ⟨q1, q2⟩ := cstFa_mem hm
  split at h2
  · rename_i i z
    simp only at z
    subst z
    obtain ⟨t, e⟩ := He.int_ok KX G (ex_of c (q1 i rfl))
    exact ⟨_, .int i, e, ⟨t, rfl⟩, fun H ρ => .int i⟩
  · rename_i s z
    simp only at z
    subst z
    obtain ⟨t, e⟩ := He.str_ok KX G (ex_of c (q2 s rfl))
    exact ⟨_, .str s, e, ⟨t, rfl⟩, fun H ρ => .str s⟩
  · cases h2
end
/-- the checks of all defs -/
def allB (T : List (Str × Nat)) (B : List Str) (C : List (Str × D)) (fuel : Nat) : List Df → List Fn → Bool
  | d :: ds, f :: fs => dfB T B C fuel d f && allB T B C fuel ds fs
  | _, _ => true
theorem allB_at {T : List (Str × Nat)} {B : List Str} {C : List (Str × D)} {fuel : Nat} : ∀ {ds : List Df} {fs : List Fn}, allB T B C fuel ds fs = true → ∀ (i : Nat) (d : Df) (fn : Fn), ds[i]? = some d → fs[i]? = some fn → dfB T B C fuel d fn = true
  | [], _, _, i, d, fn, e, _ => by simp at e
  | _ :: _, [], _, i, d, fn, _, e => by simp at e
  | d0 :: ds, f0 :: fs, h, i, d, fn, e1, e2 => by
    rw [allB, Bool.and_eq_true] at h
    cases i with
    | zero => simp at e1 e2; subst e1 e2; exact h.1
    | succ i => exact allB_at h.2 i d fn (by simpa using e1) (by simpa using e2)
/-- a law, walked -/
theorem walk_ev {l : PySem.W.OpenLaw} {n k iLaw : Nat} {q : Program} {loose : List Str} {XP : (Str → Option Value) → Heap → Prop} {YP : World → Heap → Prop} {d : DefRec} {x : Str} {dfs : List Df} {fns : List Fn} {B : List Str} {C : List (Str × D)} {fuel : Nat} {dl : Df}
    (hn : l.most = some n) (hn2 : n ≤ sizeLine) (hdf : d.params.defaults = []) (hr : Room k callerA) (hl : dfs[iLaw]? = some dl) (hname : dl.name = d.name) (hps : dl.ps = [x])
    (hY : ∀ w h, YP w h → ∃ K : PySem.W.Frag, K.In h ∧ He.SaysD (faOf dfs B (cstFa C)) (dfs.map toD) K) (hb : ∀ d ∈ dfs, BindOk d) (hC : C.all cstPlain = true) (hnm : ∀ d ∈ dfs, (d.name == ("__debug__" : Str)) = false)
    (hchk : allB (tabB dfs fns) B C fuel dfs fns = true)
    (plain : ∀ ns : List Int, ns.length ≤ n → ∃ h', callN fns k iLaw [.fl (ns.map D.int)] [] = .ok (.bl true) h') :
    PySem.W.WalkO q loose XP YP l.row.toRowW d [] (fun f vs => PySem.call f vs) := by
  refine Att.attach_call hn hdf fun w s₀ s₁ mg mb fa o pm cd doc a vs ns G Y ho hd hcd hmg hobj hints hlen hg => ?_
  obtain ⟨K, KX, c⟩ := hY w _ Y
  obtain ⟨f, fd, ok⟩ := fok_of KX G.T.g c hb hl
  have ef : f = fa := by
    have := ok.glob
    rw [hname, hmg] at this
    cases this; rfl
  subst ef
  have bo := ok.bind
  rw [hps] at bo
  refine law_callG (x := x) (fd := fd) (sp := spF K (callN fns k) 1 iLaw) KX G.T.g G.T.b G.T.builtins G.T.nolimit hg hobj hints (Nat.le_trans hlen hn2) hr (fun base KB GB => ?_) (fun s u => ?_) (fun H hO hS => ?_)
  · have F := fns_ok (P := l.prog) (w := w) (base := base) (B := B) (C := C) (fuel := fuel) (fun i d e => fok_of KX G.T.g c hb e) (blt_of KX G.T.g c) (cst_of KX G.T.g c hC) hnm (allB_at hchk) k iLaw dl f fd hl ok
    rw [hps] at F
    exact F
  · have z := FunD.bindsA (ps := dl.ps) ok.fun_ (hb dl (List.mem_of_getElem? hl)) s [u]
    rw [hps] at z
    exact z rfl
  · obtain ⟨h', e⟩ := plain ns hlen
    have rs : ∀ ns : List Int, RDs K H [] (ns.map D.int) (ns.map V.int) := by
      intro ns
      induction ns with
      | nil => exact .nil
      | cons i r ih => exact .cons (.int i) ih
    exact ⟨rfl, [], [], [.fl (ns.map D.int)], .bl true, h', rs_nil, .cons (.fl hS (rs ns)) .nil, e, fun v H' ρ' _ _ rd => by cases rd; rfl⟩
end Ev
/-! Ev: working with the evaluator. -/
namespace Ev
open PySem
theorem runF_ret {c : CallT} {f : Fn} {ds : List D} {h h' : Sto} {d : D} (hl : ds.length = f.np) (e : exss c f.body (ds.map some ++ List.replicate (f.ns - f.np) none) h = .ok (.ret d) h') : runF c f ds h = .ok d h' := by
  unfold runF; rw [if_pos hl, e]; rfl
theorem runF_nx {c : CallT} {f : Fn} {ds : List D} {h h' : Sto} {sl : SL} (hl : ds.length = f.np) (e : exss c f.body (ds.map some ++ List.replicate (f.ns - f.np) none) h = .ok (.nx sl) h') : runF c f ds h = .ok .non h' := by
  unfold runF; rw [if_pos hl, e]; rfl
theorem trunc_same (d : D) (h : Sto) : trunc h.length d h = .ok d h := by
  unfold trunc
  rw [List.take_length]
  split
  · split
    · rfl
    · split
      · rename_i m _
        split
        · rename_i o e
          have hm := (List.getElem?_eq_some_iff.mp e).1
          have : ¬ h.length ≤ m := by omega
          simp [this]
        · rfl
      · rfl
  · rfl
theorem trunc_len {n : Nat} {d : D} {h : Sto} (e : h.length = n) : trunc n d h = .ok d h := by subst e; exact trunc_same d h
/-- a call that leaves the store as it is -/
theorem call_pure {fns : List Fn} {k f : Nat} {fn : Fn} {ds : List D} {d : D} (hf : fns[f]? = some fn) (hd : d.clo 0 = true) (e : ∀ h, runF (callN fns k) fn ds h = .ok d h) (h : Sto) : callN fns (k + 1) f ds h = .ok d h := by
  simp only [callN, hf, ownF]
  split
  · rename_i p q
    split at q
    · rw [e] at q
      simp [outOf, hd] at q
      rw [← q]
    · cases q
  · rw [e]; simp only [Res.bind, trunc_same]
/-- a call that is handed no object of the store -/
theorem call_clo {fns : List Fn} {k f : Nat} {fn : Fn} {ds : List D} {d : D} {h' : Sto} (hf : fns[f]? = some fn) (hs : D.clos 0 ds = true) (hd : d.clo 0 = true) (e : runF (callN fns k) fn ds [] = .ok d h') (h : Sto) : callN fns (k + 1) f ds h = .ok d h := by
  simp only [callN, hf, ownF, hs, if_true, e, outOf, hd]
/-- the same, a new list is handed back -/
theorem call_lst {fns : List Fn} {k f m : Nat} {fn : Fn} {ds : List D} {h' : Sto} {o : O} (hf : fns[f]? = some fn) (hs : D.clos 0 ds = true) (e : runF (callN fns k) fn ds [] = .ok (.ref m) h') (ho : h'[m]? = some o) (hc : O.clo 0 o = true) (h : Sto) :
    callN fns (k + 1) f ds h = .ok (.ref h.length) (h ++ [o]) := by
  simp only [callN, hf, ownF, hs, if_true, e, outOf, D.clo, ho, hc]
  simp
/-- a call that is handed an object -/
theorem call_ref {fns : List Fn} {k f : Nat} {fn : Fn} {ds : List D} {d d2 : D} {h h1 h2 : Sto} (hf : fns[f]? = some fn) (hs : D.clos 0 ds = false) (e : runF (callN fns k) fn ds h = .ok d h1) (et : trunc h.length d h1 = .ok d2 h2) : callN fns (k + 1) f ds h = .ok d2 h2 := by
  simp only [callN, hf, ownF, hs]
  rw [e]; simpa [Res.bind] using et
theorem compLoop_map {f : D → Sto → Res (Option D)} {g : D → D} {h : Sto} : ∀ {xs : List D} {ch : Chk}, chkOk ch h → (∀ x ∈ xs, f x h = .ok (some (g x)) h) → compLoop f ch xs h = .ok (xs.map g) h
  | [], _, _, _ => by simp [compLoop]
  | x :: xs, ch, hc, hf => by
    have ih := compLoop_map (g := g) (xs := xs) hc fun y hy => hf y (by simp [hy])
    simp only [compLoop, hf x (by simp), Res.bind_ok, if_pos hc, ih, List.map_cons]
theorem compLoop_filter {f : D → Sto → Res (Option D)} {g : D → Option D} {h : Sto} : ∀ {xs : List D} {ch : Chk}, chkOk ch h → (∀ x ∈ xs, f x h = .ok (g x) h) → compLoop f ch xs h = .ok (xs.filterMap g) h
  | [], _, _, _ => by simp [compLoop]
  | x :: xs, ch, hc, hf => by
    have ih := compLoop_filter (g := g) (xs := xs) hc fun y hy => hf y (by simp [hy])
    simp only [compLoop, hf x (by simp), Res.bind_ok, if_pos hc, ih, List.filterMap_cons]
    cases g x <;> rfl
/-- turns that thread a state -/
def runSt {α : Type} (step : α → D → Option D × α) : List D → α → List D × α
  | [], a => ([], a)
  | x :: xs, a => ((step a x).1.toList ++ (runSt step xs (step a x).2).1, (runSt step xs (step a x).2).2)
/-- a comprehension whose turns thread a state: the store is st of it -/
theorem compLoop_state {α : Type} {f : D → Sto → Res (Option D)} {st : α → Sto} {step : α → D → Option D × α} : ∀ {xs : List D} {ch : Chk} {a : α}, (∀ a, chkOk ch (st a)) → (∀ a, ∀ x ∈ xs, f x (st a) = .ok (step a x).1 (st (step a x).2)) →
    compLoop f ch xs (st a) = .ok (runSt step xs a).1 (st (runSt step xs a).2)
  | [], _, _, _, _ => by simp [compLoop, runSt]
  | x :: xs, ch, a, hc, hf => by
    have ih := compLoop_state (xs := xs) (a := (step a x).2) hc fun a y hy => hf a y (by simp [hy])
    simp only [compLoop, hf a x (by simp), Res.bind_ok, if_pos (hc _), ih, runSt]
    cases (step a x).1 <;> rfl
/-- a for loop without break or return: the slots and the store are a state's -/
theorem forLoop_fold {α : Type} {f : D → SL → Sto → Res Out} {ch : Chk} {kill : List Nat} {n : Nat} {sl : α → SL} {st : α → Sto} {step : α → D → α} : ∀ {xs : List D} {a : α}, (∀ a, chkOk ch (st a)) →
    (∀ a, ∀ x ∈ xs, ∃ sl1 h1, f x (sl a) (st a) = .ok (.nx sl1) h1 ∧ turnEnd n kill sl1 h1 = (sl (step a x), st (step a x))) →
    forLoop f ch kill n xs (sl a) (st a) = .ok (.nx (sl (xs.foldl step a))) (st (xs.foldl step a))
  | [], _, _, _ => by simp [forLoop]
  | x :: xs, a, hc, hf => by
    obtain ⟨sl1, h1, e1, e2⟩ := hf a x (by simp)
    have ih := forLoop_fold (xs := xs) (a := step a x) hc fun a y hy => hf a y (by simp [hy])
    simp only [forLoop, e1, Res.bind_ok, e2, List.foldl_cons]
    rw [if_pos (by rw [e2]; exact hc _)]
    exact ih
/-- the same, a property of the state kept -/
theorem forLoop_inv {α : Type} {f : D → SL → Sto → Res Out} {ch : Chk} {kill : List Nat} {n : Nat} {sl : α → SL} {st : α → Sto} {step : α → D → α} {P : α → Prop} : ∀ {xs : List D} {a : α}, P a → (∀ a, P a → chkOk ch (st a)) →
    (∀ a, P a → ∀ x ∈ xs, P (step a x) ∧ ∃ sl1 h1, f x (sl a) (st a) = .ok (.nx sl1) h1 ∧ turnEnd n kill sl1 h1 = (sl (step a x), st (step a x))) →
    P (xs.foldl step a) ∧ forLoop f ch kill n xs (sl a) (st a) = .ok (.nx (sl (xs.foldl step a))) (st (xs.foldl step a))
  | [], _, hp, _, _ => ⟨hp, by simp [forLoop]⟩
  | x :: xs, a, hp, hc, hf => by
    obtain ⟨hp1, sl1, h1, e1, e2⟩ := hf a hp x (by simp)
    have ih := forLoop_inv (xs := xs) hp1 hc fun a ha y hy => hf a ha y (by simp [hy])
    simp only [forLoop, e1, Res.bind_ok, e2, List.foldl_cons]
    rw [if_pos (by rw [e2]; exact hc _ hp1)]
    exact ih
theorem whileN_mono {cond : SL → Sto → Res Bool} {body : SL → Sto → Res Out} {kill : List Nat} {n : Nat} : ∀ {k : Nat} {sl : SL} {h : Sto} {r : Res Out}, whileN cond body kill n k sl h = r → r ≠ .bad → whileN cond body kill n (k + 1) sl h = r
  | 0, sl, h, r, e, hr => by simp [whileN] at e; exact absurd e.symm hr
  | k + 1, sl, h, r, e, hr => by
    rw [whileN] at e ⊢
    cases c : cond sl h with
    | bad => rw [c] at e; exact e
    | exc x y => rw [c] at e; exact e
    | ok b h1 =>
      rw [c] at e
      simp only [Res.bind_ok] at e ⊢
      cases b with
      | false => exact e
      | true =>
        simp only [if_true] at e ⊢
        cases q : body sl h1 with
        | bad => rw [q] at e; exact e
        | exc x y => rw [q] at e; exact e
        | ok o h2 =>
          rw [q] at e
          simp only [Res.bind_ok] at e ⊢
          cases o with
          | nx sl1 => exact whileN_mono e hr
          | cnt sl1 => exact whileN_mono e hr
          | brk sl1 => exact e
          | ret d => exact e
theorem whileN_le {cond : SL → Sto → Res Bool} {body : SL → Sto → Res Out} {kill : List Nat} {n k j : Nat} {sl : SL} {h : Sto} {r : Res Out} (e : whileN cond body kill n k sl h = r) (hr : r ≠ .bad) (hj : k ≤ j) : whileN cond body kill n j sl h = r := by
  obtain ⟨i, rfl⟩ := Nat.exists_eq_add_of_le hj
  induction i with
  | zero => exact e
  | succ i ih => exact whileN_mono (ih (Nat.le_add_right _ _)) hr
theorem whileLim_of {cond : SL → Sto → Res Bool} {body : SL → Sto → Res Out} {kill : List Nat} {n k : Nat} {sl : SL} {h h' : Sto} {o : Out} (e : whileN cond body kill n k sl h = .ok o h') : whileLim cond body kill n sl h = .ok o h' := by
  have q : ∃ k, whileN cond body kill n k sl h ≠ .bad := ⟨k, by rw [e]; simp⟩
  unfold whileLim
  rw [dif_pos q]
  have q2 := q.choose_spec
  rcases Nat.le_total k q.choose with hk | hk
  · exact whileN_le e (by simp) hk
  · have := whileN_le (r := whileN cond body kill n q.choose sl h) rfl q2 hk
    rw [← this, e]
/-- one turn -/
theorem whileLim_step {cond : SL → Sto → Res Bool} {body : SL → Sto → Res Out} {kill : List Nat} {n : Nat} {sl sl1 : SL} {h h1 h2 h' : Sto} {o : Out} (c : cond sl h = .ok true h1) (b : body sl h1 = .ok (.nx sl1) h2)
    (r : whileLim cond body kill n (turnEnd n kill sl1 h2).1 (turnEnd n kill sl1 h2).2 = .ok o h') : whileLim cond body kill n sl h = .ok o h' := by
  obtain ⟨k, e⟩ := whileLim_eq r
  refine whileLim_of (k := k + 1) ?_
  rw [whileN, c]
  simp only [Res.bind_ok, if_true, b]
  exact e
theorem whileLim_stop {cond : SL → Sto → Res Bool} {body : SL → Sto → Res Out} {kill : List Nat} {n : Nat} {sl : SL} {h h1 : Sto} (c : cond sl h = .ok false h1) : whileLim cond body kill n sl h = .ok (.nx sl) h1 := by
  refine whileLim_of (k := 1) ?_
  rw [whileN, c]
  rfl
/-- a while loop by a measure: the slots and the store are a state's -/
theorem whileLim_fold {α : Type} {cond : SL → Sto → Res Bool} {body : SL → Sto → Res Out} {kill : List Nat} {n : Nat} {sl : α → SL} {st : α → Sto} {P : α → Prop} {go : α → Bool} {step : α → α} {m : α → Nat} (hc : ∀ a, P a → cond (sl a) (st a) = .ok (go a) (st a))
    (hb : ∀ a, P a → go a = true → P (step a) ∧ m (step a) < m a ∧ ∃ sl1 h1, body (sl a) (st a) = .ok (.nx sl1) h1 ∧ turnEnd n kill sl1 h1 = (sl (step a), st (step a))) :
    ∀ (k : Nat) (a : α), m a ≤ k → P a → ∃ b, P b ∧ go b = false ∧ (∃ j, b = Nat.repeat step j a) ∧ whileLim cond body kill n (sl a) (st a) = .ok (.nx (sl b)) (st b) := by
  intro k
  induction k with
  | zero =>
    intro a ha hp
    cases g : go a with
    | false => exact ⟨a, hp, g, ⟨0, rfl⟩, whileLim_stop (by rw [hc a hp, g])⟩
    | true => obtain ⟨_, lt, _⟩ := hb a hp g; omega
  | succ k ih =>
    intro a ha hp
    cases g : go a with
    | false => exact ⟨a, hp, g, ⟨0, rfl⟩, whileLim_stop (by rw [hc a hp, g])⟩
    | true =>
      obtain ⟨hp1, lt, sl1, h1, e1, e2⟩ := hb a hp g
      obtain ⟨b, q1, q2, ⟨j, q3⟩, q4⟩ := ih (step a) (by omega) hp1
      refine ⟨b, q1, q2, ⟨j + 1, ?_⟩, whileLim_step (by rw [hc a hp, g]) e1 (by rw [e2]; exact q4)⟩
      rw [q3]
      have : ∀ (j : Nat) (x : α), Nat.repeat step j (step x) = Nat.repeat step (j + 1) x := by
        intro j
        induction j with
        | zero => intro x; rfl
        | succ j ih => intro x; show step (Nat.repeat step j (step x)) = step (Nat.repeat step (j + 1) x); rw [ih]
      exact this j a
/-- forms that are walked as such -/
def isIt : X → Bool
  | .range _ => true
  | .zip _ _ => true
  | .enum _ => true
  | .items _ => true
  | .vals _ => true
  | _ => false
theorem evI_val {c : CallT} {x : X} {sl : SL} {h : Sto} (hx : isIt x = false) : evI c x sl h = (ev c x sl h).bind fun d h' => itemsOf h.length d h' := by
  cases x <;> first | (cases hx; done) | (rw [evI]; all_goals (intros; rename_i z; cases z))
@[simp] theorem clo_non (n : Nat) : D.clo n .non = true := by simp [D.clo]
@[simp] theorem clo_bl (n : Nat) (b : Bool) : D.clo n (.bl b) = true := by simp [D.clo]
@[simp] theorem clo_int (n : Nat) (i : Int) : D.clo n (.int i) = true := by simp [D.clo]
@[simp] theorem clo_str (n : Nat) (s : Str) : D.clo n (.str s) = true := by simp [D.clo]
@[simp] theorem clo_tup (n : Nat) (xs : List D) : D.clo n (.tup xs) = D.clos n xs := by rw [D.clo]
@[simp] theorem clo_fl (n : Nat) (xs : List D) : D.clo n (.fl xs) = D.clos n xs := by rw [D.clo]
@[simp] theorem clo_ref (n m : Nat) : D.clo n (.ref m) = decide (m < n) := by rw [D.clo]
@[simp] theorem clos_nil (n : Nat) : D.clos n [] = true := by rw [D.clos]
@[simp] theorem clos_cons (n : Nat) (x : D) (xs : List D) : D.clos n (x :: xs) = (D.clo n x && D.clos n xs) := by rw [D.clos]
@[simp] theorem clos_append (n : Nat) : ∀ (xs ys : List D), D.clos n (xs ++ ys) = (D.clos n xs && D.clos n ys)
  | [], ys => by simp [clos_nil]
  | x :: xs, ys => by rw [List.cons_append, clos_cons, clos_cons, clos_append n xs ys, Bool.and_assoc]
theorem clos_all (n : Nat) : ∀ (xs : List D), D.clos n xs = xs.all (D.clo n)
  | [] => by simp [clos_nil]
  | x :: xs => by rw [clos_cons, List.all_cons, clos_all n xs]
theorem clos_map {α : Type} (n : Nat) {f : α → D} (hf : ∀ a, (f a).clo n = true) (xs : List α) : D.clos n (xs.map f) = true := by
  rw [clos_all, List.all_eq_true]
  intro d hd
  obtain ⟨a, _, rfl⟩ := List.mem_map.mp hd
  exact hf a
@[simp] theorem sclo_nil (n : Nat) : Sto.clo n [] = true := rfl
@[simp] theorem sclo_cons (n : Nat) (o : O) (h : Sto) : Sto.clo n (o :: h) = (O.clo n o && Sto.clo n h) := rfl
@[simp] theorem oclo_lst (n : Nat) (xs : List D) : O.clo n (.lst xs) = D.clos n xs := rfl
/-! ### the evaluator's equations, loops and comprehensions apart -/
section
variable (c : CallT) (sl : SL) (h : Sto)
@[simp] theorem e_var (i : Nat) : ev c (.var i) sl h = match sl[i]? with | some (some d) => .ok d h | _ => .bad := by first | (rw [ev]; done) | (rw [ev]; rfl)
@[simp] theorem e_cst (d : D) : ev c (.cst d) sl h = .ok d h := by first | (rw [ev]; done) | (rw [ev]; rfl)
@[simp] theorem e_glob (d : D) : ev c (.glob d) sl h = .ok d h := by first | (rw [ev]; done) | (rw [ev]; rfl)
@[simp] theorem e_tup (xs : List X) : ev c (.tup xs) sl h = (evs c xs sl h).bind fun ds h => .ok (.tup ds) h := by first | (rw [ev]; done) | (rw [ev]; rfl)
@[simp] theorem e_lst (xs : List X) : ev c (.lst xs) sl h = (evs c xs sl h).bind fun ds h => .ok (.ref h.length) (h ++ [.lst ds]) := by first | (rw [ev]; done) | (rw [ev]; rfl)
@[simp] theorem e_bin (o : BOp) (a b : X) : ev c (.bin o a b) sl h = (ev c a sl h).bind fun x h => (ev c b sl h).bind fun y h => binop o x y h := by first | (rw [ev]; done) | (rw [ev]; rfl)
@[simp] theorem e_neg (a : X) : ev c (.neg a) sl h = (ev c a sl h).bind fun x h => match x with | .int i => .ok (.int (-i)) h | _ => .bad := by first | (rw [ev]; done) | (rw [ev]; rfl)
@[simp] theorem e_not (a : X) : ev c (.not a) sl h = (ev c a sl h).bind fun x h => match truth h x with | some b => .ok (.bl (!b)) h | none => .bad := by first | (rw [ev]; done) | (rw [ev]; rfl)
@[simp] theorem e_cmp (o : COp) (a b : X) : ev c (.cmp o a b) sl h = (ev c a sl h).bind fun x h => (ev c b sl h).bind fun y h => cmpop o x y h := by first | (rw [ev]; done) | (rw [ev]; rfl)
@[simp] theorem e_chain (o p : COp) (a b e : X) : ev c (.chain o p a b e) sl h = (ev c a sl h).bind fun x h => (ev c b sl h).bind fun y h => (cmpop o x y h).bind fun z h => match z with
    | .bl true => (ev c e sl h).bind fun w h => cmpop p y w h
    | .bl false => .ok (.bl false) h
    | _ => .bad := by first | (rw [ev]; done) | (rw [ev]; rfl)
@[simp] theorem e_and (a b : X) : ev c (.and a b) sl h = (ev c a sl h).bind fun x h => match x with | .bl true => ev c b sl h | .bl false => .ok (.bl false) h | _ => .bad := by first | (rw [ev]; done) | (rw [ev]; rfl)
@[simp] theorem e_or (a b : X) : ev c (.or a b) sl h = (ev c a sl h).bind fun x h => match x with | .bl true => .ok (.bl true) h | .bl false => ev c b sl h | _ => .bad := by first | (rw [ev]; done) | (rw [ev]; rfl)
@[simp] theorem e_one (a : X) : ev c (.one a) sl h = ev c a sl h := by first | (rw [ev]; done) | (rw [ev]; rfl)
@[simp] theorem e_ife (e a b : X) : ev c (.ife e a b) sl h = (ev c e sl h).bind fun x h => match truth h x with | some true => ev c a sl h | some false => ev c b sl h | none => .bad := by first | (rw [ev]; done) | (rw [ev]; rfl)
@[simp] theorem e_call (f : Nat) (as : List X) : ev c (.call f as) sl h = (evs c as sl h).bind fun ds h => c f ds h := by first | (rw [ev]; done) | (rw [ev]; rfl)
@[simp] theorem e_bi (b : Bi) (as : List X) : ev c (.bi b as) sl h = (evs c as sl h).bind fun ds h => biop b ds h := by first | (rw [ev]; done) | (rw [ev]; rfl)
@[simp] theorem e_me (m : Me) (o : X) (as : List X) : ev c (.me m o as) sl h = (ev c o sl h).bind fun x h => if m.kd.ok h x then (evs c as sl h).bind fun ds h => meop m x ds h else .bad := by first | (rw [ev]; done) | (rw [ev]; rfl)
@[simp] theorem e_mu (m : Mu) (o : X) (as : List X) : ev c (.mu m o as) sl h = (ev c o sl h).bind fun x h => if Kd.list.ok h x then (evs c as sl h).bind fun ds h => muop m x ds h else .bad := by first | (rw [ev]; done) | (rw [ev]; rfl)
@[simp] theorem e_idx (a i : X) : ev c (.idx a i) sl h = (ev c a sl h).bind fun x h => (ev c i sl h).bind fun y h => idxop x y h := by first | (rw [ev]; done) | (rw [ev]; rfl)
@[simp] theorem e_slice (a : X) (lo hi : Option X) : ev c (.slice a lo hi) sl h = (ev c a sl h).bind fun x h => (evo c lo sl h).bind fun l h => (evo c hi sl h).bind fun u h => sliceop x l u h := by first | (rw [ev]; done) | (rw [ev]; rfl)
@[simp] theorem e_rev (a : X) : ev c (.rev a) sl h = (ev c a sl h).bind fun x h => revop x h := by first | (rw [ev]; done) | (rw [ev]; rfl)
@[simp] theorem e_dnew (f : Fl) : ev c (.dnew f) sl h = .ok (.ref h.length) (h ++ [.dct f []]) := by first | (rw [ev]; done) | (rw [ev]; rfl)
@[simp] theorem e_trunc (a : X) : ev c (.trunc a) sl h = (ev c a sl h).bind fun d h' => trunc h.length d h' := by first | (rw [ev]; done) | (rw [ev]; rfl)
@[simp] theorem e_lrange (as : List X) : ev c (.lrange as) sl h = (evs c as sl h).bind fun ds h => match rngOf ds with | some (i, j) => .ok (.ref h.length) (h ++ [.lst (intsD i (j - i).toNat)]) | none => .bad := by first | (rw [ev]; done) | (rw [ev]; rfl)
@[simp] theorem e_trange (as : List X) : ev c (.trange as) sl h = (evs c as sl h).bind fun ds h => match rngOf ds with | some (i, j) => .ok (.tup (intsD i (j - i).toNat)) h | none => .bad := by first | (rw [ev]; done) | (rw [ev]; rfl)
@[simp] theorem e_nil : evs c [] sl h = .ok [] h := by first | (rw [evs]; done) | (rw [evs]; rfl)
@[simp] theorem e_cons (x : X) (xs : List X) : evs c (x :: xs) sl h = (ev c x sl h).bind fun d h => (evs c xs sl h).bind fun ds h => .ok (d :: ds) h := by first | (rw [evs]; done) | (rw [evs]; rfl)
@[simp] theorem e_none : evo c none sl h = .ok none h := by first | (rw [evo]; done) | (rw [evo]; rfl)
@[simp] theorem e_some (x : X) : evo c (some x) sl h = (ev c x sl h).bind fun d h => match d with | .int i => .ok (some i) h | _ => .bad := by first | (rw [evo]; done) | (rw [evo]; rfl)
@[simp] theorem e_cnone : evc c none sl h = .ok true h := by first | (rw [evc]; done) | (rw [evc]; rfl)
@[simp] theorem e_csome (x : X) : evc c (some x) sl h = (ev c x sl h).bind fun d h => match truth h d with | some b => .ok b h | none => .bad := by first | (rw [evc]; done) | (rw [evc]; rfl)
@[simp] theorem s_asg' (t : Tg) (e : X) : exs c (.asg t e) sl h = (ev c e sl h).bind fun d h => match assign t d sl with | some sl' => .ok (.nx sl') h | none => .bad := by first | (rw [exs]; done) | (rw [exs]; rfl)
@[simp] theorem s_par2' (i j : Nat) (a b : X) : exs c (.par2 i j a b) sl h = (ev c a sl h).bind fun x h => (ev c b sl h).bind fun y h => .ok (.nx ((sl.set i (some x)).set j (some y))) h := by first | (rw [exs]; done) | (rw [exs]; rfl)
@[simp] theorem s_par3' (i j l : Nat) (a b e : X) : exs c (.par3 i j l a b e) sl h = (ev c a sl h).bind fun x h => (ev c b sl h).bind fun y h => (ev c e sl h).bind fun z h => .ok (.nx (((sl.set i (some x)).set j (some y)).set l (some z))) h := by first | (rw [exs]; done) | (rw [exs]; rfl)
@[simp] theorem s_setIx' (a i e : X) : exs c (.setIx a i e) sl h = (ev c e sl h).bind fun v h => (ev c a sl h).bind fun x h => (ev c i sl h).bind fun y h => (setop x y v h).bind fun _ h => .ok (.nx sl) h := by first | (rw [exs]; done) | (rw [exs]; rfl)
@[simp] theorem s_aug' (i : Nat) (o : BOp) (e : X) : exs c (.aug i o e) sl h = match sl[i]? with
    | some (some x) => (ev c e sl h).bind fun y h => (augop o x y h).bind fun z h => .ok (.nx (sl.set i (some z))) h
    | _ => .bad := by first | (rw [exs]; done) | (rw [exs]; rfl)
@[simp] theorem s_ite' (e : X) (t u : List S) : exs c (.ite e t u) sl h = (ev c e sl h).bind fun d h => match truth h d with | some true => exss c t sl h | some false => exss c u sl h | none => .bad := by first | (rw [exs]; done) | (rw [exs]; rfl)
@[simp] theorem s_ret' (e : X) : exs c (.ret e) sl h = (ev c e sl h).bind fun d h => .ok (.ret d) h := by first | (rw [exs]; done) | (rw [exs]; rfl)
@[simp] theorem s_retN' : exs c .retN sl h = .ok (.ret .non) h := by first | (rw [exs]; done) | (rw [exs]; rfl)
@[simp] theorem s_expr' (e : X) : exs c (.expr e) sl h = (ev c e sl h).bind fun _ h => .ok (.nx sl) h := by first | (rw [exs]; done) | (rw [exs]; rfl)
@[simp] theorem s_brk' : exs c .brk sl h = .ok (.brk sl) h := by first | (rw [exs]; done) | (rw [exs]; rfl)
@[simp] theorem s_cnt' : exs c .cnt sl h = .ok (.cnt sl) h := by first | (rw [exs]; done) | (rw [exs]; rfl)
@[simp] theorem s_pass' : exs c .pass sl h = .ok (.nx sl) h := by first | (rw [exs]; done) | (rw [exs]; rfl)
@[simp] theorem ss_nil' : exss c [] sl h = .ok (.nx sl) h := by first | (rw [exss]; done) | (rw [exss]; rfl)
@[simp] theorem ss_cons' (s : S) (r : List S) : exss c (s :: r) sl h = (exs c s sl h).bind fun o h => match o with
    | .nx sl' => exss c r sl' h
    | .brk sl' => .ok (.brk sl') h
    | .cnt sl' => .ok (.cnt sl') h
    | .ret d => .ok (.ret d) h := by first | (rw [exss]; done) | (rw [exss]; rfl)
/-- a comprehension's turn -/
noncomputable def turn (elt : X) (tg : Tg) (cond : Option X) (own : List Nat) (x : D) (h : Sto) : Res (Option D) :=
  match assign tg x (kills own sl) with
  | some sl' => (evc c cond sl' h).bind fun b h => if b then (ev c elt sl' h).bind fun y h => .ok (some y) h else .ok none h
  | none => .bad
variable {c sl h}
theorem e_comp {elt it : X} {tg : Tg} {cond : Option X} {own : List Nat} {xs ys : List D} {ch : Chk} {h1 h2 : Sto} (hi : evI c it sl h = .ok (xs, ch) h1) (hz : xs.length ≤ sizeLine) (hl : compLoop (turn c sl elt tg cond own) ch xs h1 = .ok ys h2) :
    ev c (.comp elt tg it cond own) sl h = .ok (.ref h2.length) (h2 ++ [.lst ys]) := by
  rw [ev, hi]
  simp only [Res.bind_ok]
  rw [if_neg (by omega)]
  show ((compLoop (turn c sl elt tg cond own) ch xs h1).bind _) = _
  rw [hl]
  rfl
/-- a for loop's turn -/
noncomputable def fturn (c : CallT) (t : Tg) (body : List S) (x : D) (sl : SL) (h : Sto) : Res Out :=
  match assign t x sl with
  | some sl' => exss c body sl' h
  | none => .bad
theorem s_for' {t : Tg} {it : X} {body : List S} {kill : List Nat} {xs : List D} {ch : Chk} {h1 : Sto} (hi : evI c it sl h = .ok (xs, ch) h1) : exs c (.for t it body kill) sl h = forLoop (fturn c t body) ch kill h1.length xs sl h1 := by
  rw [exs, hi]; rfl
theorem s_forE {t : Tg} {it : X} {body : List S} {kill : List Nat} {xs : List D} {ch : Chk} {h1 : Sto} {r : Res Out} {n : Nat} (e : forLoop (fturn c t body) ch kill n xs sl h1 = r) (hi : evI c it sl h = .ok (xs, ch) h1) (hn : h1.length = n) : exs c (.for t it body kill) sl h = r := by
  rw [s_for' hi, hn, e]
noncomputable def wcond (c : CallT) (e : X) (sl : SL) (h : Sto) : Res Bool := (ev c e sl h).bind fun d h => match truth h d with
  | some b => .ok b h
  | none => .bad
theorem s_while' {e : X} {body : List S} {kill : List Nat} : exs c (.while e body kill) sl h = whileLim (wcond c e) (fun sl h => exss c body sl h) kill h.length sl h := by
  rw [exs]; rfl
end
@[simp] theorem asg_nm (i : Nat) (d : D) (sl : SL) : Ev.assign (.nm i) d sl = some (sl.set i (some d)) := by rw [Ev.assign]
@[simp] theorem asg_tup (ts : List Tg) (ds : List D) (sl : SL) : Ev.assign (.tup ts) (.tup ds) sl = Ev.assign.assigns ts ds sl := by rw [Ev.assign]
@[simp] theorem asgs_nil (sl : SL) : Ev.assign.assigns [] [] sl = some sl := by rw [Ev.assign.assigns]
@[simp] theorem asgs_cons (t : Tg) (ts : List Tg) (d : D) (ds : List D) (sl : SL) : Ev.assign.assigns (t :: ts) (d :: ds) sl = match Ev.assign t d sl with
    | some sl' => Ev.assign.assigns ts ds sl'
    | none => none := by first | (rw [Ev.assign.assigns]; done) | (rw [Ev.assign.assigns]; rfl)
mutual
theorem clo_mono {n m : Nat} (hm : n ≤ m) : ∀ d : D, d.clo n = true → d.clo m = true
  | .non, _ => by simp
  | .bl _, _ => by simp
  | .int _, _ => by simp
  | .str _, _ => by simp
  | .tup xs, h => by rw [clo_tup] at h ⊢; exact clos_mono hm xs h
  | .fl xs, h => by rw [clo_fl] at h ⊢; exact clos_mono hm xs h
  | .ref k, h => by rw [clo_ref, decide_eq_true_eq] at h ⊢; omega
theorem clos_mono {n m : Nat} (hm : n ≤ m) : ∀ xs : List D, D.clos n xs = true → D.clos m xs = true
  | [], _ => by simp
  | x :: xs, h => by
    rw [clos_cons, Bool.and_eq_true] at h ⊢
    exact ⟨clo_mono hm x h.1, clos_mono hm xs h.2⟩
end
theorem oclo_mono {n m : Nat} (hm : n ≤ m) (o : O) (h : O.clo n o = true) : O.clo m o = true := by
  cases o with
  | lst xs => exact clos_mono hm xs h
  | dct f kvs =>
    simp only [O.clo, Bool.and_eq_true] at h ⊢
    exact ⟨clos_mono hm _ h.1, clos_mono hm _ h.2⟩
theorem sclo_mono {n m : Nat} (hm : n ≤ m) : ∀ h : Sto, Sto.clo n h = true → Sto.clo m h = true
  | [], _ => rfl
  | o :: h, e => by
    rw [sclo_cons, Bool.and_eq_true] at e ⊢
    exact ⟨oclo_mono hm o e.1, sclo_mono hm h e.2⟩
theorem sclo_append (n : Nat) : ∀ (a b : Sto), Sto.clo n (a ++ b) = (Sto.clo n a && Sto.clo n b)
  | [], b => by simp
  | o :: a, b => by rw [List.cons_append, sclo_cons, sclo_cons, sclo_append n a b, Bool.and_assoc]
theorem turnEnd_same {n : Nat} {kill : List Nat} {sl : SL} {h : Sto} (e : h.length = n) : turnEnd n kill sl h = (kills kill sl, h) := by
  unfold turnEnd
  subst e
  rw [List.take_length]
  split <;> rfl
/-- a comprehension whose turns keep a property of the store -/
theorem compLoop_ex {f : D → Sto → Res (Option D)} {ch : Chk} {P : Sto → Prop} {R : D → Prop} (hc : ∀ h, P h → chkOk ch h) (hf : ∀ x h, P h → ∃ y h', R y ∧ P h' ∧ f x h = .ok (some y) h') : ∀ (xs : List D) (h : Sto), P h → ∃ ys h', ys.length = xs.length ∧ (∀ y ∈ ys, R y) ∧ P h' ∧ compLoop f ch xs h = .ok ys h'
  | [], h, hp => ⟨[], h, rfl, by simp, hp, by simp [compLoop]⟩
  | x :: xs, h, hp => by
    obtain ⟨y, h1, hr, hp1, e1⟩ := hf x h hp
    obtain ⟨ys, h2, hl, hrs, hp2, e2⟩ := compLoop_ex hc hf xs h1 hp1
    refine ⟨y :: ys, h2, by simp [hl], by simpa using ⟨hr, hrs⟩, hp2, ?_⟩
    simp only [compLoop, e1, Res.bind_ok, if_pos (hc _ hp1), e2]
theorem get_mid {α : Type} {h : List α} {x : α} {more : List α} {n : Nat} (e : h.length = n) : (h ++ x :: more)[n]? = some x := by
  subst e; simp
theorem set_mid {α : Type} {h : List α} {x y : α} {more : List α} {n : Nat} (e : h.length = n) : (h ++ x :: more).set n y = h ++ y :: more := by
  subst e; simp
theorem take_mid {α : Type} {h more : List α} {n : Nat} (e : h.length = n) : (h ++ more).take n = h := by
  subst e; simp
/-- an older list is walked -/
theorem items_old {h : Sto} {n m : Nat} {xs : List D} (e : h[m]? = some (.lst xs)) (hm : m < n) : itemsOf n (.ref m) h = .ok (xs, [(m, .lst xs)]) h := by
  unfold itemsOf
  simp only [e]
  have : ¬ n ≤ m := by omega
  simp [this]
theorem sizeLine_val : (sizeLine : Int) = 16777216 := rfl
theorem i_rng1 {c : CallT} {sl : SL} {h h1 : Sto} {b : X} {j : Int} (eb : ev c b sl h = .ok (.int j) h1) (h2 : -1000000 ≤ j) (h3 : j ≤ 1000000) : evI c (.range [b]) sl h = .ok (intsD 0 j.toNat, []) h1 := by
  rw [evI, e_cons, eb]
  simp only [Res.bind_ok, e_nil]
  rw [if_pos ⟨by omega, by rw [sizeLine_val]; omega⟩]
theorem i_rng2 {c : CallT} {sl : SL} {h h1 h2 : Sto} {a b : X} {i j : Int} (ea : ev c a sl h = .ok (.int i) h1) (eb : ev c b sl h1 = .ok (.int j) h2) (a1 : -1000000 ≤ i) (a2 : i ≤ 1000000) (a3 : -1000000 ≤ j) (a4 : j ≤ 1000000) : evI c (.range [a, b]) sl h = .ok (intsD i (j - i).toNat, []) h2 := by
  rw [evI, e_cons, ea]
  simp only [Res.bind_ok]
  rw [e_cons, eb]
  simp only [Res.bind_ok, e_nil]
  rw [if_pos ⟨by omega, by omega, by omega, by omega, by rw [sizeLine_val]; omega⟩]
end Ev
/-! Ev: texts of data. -/
namespace Ev
open PySem
/-- data that may be compared by their text: numbers, truths, None, plain texts, tuples and lists of these -/
def txtB (s : Str) : Bool := PySem.PyData.canLay0 (.str (reprText s)) && decide ((reprText s).length ≤ 1000)
mutual
def pd : PyData → Bool
  | .none => true
  | .bool _ => true
  | .int i => decide (i.natAbs.log2 < 1920)
  | .str s => txtB s
  | .list xs => pds xs
  | .tuple xs => pds xs
  | .dict _ => false
def pds : List PyData → Bool
  | [] => true
  | x :: xs => pd x && pds xs
end
mutual
/-- a bound of the text's length -/
def wt : PyData → Nat
  | .none => 4
  | .bool _ => 5
  | .int i => i.natAbs.log2 + 2
  | .str _ => 1000
  | .list xs => 2 + wts xs
  | .tuple xs => 3 + wts xs
  | .dict _ => 0
def wts : List PyData → Nat
  | [] => 0
  | x :: xs => wt x + 2 + wts xs
end
theorem len_app (a b : Str) : (a ++ b).length = a.length + b.length := PySem.strLen_append a b
theorem len_join : ∀ ts : List Str, (Str.join ", " ts).length ≤ (ts.map fun t => t.length + 2).sum
  | [] => Nat.zero_le _
  | [x] => by show x.length ≤ _; simp
  | x :: y :: r => by
    have ih := len_join (y :: r)
    show (x ++ ", " ++ Str.join ", " (y :: r)).length ≤ _
    have e2 : ((", " : String) : Str).length = 2 := rfl
    rw [len_app, len_app, e2]
    simp only [List.map_cons, List.sum_cons] at ih ⊢
    omega
theorem len_text : ∀ (ts : List Str) (k : Nat) (acc : Str), (PySem.textFrom k acc ts).length ≤ acc.length + (ts.map fun t => t.length + 2).sum
  | [], k, acc => by simp [PySem.textFrom]
  | t :: r, k, acc => by
    have ih := len_text r (k + 1) (acc ++ (if k > 0 then ", " else "" : String) ++ t)
    have e : (acc ++ (if k > 0 then ", " else "" : String) ++ t).length ≤ acc.length + 2 + t.length := by
      rw [len_app, len_app]
      split
      · have : ((", " : String) : Str).length = 2 := rfl
        omega
      · have : (("" : String) : Str).length = 0 := rfl
        omega
    show (PySem.textFrom (k + 1) (acc ++ (if k > 0 then ", " else "" : String) ++ t) r).length ≤ _
    simp only [List.map_cons, List.sum_cons]
    omega
theorem len_int (i : Int) : (Str.ofString (toString i)).length ≤ i.natAbs.log2 + 2 := by
  have h := PySem.int_text_length_le (a := i) (k := i.natAbs.log2 + 1) (by omega) (by omega)
  have e : (Str.ofString (toString i)).length = (toString i).length := by
    rw [PySem.Str.ofString_eq_toList]
    simp [Str.length]
    try rfl
  omega
mutual
theorem wt_le : ∀ (p : PyData), pd p = true → p.shown.length ≤ wt p
  | .none, _ => by simp only [PyData.shown, wt]; decide
  | .bool b, _ => by cases b <;> (simp only [PyData.shown, wt]; decide)
  | .int i, _ => by simp only [PyData.shown, wt]; exact len_int i
  | .str s, h => by
    simp only [pd, txtB, Bool.and_eq_true, decide_eq_true_eq] at h
    simp only [PyData.shown, wt]
    exact h.2
  | .list xs, h => by
    have h1 := wts_le xs (by simpa [pd] using h)
    simp only [PyData.shown, wt, PySem.listText]
    rw [len_app]
    have := len_text (PyData.shownAll xs) 0 "["
    have e1 : (("[" : String) : Str).length = 1 := rfl
    have e2 : (("]" : String) : Str).length = 1 := rfl
    omega
  | .tuple xs, h => by
    have h1 := wts_le xs (by simpa [pd] using h)
    simp only [PyData.shown, wt, PySem.tupleText]
    rw [len_app, len_app]
    have := len_join (PyData.shownAll xs)
    have e1 : (("(" : String) : Str).length = 1 := rfl
    have e2 : (((if (PyData.shownAll xs).length == 1 then ",)" else ")" : String) : Str)).length ≤ 2 := by split <;> decide
    omega
  | .dict _, h => by simp [pd] at h
theorem wts_le : ∀ (xs : List PyData), pds xs = true → ((PyData.shownAll xs).map fun t => t.length + 2).sum ≤ wts xs
  | [], _ => by simp [PyData.shownAll, wts]
  | x :: xs, h => by
    rw [pds, Bool.and_eq_true] at h
    have h1 := wt_le x h.1
    have h2 := wts_le xs h.2
    simp only [PyData.shownAll, List.map_cons, List.sum_cons, wts]
    omega
end
/-- all signs are signs -/
def ok (s : Str) : Bool := s.cps.all (· < 0x110000)
theorem ok_app {a b : Str} (ha : ok a = true) (hb : ok b = true) : ok (a ++ b) = true := by
  unfold ok at *
  show (a.cps ++ b.cps).all (· < 0x110000) = true
  rw [Array.all_append, ha, hb]; rfl
theorem ok_ofString (s : String) : ok (Str.ofString s) = true := by
  rw [PySem.Str.ofString_eq_toList]
  unfold ok
  rw [Array.all_eq_true_iff_forall_mem]
  intro x hx
  simp only [List.mem_toArray, List.mem_map] at hx
  obtain ⟨c, _, rfl⟩ := hx
  rw [decide_eq_true_eq]
  rcases c.valid with h | h
  · show c.val.toNat < _
    have := h; omega
  · show c.val.toNat < _
    have := h.2; omega
theorem ok_join : ∀ {ts : List Str}, (∀ t ∈ ts, ok t = true) → ok (Str.join ", " ts) = true
  | [], _ => by simp [ok, Str.join, Str.empty]
  | [x], h => h x (by simp)
  | x :: y :: r, h => ok_app (ok_app (h x (by simp)) (ok_ofString _)) (ok_join fun t ht => h t (by simp [ht]))
theorem ok_text : ∀ {ts : List Str} {k : Nat} {acc : Str}, ok acc = true → (∀ t ∈ ts, ok t = true) → ok (PySem.textFrom k acc ts) = true
  | [], _, _, ha, _ => ha
  | t :: r, k, acc, ha, h => ok_text (k := k + 1) (acc := acc ++ (if k > 0 then ", " else "" : String) ++ t) (ok_app (ok_app ha (ok_ofString _)) (h t (by simp))) fun u hu => h u (by simp [hu])
mutual
theorem ok_shown : ∀ (p : PyData), pd p = true → ok p.shown = true
  | .none, _ => by simp only [PyData.shown]; exact ok_ofString _
  | .bool b, _ => by cases b <;> (simp only [PyData.shown]; exact ok_ofString _)
  | .int i, _ => by simp only [PyData.shown]; exact ok_ofString _
  | .str s, h => by
    simp only [pd, txtB, Bool.and_eq_true, decide_eq_true_eq] at h
    simp only [PyData.shown]
    have := h.1
    simp only [PyData.canLay0] at this
    exact this
  | .list xs, h => by
    simp only [PyData.shown, PySem.listText]
    exact ok_app (ok_text (ok_ofString _) (oks_shown xs (by simpa [pd] using h))) (ok_ofString _)
  | .tuple xs, h => by
    simp only [PyData.shown, PySem.tupleText]
    exact ok_app (ok_app (ok_ofString _) (ok_join (oks_shown xs (by simpa [pd] using h)))) (ok_ofString _)
  | .dict _, h => by simp [pd] at h
theorem oks_shown : ∀ (xs : List PyData), pds xs = true → ∀ t ∈ PyData.shownAll xs, ok t = true
  | [], _, t, h => by simp [PyData.shownAll] at h
  | x :: xs, h, t, ht => by
    rw [pds, Bool.and_eq_true] at h
    simp only [PyData.shownAll, List.mem_cons] at ht
    rcases ht with rfl | ht
    · exact ok_shown x h.1
    · exact oks_shown xs h.2 t ht
end
mutual
theorem pd_show : ∀ (p : PyData), pd p = true → p.showable = true
  | .none, _ => by simp [PyData.showable]
  | .bool b, _ => by simp [PyData.showable]
  | .int i, h => by simpa [PyData.showable, pd] using h
  | .str s, _ => by simp [PyData.showable]
  | .list xs, h => by simp only [PyData.showable]; exact pds_show xs (by simpa [pd] using h)
  | .tuple xs, h => by simp only [PyData.showable]; exact pds_show xs (by simpa [pd] using h)
  | .dict _, h => by simp [pd] at h
theorem pds_show : ∀ (xs : List PyData), pds xs = true → PyData.showableAll xs = true
  | [], _ => by simp [PyData.showableAll]
  | x :: xs, h => by
    rw [pds, Bool.and_eq_true] at h
    rw [PyData.showableAll, pd_show x h.1, pds_show xs h.2]; rfl
end
/-! ### comparisons of plain values -/
theorem toP_non (h : Sto) (k : Nat) : toP h k .non = some .none := by unfold toP; rfl
theorem toP_bl (h : Sto) (k : Nat) (b : Bool) : toP h k (.bl b) = some (.bool b) := by unfold toP; rfl
theorem toP_int (h : Sto) (k : Nat) (i : Int) : toP h k (.int i) = some (.int i) := by unfold toP; rfl
theorem toP_str (h : Sto) (k : Nat) (s : Str) : toP h k (.str s) = some (.str s) := by unfold toP; rfl
theorem toP_tup (h : Sto) (k : Nat) (xs : List D) : toP h (k + 1) (.tup xs) = (allP (toP h k) xs).map .tuple := by rw [toP]
theorem toP_fl (h : Sto) (k : Nat) (xs : List D) : toP h (k + 1) (.fl xs) = (allP (toP h k) xs).map .list := by rw [toP]
theorem toP_ref {h : Sto} (k : Nat) {m : Nat} {xs : List D} (e : h[m]? = some (.lst xs)) : toP h (k + 1) (.ref m) = (allP (toP h k) xs).map .list := by rw [toP, e]
@[simp] theorem eq_int (i j : Int) (h : Sto) : cmpop .eq (.int i) (.int j) h = .ok (.bl (decide (i = j))) h := by
  simp only [cmpop, toP_int, PyData.canLay0, PyData.eqv, Bool.and_self, if_true]
  congr 2
@[simp] theorem ne_int (i j : Int) (h : Sto) : cmpop .ne (.int i) (.int j) h = .ok (.bl (!decide (i = j))) h := by
  simp only [cmpop, toP_int, PyData.canLay0, PyData.eqv, Bool.and_self, if_true]
  congr 2
@[simp] theorem lt_int (i j : Int) (h : Sto) : cmpop .lt (.int i) (.int j) h = .ok (.bl (decide (i < j))) h := by simp [cmpop]
@[simp] theorem le_int (i j : Int) (h : Sto) : cmpop .le (.int i) (.int j) h = .ok (.bl (decide (i ≤ j))) h := by simp [cmpop]
@[simp] theorem gt_int (i j : Int) (h : Sto) : cmpop .gt (.int i) (.int j) h = .ok (.bl (decide (j < i))) h := by simp [cmpop]
@[simp] theorem ge_int (i j : Int) (h : Sto) : cmpop .ge (.int i) (.int j) h = .ok (.bl (decide (j ≤ i))) h := by simp [cmpop]
theorem eq_str (a b : Str) (h : Sto) (ha : ok a = true) (hb : ok b = true) : cmpop .eq (.str a) (.str b) h = .ok (.bl (decide (a = b))) h := by
  have ca : PyData.canLay0 (.str a) = true := by simp only [PyData.canLay0]; exact ha
  have cb : PyData.canLay0 (.str b) = true := by simp only [PyData.canLay0]; exact hb
  simp only [cmpop, toP_str, ca, cb, Bool.and_self, if_true, PyData.eqv]
  congr 2
/-- the comparison by texts -/
def lawIs : Fn := ⟨2, 2, [.ret (.cmp .eq (.bi .repr [.var 0]) (.bi .repr [.var 1]))]⟩
theorem lawIs_run {c : CallT} {x y : D} {h : Sto} {p : PyData} (hx : toP h dP x = some p) (hy : toP h dP y = some p) (hp : pd p = true) (hw : wt p ≤ sizeLine) : runF c lawIs [x, y] h = .ok (.bl true) h := by
  have hl : p.shown.length ≤ sizeLine := Nat.le_trans (wt_le p hp) hw
  have ho := ok_shown p hp
  have cond : (p.showable && decide (p.shown.length ≤ sizeLine)) = true := by rw [pd_show p hp, decide_eq_true hl]; rfl
  simp only [runF, lawIs, exss, exs, ev, evs, List.length_cons, List.length_nil, List.map_cons, List.map_nil, List.cons_append, List.nil_append, if_true, Nat.sub_self, List.replicate_zero, List.append_nil, List.getElem?_cons_zero, List.getElem?_cons_succ, Res.bind_ok, biop, hx, hy, cond, eq_str _ _ _ ho ho]
  simp [Res.bind_ok]
mutual
/-- closed data are the same in every store -/
theorem toP_clo (h h' : Sto) : ∀ (k : Nat) (d : D), d.clo 0 = true → toP h k d = toP h' k d
  | k, .non, _ => by rw [toP_non, toP_non]
  | k, .bl b, _ => by rw [toP_bl, toP_bl]
  | k, .int b, _ => by rw [toP_int, toP_int]
  | k, .str b, _ => by rw [toP_str, toP_str]
  | 0, .tup xs, _ => by unfold toP; rfl
  | 0, .fl xs, _ => by unfold toP; rfl
  | k + 1, .tup xs, c => by rw [toP_tup, toP_tup, allP_clo h h' k xs (by simpa [D.clo] using c)]
  | k + 1, .fl xs, c => by rw [toP_fl, toP_fl, allP_clo h h' k xs (by simpa [D.clo] using c)]
  | k, .ref m, c => by simp [D.clo] at c
theorem allP_clo (h h' : Sto) (k : Nat) : ∀ (xs : List D), D.clos 0 xs = true → allP (toP h k) xs = allP (toP h' k) xs
  | [], _ => rfl
  | x :: xs, c => by
    rw [D.clos, Bool.and_eq_true] at c
    rw [allP, allP, toP_clo h h' k x c.1, allP_clo h h' k xs c.2]
end
theorem lawIs_call {fns : List Fn} {k i : Nat} (hf : fns[i]? = some lawIs) {x y : D} {h : Sto} {p : PyData} (hx : toP h dP x = some p) (hy : toP h dP y = some p) (hp : pd p = true) (hw : wt p ≤ sizeLine) : callN fns (k + 1) i [x, y] h = .ok (.bl true) h := by
  by_cases hc : D.clos 0 [x, y] = true
  · have c := hc
    simp only [D.clos, Bool.and_eq_true] at c
    refine call_clo hf hc rfl (h' := []) (lawIs_run (p := p) ?_ ?_ hp hw) h
    · rw [← hx]; exact toP_clo _ _ _ _ c.1
    · rw [← hy]; exact toP_clo _ _ _ _ c.2.1
  · exact call_ref hf (by simpa using hc) (lawIs_run hx hy hp hw) (trunc_same _ _)
theorem allP_ints (h : Sto) (k : Nat) : ∀ xs : List Int, allP (toP h k) (xs.map D.int) = some (xs.map PyData.int)
  | [] => rfl
  | x :: xs => by rw [List.map_cons, allP, toP_int, allP_ints h k xs]; rfl
theorem lay_ints : ∀ xs : List Int, PyData.canLayAll0 (xs.map PyData.int) = true
  | [] => by simp [PyData.canLayAll0]
  | x :: xs => by rw [List.map_cons, PyData.canLayAll0, lay_ints xs]; simp [PyData.canLay0]
theorem mem_ints (i : Int) (xs : List Int) (h : Sto) : cmpop .mem (.int i) (.tup (xs.map D.int)) h = .ok (.bl (decide (i ∈ xs))) h := by
  have l0 : PyData.canLay0 (.int i) = true := by simp [PyData.canLay0]
  simp only [cmpop, seqOf, toP_int, allP_ints, l0, lay_ints, Bool.and_self, if_true]
  congr 2
  rw [List.any_map, Bool.eq_iff_iff, List.any_eq_true, decide_eq_true_eq]
  constructor
  · rintro ⟨x, hx, e⟩
    simp [PyData.eqv] at e
    rw [← e]; exact hx
  · intro hm
    exact ⟨i, hm, by simp [PyData.eqv]⟩
theorem nin_ints (i : Int) (xs : List Int) (h : Sto) : cmpop .nin (.int i) (.tup (xs.map D.int)) h = .ok (.bl (!decide (i ∈ xs))) h := by
  have m := mem_ints i xs h
  have l0 : PyData.canLay0 (.int i) = true := by simp [PyData.canLay0]
  simp only [cmpop, seqOf, toP_int, allP_ints, l0, lay_ints, Bool.and_self, if_true] at m ⊢
  injection m with m1 m2
  injection m1 with m1
  rw [m1]
theorem eqvAll_ints : ∀ xs ys : List Int, PyData.eqvAll (xs.map PyData.int) (ys.map PyData.int) = decide (xs = ys)
  | [], [] => by simp [PyData.eqvAll]
  | [], _ :: _ => by simp [PyData.eqvAll]
  | _ :: _, [] => by simp [PyData.eqvAll]
  | x :: xs, y :: ys => by
    rw [List.map_cons, List.map_cons, PyData.eqvAll, eqvAll_ints xs ys]
    have e : PyData.eqv (.int x) (.int y) = decide (x = y) := by simp only [PyData.eqv]; rfl
    rw [e]
    by_cases h1 : x = y <;> by_cases h2 : xs = ys <;> simp [h1, h2]
theorem eq_tupI (xs ys : List Int) (h : Sto) : cmpop .eq (.tup (xs.map D.int)) (.tup (ys.map D.int)) h = .ok (.bl (decide (xs = ys))) h := by
  have e : dP = 29 + 1 := rfl
  have l1 : ∀ xs : List Int, PyData.canLay0 (.tuple (xs.map PyData.int)) = true := fun xs => by simp [PyData.canLay0, lay_ints]
  simp only [cmpop, e, toP_tup, allP_ints, Option.map_some, l1, Bool.and_self, if_true]
  rw [show PyData.eqv (.tuple (xs.map PyData.int)) (.tuple (ys.map PyData.int)) = PyData.eqvAll (xs.map PyData.int) (ys.map PyData.int) by simp [PyData.eqv], eqvAll_ints]
end Ev
/-! Ev: the laws' own helpers. -/
namespace Ev
open PySem
theorem mulOk_r {i j : Int} (h1 : -(2 ^ 64) < j) (h2 : j < 2 ^ 64) : mulOk i j := .inr (.inl ⟨h1, h2⟩)
theorem mulOk_l {i j : Int} (h1 : -(2 ^ 64) < i) (h2 : i < 2 ^ 64) : mulOk i j := .inl ⟨h1, h2⟩
/-- the hand: the script's cells, the next place, what is left of a cell, the seed, a count -/
def Hd (h rest : Sto) : Prop := ∃ (cells : List Int) (pos left seed cnt : Int), 0 ≤ pos ∧ h = .lst (cells.map D.int) :: .lst [.ref 0, .int pos, .int left, .int seed, .int cnt] :: rest
/-- the draw of a digit below many -/
def drawA (a b c p e n1 f1 m1 d2 g2 m2 d3 g3 m3 s : Int) (w : Nat) : Fn := ⟨2, 5, [.ite (.and (.cmp .eq (.idx (.var 0) (.cst (.int 2))) (.cst (.int 0))) (.one (.cmp .lt (.idx (.var 0) (.cst (.int 1))) (.bi .len [.idx (.var 0) (.cst (.int 0))])))) [.asg (.nm 2) (.idx (.idx (.var 0) (.cst (.int 0))) (.idx (.var 0) (.cst (.int 1)))), .setIx (.var 0) (.cst (.int 1)) (.bin .add (.idx (.var 0) (.cst (.int 1))) (.cst (.int 1))), .setIx (.var 0) (.cst (.int 3)) (.bin .mod (.bi .int [.bin .add (.bin .add (.bin .mul (.idx (.var 0) (.cst (.int 3))) (.cst (.int a))) (.bin .mul (.var 2) (.cst (.int b)))) (.cst (.int c))]) (.cst (.int p))), .setIx (.var 0) (.cst (.int 2)) (.ife (.cmp .ge (.var 2) (.bin .pow (.cst (.int 10)) (.cst (.int e)))) (.var 2) (.cst (.int 0)))] [], .ite (.cmp .gt (.idx (.var 0) (.cst (.int 2))) (.cst (.int 0))) [.asg (.nm 3) (.bin .mod (.bi .int [.idx (.var 0) (.cst (.int 2))]) (.var 1)), .setIx (.var 0) (.cst (.int 2)) (.bin .fdiv (.idx (.var 0) (.cst (.int 2))) (.var 1)), .ret (.var 3)] [], .setIx (.var 0) (.cst (.int 4)) (.bin .add (.idx (.var 0) (.cst (.int 4))) (.cst (.int 1))), .asg (.nm 4) (.bin .mod (.bi .int [.bin .mul (.bi .int [.bin .add (.idx (.var 0) (.cst (.int 3))) (.bin .mul (.cst (.int n1)) (.idx (.var 0) (.cst (.int 4))))]) (.cst (.int f1))]) (.cst (.int m1))), .asg (.nm 4) (.bin .mod (.bi .int [.bin .mul (.var 4) (.bin .add (.bin .fdiv (.var 4) (.cst (.int d2))) (.cst (.int g2)))]) (.cst (.int m2))), .asg (.nm 4) (.bin .mod (.bi .int [.bin .mul (.var 4) (.bin .add (.bin .fdiv (.var 4) (.cst (.int d3))) (.cst (.int g3)))]) (.cst (.int m3))), .ret (.bin .mod (.bi .int [.bin .fdiv (.var 4) (.cst (.int s))]) (.var 1))]⟩
theorem atI_pos {xs : List D} {i : Int} (h0 : 0 ≤ i) : L2.atI xs i = xs[i.toNat]? := by
  unfold L2.atI L2.ixN
  rw [if_pos h0]
  split
  · rfl
  · rename_i h
    rw [List.getElem?_eq_none (by omega)]
    rfl
theorem atI_at {xs : List Int} {i : Int} (h0 : 0 ≤ i) (h1 : i < xs.length) : ∃ c, L2.atI (xs.map D.int) i = some (.int c) := by
  have hl : i.toNat < xs.length := by omega
  exact ⟨xs[i.toNat], by rw [atI_pos h0, List.getElem?_map, List.getElem?_eq_getElem hl]; rfl⟩
@[simp] theorem atI0 (x : D) (xs : List D) : L2.atI (x :: xs) 0 = some x := by rw [atI_pos (by omega)]; rfl
@[simp] theorem atI1 (x y : D) (xs : List D) : L2.atI (x :: y :: xs) 1 = some y := by rw [atI_pos (by omega)]; rfl
@[simp] theorem atI2 (x y z : D) (xs : List D) : L2.atI (x :: y :: z :: xs) 2 = some z := by rw [atI_pos (by omega)]; rfl
@[simp] theorem atI3 (x y z w : D) (xs : List D) : L2.atI (x :: y :: z :: w :: xs) 3 = some w := by rw [atI_pos (by omega)]; rfl
@[simp] theorem atI4 (x y z w u : D) (xs : List D) : L2.atI (x :: y :: z :: w :: u :: xs) 4 = some u := by rw [atI_pos (by omega)]; rfl
theorem pow_nn {i j : Int} {h : Sto} (hi : i.natAbs < 2 ^ 64) (h0 : 0 ≤ j) (h1 : j ≤ 1000000) : binop .pow (.int i) (.int j) h = .ok (.int (i ^ j.toNat)) h := by
  simp only [binop]; rw [if_pos ⟨h0, h1, hi⟩]
theorem mod_pos {i j : Int} {h : Sto} (hj : 0 < j) : binop .mod (.int i) (.int j) h = .ok (.int (i % j)) h := by
  simp only [binop]; rw [if_pos hj]
theorem div_pos {i j : Int} {h : Sto} (hj : 0 < j) (hb : j.natAbs < 2 ^ 4000) : binop .fdiv (.int i) (.int j) h = .ok (.int (i / j)) h := by
  simp only [binop]; rw [if_pos ⟨hj, hb⟩]
theorem mul_ok {i j : Int} {h : Sto} (hm : mulOk i j) : binop .mul (.int i) (.int j) h = .ok (.int (i * j)) h := by
  simp only [binop]; rw [if_pos hm]
@[simp] theorem add_int {i j : Int} {h : Sto} : binop .add (.int i) (.int j) h = .ok (.int (i + j)) h := rfl
@[simp] theorem sub_int {i j : Int} {h : Sto} : binop .sub (.int i) (.int j) h = .ok (.int (i - j)) h := rfl
theorem small_lt {j : Int} (h0 : 0 < j) (h1 : j < 2 ^ 60) : j.natAbs < 2 ^ 4000 := by
  have : j.natAbs < 2 ^ 60 := by omega
  exact Nat.lt_of_lt_of_le this (Nat.pow_le_pow_right (by omega) (by omega))
/-- the constants of a draw -/
structure DrawK where
  (a b c p e n1 f1 m1 d2 g2 m2 d3 g3 m3 s : Int)
def DrawK.fn (q : DrawK) : Fn := drawA q.a q.b q.c q.p q.e q.n1 q.f1 q.m1 q.d2 q.g2 q.m2 q.d3 q.g3 q.m3 q.s 0
def sm (i : Int) : Bool := decide (0 < i) && decide (i < 2 ^ 60)
def DrawK.ok (q : DrawK) : Bool := sm q.a && sm q.b && sm q.p && sm q.n1 && sm q.f1 && sm q.m1 && sm q.d2 && sm q.m2 && sm q.d3 && sm q.m3 && sm q.s && decide (0 ≤ q.e) && decide (q.e ≤ 1000)
theorem sm_lt {i : Int} (h : sm i = true) : 0 < i ∧ i < 2 ^ 60 := by simpa [sm] using h
theorem sm_mul {i j : Int} (h : sm j = true) : mulOk i j := by
  have := sm_lt h
  exact mulOk_r (by omega) (by omega)
theorem sm_mul2 {i j : Int} (h : sm i = true) : mulOk i j := by
  have := sm_lt h
  exact mulOk_l (by omega) (by omega)
theorem ixN_lt {n : Nat} {i : Int} (h0 : 0 ≤ i) (h1 : i < n) : L2.ixN n i = some i.toNat := by unfold L2.ixN; rw [if_pos h0, if_pos h1]
theorem exss_append {c : CallT} : ∀ (a b : List S) (sl : SL) (h : Sto), exss c (a ++ b) sl h = (exss c a sl h).bind fun o h => match o with
    | .nx sl' => exss c b sl' h
    | o => .ok o h
  | [], b, sl, h => by simp
  | s :: a, b, sl, h => by
    rw [List.cons_append, ss_cons', ss_cons']
    cases e : exs c s sl h with
    | bad => rfl
    | exc x y => rfl
    | ok o h1 =>
      simp only [Res.bind_ok]
      cases o with
      | nx sl1 => exact exss_append a b sl1 h1
      | brk sl1 => rfl
      | cnt sl1 => rfl
      | ret d => rfl
theorem draw_run (q : DrawK) (hq : q.ok = true) {c : CallT} {m : Int} (h0 : 0 < m) (h1 : m < 2 ^ 60) {h rest : Sto} (H : Hd h rest) : ∃ v h', 0 ≤ v ∧ v < m ∧ Hd h' rest ∧ h'.length = h.length ∧ runF c q.fn [.ref 1, .int m] h = .ok (.int v) h' := by
  obtain ⟨cells, pos, left, seed, cnt, hp, rfl⟩ := H
  simp only [DrawK.ok, Bool.and_eq_true, decide_eq_true_eq] at hq
  obtain ⟨⟨⟨⟨⟨⟨⟨⟨⟨⟨⟨⟨qa, qb⟩, qp⟩, qn⟩, qf⟩, qm1⟩, qd2⟩, qm2⟩, qd3⟩, qm3⟩, qs⟩, qe0⟩, qe1⟩ := hq
  have mb := small_lt h0 h1
  have tail : ∀ (pos left seed : Int) (x3 : Option D), 0 ≤ pos → ∃ v h', 0 ≤ v ∧ v < m ∧ Hd h' rest ∧ h'.length = rest.length + 2 ∧
      exss c (q.fn.body.drop 1) [some (.ref 1), some (.int m), x3, none, none] (.lst (cells.map D.int) :: .lst [.ref 0, .int pos, .int left, .int seed, .int cnt] :: rest) = .ok (.ret (.int v)) h' := by
    intro pos left seed x3 hp
    by_cases hl : 0 < left
    · refine ⟨left % m, .lst (cells.map D.int) :: .lst [.ref 0, .int pos, .int (left / m), .int seed, .int cnt] :: rest, Int.emod_nonneg _ (by omega), Int.emod_lt_of_pos _ h0, ⟨cells, pos, left / m, seed, cnt, hp, rfl⟩, by simp, ?_⟩
      simp [DrawK.fn, drawA, hl, mod_pos h0, div_pos h0 mb, ixN_lt]
    · have n1 := sm_lt qm1
      have n2 := sm_lt qm2
      have b1 : ∀ x y : Int, mulOk (x % q.m1) y := fun x y => mulOk_l (by have := Int.emod_nonneg x (show q.m1 ≠ 0 by omega); omega) (by have := Int.emod_lt_of_pos x n1.1; omega)
      have b2 : ∀ x y : Int, mulOk (x % q.m2) y := fun x y => mulOk_l (by have := Int.emod_nonneg x (show q.m2 ≠ 0 by omega); omega) (by have := Int.emod_lt_of_pos x n2.1; omega)
      refine ⟨((((seed + q.n1 * (cnt + 1)) * q.f1 % q.m1) * ((seed + q.n1 * (cnt + 1)) * q.f1 % q.m1 / q.d2 + q.g2) % q.m2) * ((((seed + q.n1 * (cnt + 1)) * q.f1 % q.m1) * ((seed + q.n1 * (cnt + 1)) * q.f1 % q.m1 / q.d2 + q.g2) % q.m2) / q.d3 + q.g3) % q.m3) / q.s % m, .lst (cells.map D.int) :: .lst [.ref 0, .int pos, .int left, .int seed, .int (cnt + 1)] :: rest, Int.emod_nonneg _ (by omega), Int.emod_lt_of_pos _ h0, ⟨cells, pos, left, seed, cnt + 1, hp, rfl⟩, by simp, ?_⟩
      simp [DrawK.fn, drawA, hl, mod_pos h0, ixN_lt, mul_ok (sm_mul2 qn), mul_ok (sm_mul qf), mod_pos n1.1, mod_pos n2.1, mod_pos (sm_lt qm3).1, mul_ok (b1 _ _), mul_ok (b2 _ _), div_pos (sm_lt qd2).1 (small_lt (sm_lt qd2).1 (sm_lt qd2).2), div_pos (sm_lt qd3).1 (small_lt (sm_lt qd3).1 (sm_lt qd3).2), div_pos (sm_lt qs).1 (small_lt (sm_lt qs).1 (sm_lt qs).2)]
  by_cases hc : left = 0 ∧ pos < cells.length
  · obtain ⟨hc1, hc2⟩ := hc
    obtain ⟨cell, ec⟩ := atI_at hp hc2
    obtain ⟨v, h', v0, v1, hd, hl, e⟩ := tail (pos + 1) (if 10 ^ q.e.toNat ≤ cell then cell else 0) ((seed * q.a + cell * q.b + q.c) % q.p) (some (.int cell)) (by omega)
    refine ⟨v, h', v0, v1, hd, by simpa using hl, ?_⟩
    have e1 : exss c (q.fn.body.take 1) [some (.ref 1), some (.int m), none, none, none] (.lst (cells.map D.int) :: .lst [.ref 0, .int pos, .int left, .int seed, .int cnt] :: rest) = .ok (.nx [some (.ref 1), some (.int m), some (.int cell), none, none]) (.lst (cells.map D.int) :: .lst [.ref 0, .int (pos + 1), .int (if 10 ^ q.e.toNat ≤ cell then cell else 0), .int ((seed * q.a + cell * q.b + q.c) % q.p), .int cnt] :: rest) := by
      have pw : ∀ h : Sto, binop .pow (.int 10) (.int q.e) h = .ok (.int (10 ^ q.e.toNat)) h := fun h => pow_nn (by decide) qe0 (by omega)
      by_cases hb : (10 : Int) ^ q.e.toNat ≤ cell
      · simp [DrawK.fn, drawA, hc1, hc2, ec, ixN_lt, mul_ok (sm_mul qa), mul_ok (sm_mul qb), mod_pos (sm_lt qp).1, pw, hb]
      · simp [DrawK.fn, drawA, hc1, hc2, ec, ixN_lt, mul_ok (sm_mul qa), mul_ok (sm_mul qb), mod_pos (sm_lt qp).1, pw, hb]
    have e3 := exss_append (c := c) (q.fn.body.take 1) (q.fn.body.drop 1) [some (.ref 1), some (.int m), none, none, none] (.lst (cells.map D.int) :: .lst [.ref 0, .int pos, .int left, .int seed, .int cnt] :: rest)
    rw [e1] at e3
    rw [List.take_append_drop] at e3
    simp only [Res.bind_ok] at e3
    rw [e] at e3
    exact runF_ret rfl e3
  · obtain ⟨v, h', v0, v1, hd, hl, e⟩ := tail pos left seed none hp
    refine ⟨v, h', v0, v1, hd, by simpa using hl, ?_⟩
    have e1 : exss c (q.fn.body.take 1) [some (.ref 1), some (.int m), none, none, none] (.lst (cells.map D.int) :: .lst [.ref 0, .int pos, .int left, .int seed, .int cnt] :: rest) = .ok (.nx [some (.ref 1), some (.int m), none, none, none]) (.lst (cells.map D.int) :: .lst [.ref 0, .int pos, .int left, .int seed, .int cnt] :: rest) := by
      by_cases h1 : left = 0
      · have h2 : ¬ pos < (cells.length : Int) := fun z => hc ⟨h1, z⟩
        simp [DrawK.fn, drawA, h1, h2]
      · simp [DrawK.fn, drawA, h1]
    have e3 := exss_append (c := c) (q.fn.body.take 1) (q.fn.body.drop 1) [some (.ref 1), some (.int m), none, none, none] (.lst (cells.map D.int) :: .lst [.ref 0, .int pos, .int left, .int seed, .int cnt] :: rest)
    rw [e1] at e3
    rw [List.take_append_drop] at e3
    simp only [Res.bind_ok] at e3
    rw [e] at e3
    exact runF_ret rfl e3
theorem draw_call {fns : List Fn} {k i : Nat} (q : DrawK) (hq : q.ok = true) (hf : fns[i]? = some q.fn) {m : Int} (h0 : 0 < m) (h1 : m < 2 ^ 60) {h rest : Sto} (H : Hd h rest) : ∃ v h', 0 ≤ v ∧ v < m ∧ Hd h' rest ∧ callN fns (k + 1) i [.ref 1, .int m] h = .ok (.int v) h' := by
  obtain ⟨v, h', v0, v1, hd, hl, e⟩ := draw_run q hq (c := callN fns k) h0 h1 H
  exact ⟨v, h', v0, v1, hd, call_ref hf (by simp [D.clos, D.clo]) e (trunc_len hl)⟩
/-! ### the hand -/
theorem clos_ints (xs : List Int) (n : Nat) : D.clos n (xs.map D.int) = true := clos_map n (fun _ => clo_int n _) xs
theorem cutD_map {f : Int → D} (xs : List Int) (lo hi : Option Int) : cutD (xs.map f) lo hi = ((xs.drop (HT.sIx xs.length 0 lo)).take (HT.sIx xs.length xs.length hi - HT.sIx xs.length 0 lo)).map f := by
  unfold cutD
  rw [List.length_map, ← List.map_drop, ← List.map_take]
/-- a list that was just laid behind the store is walked -/
theorem items_new {h : Sto} {xs : List D} (hw : Sto.clo h.length h = true) (hc : D.clos h.length xs = true) : itemsOf h.length (.ref h.length) (h ++ [.lst xs]) = .ok (xs, []) h := by
  unfold itemsOf
  simp [hw, hc]
def handA (cut ten e a b : Int) : Fn := ⟨1, 3, [.asg (.nm 1) (.comp (.bin .mod (.bi .int [.bi .abs [.bi .int [.var 2]]]) (.bin .pow (.cst (.int ten)) (.cst (.int e)))) (.nm 2) (.slice (.var 0) none (some (.cst (.int cut)))) none [2]), .ret (.lst [.var 1, .cst (.int 0), .cst (.int 0), .bin .add (.cst (.int a)) (.bin .mul (.cst (.int b)) (.bi .len [.var 1])), .cst (.int 0)])]⟩
theorem handA_call {fns : List Fn} {k i : Nat} {cut ten e a b : Int} (hf : fns[i]? = some (handA cut ten e a b)) (ht : 0 < ten) (ht2 : ten < 1000) (he : 0 ≤ e) (he2 : e ≤ 1000) (hb : sm b = true) {ns : List Int} (hn : ns.length ≤ 63) :
    ∃ h', Hd h' [] ∧ callN fns (k + 1) i [.fl (ns.map D.int)] [] = .ok (.ref 1) h' := by
  have pw : ∀ h : Sto, binop .pow (.int ten) (.int e) h = .ok (.int (ten ^ e.toNat)) h := fun h => pow_nn (by omega) he (by omega)
  have p0 : 0 < ten ^ e.toNat := Int.pow_pos ht
  generalize hcs : (ns.drop (HT.sIx ns.length 0 none)).take (HT.sIx ns.length ns.length (some cut) - HT.sIx ns.length 0 none) = cs
  have hcl : cs.length ≤ 63 := by rw [← hcs, List.length_take, List.length_drop]; omega
  have items : ∀ (c : CallT), evI c (.slice (.var 0) none (some (.cst (.int cut)))) [some (.fl (ns.map D.int)), none, none] [] = .ok (cs.map D.int, []) [] := by
    intro c
    rw [evI_val rfl]
    have e2 := items_new (h := []) (xs := cs.map D.int) rfl (clos_ints _ _)
    simp [sliceop, cutD_map, hcs]
    exact e2
  let g : D → D := fun d => match d with | .int c => .int ((if c < 0 then -c else c) % ten ^ e.toNat) | d => d
  have run : ∀ c : CallT, runF c (handA cut ten e a b) [.fl (ns.map D.int)] [] = .ok (.ref 1) [.lst (cs.map fun c => D.int ((if c < 0 then -c else c) % ten ^ e.toNat)), .lst [.ref 0, .int 0, .int 0, .int (a + b * cs.length), .int 0]] := by
    intro c
    have e1 : ev c (.comp (.bin .mod (.bi .int [.bi .abs [.bi .int [.var 2]]]) (.bin .pow (.cst (.int ten)) (.cst (.int e)))) (.nm 2) (.slice (.var 0) none (some (.cst (.int cut)))) none [2]) [some (.fl (ns.map D.int)), none, none] [] = .ok (.ref 0) [.lst ((cs.map D.int).map g)] := by
      refine e_comp (items c) (by rw [List.length_map]; have : (63 : Nat) ≤ sizeLine := by decide
                                  omega) (compLoop_map trivial fun x hx => ?_)
      obtain ⟨v, _, rfl⟩ := List.mem_map.mp hx
      simp [turn, kills, pw, mod_pos p0, g]
    refine runF_ret rfl ?_
    show exss c (handA cut ten e a b).body [some (.fl (ns.map D.int)), none, none] [] = _
    simp [handA, e1, g, mul_ok (sm_mul2 hb), Function.comp_def]
  refine ⟨_, ⟨cs.map (fun c => (if c < 0 then -c else c) % ten ^ e.toNat), 0, 0, a + b * cs.length, 0, by omega, rfl⟩, ?_⟩
  have r := run (callN fns k)
  simp only [callN, hf, ownF, D.clos, D.clo, clos_ints, Bool.and_self, if_true]
  rw [r]
  simp only [outOf, D.clo]
  simp [O.clo, D.clos, D.clo, Res.bind_ok, trunc, Function.comp_def, Sto.clo]
/-! ### small tests of values -/
def isInt : D → Bool
  | .int _ => true
  | _ => false
def isTupD : D → Bool
  | .tup _ => true
  | _ => false
def isIntegerF : Fn := ⟨1, 1, [.ret (.and (.bi .isInt [.var 0]) (.one (.not (.bi .isBool [.var 0]))))]⟩
theorem integer_call {fns : List Fn} {k i : Nat} (hf : fns[i]? = some isIntegerF) (d : D) (h : Sto) : callN fns (k + 1) i [d] h = .ok (.bl (isInt d)) h := by
  refine call_pure hf (by simp) (fun h => runF_ret rfl ?_) h
  cases d <;> simp [isIntegerF, isInt]
def isWithin (d : D) (a b : Int) : Bool := match d with
  | .int i => decide (a ≤ i) && decide (i ≤ b)
  | _ => false
def isWithinF (i : Nat) : Fn := ⟨3, 3, [.ret (.and (.call i [.var 0]) (.one (.chain .le .le (.var 1) (.var 0) (.var 2))))]⟩
theorem within_call {fns : List Fn} {k i j : Nat} (hf : fns[j]? = some (isWithinF i)) (hi : fns[i]? = some isIntegerF) (d : D) (a b : Int) (h : Sto) : callN fns (k + 2) j [d, .int a, .int b] h = .ok (.bl (isWithin d a b)) h := by
  refine call_pure hf (by simp) (fun h => runF_ret rfl ?_) h
  cases d with
  | int v =>
    by_cases h1 : a ≤ v <;> simp [isWithinF, integer_call hi, isInt, isWithin, h1]
  | _ => simp [isWithinF, integer_call hi, isInt, isWithin]
/-- a tuple of so many -/
def isTuple (d : D) (a b : Int) : Bool := match d with
  | .tup xs => decide (a ≤ (xs.length : Int)) && decide ((xs.length : Int) ≤ b)
  | _ => false
def isTupleF : Fn := ⟨3, 3, [.ret (.and (.bi .isTup [.var 0]) (.one (.chain .le .le (.var 1) (.bi .len [.var 0]) (.var 2))))]⟩
theorem tuple_call {fns : List Fn} {k j : Nat} (hf : fns[j]? = some isTupleF) (d : D) (a b : Int) (h : Sto) : callN fns (k + 1) j [d, .int a, .int b] h = .ok (.bl (isTuple d a b)) h := by
  refine call_pure hf (by simp) (fun h => runF_ret rfl ?_) h
  cases d with
  | tup xs =>
    by_cases h1 : a ≤ (xs.length : Int) <;> simp [isTupleF, isTuple, h1]
  | _ => simp [isTupleF, isTuple]
theorem allBl_map {α : Type} (f : α → Bool) (xs : List α) : allBl (xs.map fun x => D.bl (f x)) = some (xs.map f) := by
  induction xs with
  | nil => rfl
  | cons x xs ih => unfold allBl at *; simp [allP, ih]
theorem allInt_map (xs : List Int) : allInt (xs.map D.int) = some xs := by
  induction xs with
  | nil => rfl
  | cons x xs ih => unfold allInt at *; simp [allP, ih]
theorem all_id {α : Type} (f : α → Bool) (xs : List α) : (xs.map f).all id = xs.all f := by
  rw [List.all_map]; rfl
/-- all([..]) of a comprehension that leaves the store as it is -/
theorem e_all {c : CallT} {sl : SL} {h h1 : Sto} {elt it : X} {tg : Tg} {own : List Nat} {xs : List D} {ch : Chk} {f : D → Bool} (hw : Sto.clo h.length h = true) (hi : evI c it sl h = .ok (xs, ch) h) (hz : xs.length ≤ sizeLine) (hc : chkOk ch h)
    (hl : ∀ x ∈ xs, turn c sl elt tg none own x h = .ok (some (.bl (f x))) h) : ev c (.trunc (.bi .all [.comp elt tg it none own])) sl h = .ok (.bl (xs.all f)) h := by
  have e := e_comp (c := c) (sl := sl) (elt := elt) (tg := tg) (cond := none) (own := own) hi hz (compLoop_map (g := fun x => .bl (f x)) hc hl)
  simp [e, lstOf, allBl_map, all_id, trunc, hw]
theorem e_any {c : CallT} {sl : SL} {h h1 : Sto} {elt it : X} {tg : Tg} {own : List Nat} {xs : List D} {ch : Chk} {f : D → Bool} (hw : Sto.clo h.length h = true) (hi : evI c it sl h = .ok (xs, ch) h) (hz : xs.length ≤ sizeLine) (hc : chkOk ch h)
    (hl : ∀ x ∈ xs, turn c sl elt tg none own x h = .ok (some (.bl (f x))) h) : ev c (.trunc (.bi .any [.comp elt tg it none own])) sl h = .ok (.bl (xs.any f)) h := by
  have e := e_comp (c := c) (sl := sl) (elt := elt) (tg := tg) (cond := none) (own := own) hi hz (compLoop_map (g := fun x => .bl (f x)) hc hl)
  simp [e, lstOf, allBl_map, List.any_map, Function.comp_def, trunc, hw]
/-- a tuple that is walked -/
theorem i_tup {c : CallT} {i : Nat} {sl : SL} {h : Sto} {xs : List D} (e : sl[i]? = some (some (.tup xs))) : evI c (.var i) sl h = .ok (xs, []) h := by
  rw [evI_val rfl]; simp [e, itemsOf]
theorem Hd.len {h rest : Sto} (H : Hd h rest) : h.length = rest.length + 2 := by obtain ⟨_, _, _, _, _, _, rfl⟩ := H; rfl
theorem Hd.clo {h rest : Sto} (H : Hd h rest) (hr : Sto.clo 0 rest = true) : Sto.clo h.length h = true := by
  obtain ⟨cells, pos, left, seed, cnt, _, rfl⟩ := H
  simp [clos_ints, sclo_mono (Nat.zero_le _) rest hr]
theorem Hd.more {h rest : Sto} (H : Hd h rest) (more : Sto) : Hd (h ++ more) (rest ++ more) := by
  obtain ⟨cells, pos, left, seed, cnt, h0, rfl⟩ := H
  exact ⟨cells, pos, left, seed, cnt, h0, rfl⟩
theorem Hd.drop {h rest more : Sto} (H : Hd h (rest ++ more)) : ∃ h', Hd h' rest ∧ h = h' ++ more := by
  obtain ⟨cells, pos, left, seed, cnt, h0, rfl⟩ := H
  exact ⟨_, ⟨cells, pos, left, seed, cnt, h0, rfl⟩, rfl⟩
/-- some[draw]: an item of a list of the store -/
def anyF (i : Nat) : Fn := ⟨2, 2, [.ret (.idx (.var 1) (.call i [.var 0, .bi .len [.var 1]]))]⟩
theorem anyL_run {fns : List Fn} {k i j : Nat} (q : DrawK) (hq : q.ok = true) (hf : fns[j]? = some (anyF i)) (hi : fns[i]? = some q.fn) {m : Nat} {xs : List D} {h rest : Sto} (H : Hd h rest) (hm : rest[m]? = some (.lst xs)) (h0 : 0 < xs.length) (h1 : xs.length < 1000) :
    ∃ x h', x ∈ xs ∧ Hd h' rest ∧ runF (callN fns (k + 1)) (anyF i) [.ref 1, .ref (m + 2)] h = .ok x h' := by
  have hm' : ∀ {h}, Hd h rest → h[m + 2]? = some (.lst xs) := by
    rintro h ⟨_, _, _, _, _, _, rfl⟩
    simpa using hm
  obtain ⟨v, h', v0, v1, H', e⟩ := draw_call (k := k) q hq hi (m := xs.length) (by omega) (by omega) H
  have hv : v.toNat < xs.length := by omega
  refine ⟨xs[v.toNat], h', List.getElem_mem _, H', ?_⟩
  refine runF_ret rfl ?_
  show exss _ (anyF i).body [some (.ref 1), some (.ref (m + 2))] h = _
  simp [anyF, hm' H, e, hm' H', atI_pos v0, hv]
theorem anyInt_call {fns : List Fn} {k i j : Nat} (q : DrawK) (hq : q.ok = true) (hf : fns[j]? = some (anyF i)) (hi : fns[i]? = some q.fn) {m : Nat} {xs : List Int} {h rest : Sto} (H : Hd h rest) (hm : rest[m]? = some (.lst (xs.map D.int))) (h0 : 0 < xs.length) (h1 : xs.length < 1000) :
    ∃ x h', x ∈ xs ∧ Hd h' rest ∧ callN fns (k + 2) j [.ref 1, .ref (m + 2)] h = .ok (.int x) h' := by
  obtain ⟨x, h', hx, H', e⟩ := anyL_run (k := k) (j := j) q hq hf hi H hm (by simpa using h0) (by simpa using h1)
  obtain ⟨v, hv, rfl⟩ := List.mem_map.mp hx
  exact ⟨v, h', hv, H', call_ref hf (by simp) e (trunc_len (by rw [H'.len, H.len]))⟩
/-- a tuple of draws -/
def journeyF (i : Nat) : Fn := ⟨3, 4, [.ret (.trunc (.bi .tuple [.comp (.call i [.var 0, .var 1]) (.nm 3) (.range [.var 2]) none [3]]))]⟩
theorem journey_call {fns : List Fn} {k i j : Nat} (q : DrawK) (hq : q.ok = true) (hf : fns[j]? = some (journeyF i)) (hi : fns[i]? = some q.fn) {kinds legs : Int} (h0 : 0 < kinds) (h1 : kinds < 2 ^ 60) (h2 : 0 ≤ legs) (h3 : legs ≤ 1000) {h rest : Sto} (H : Hd h rest) (hr : Sto.clo 0 rest = true) :
    ∃ (js : List Int) (h' : Sto), (js.length : Int) = legs ∧ (∀ x ∈ js, 0 ≤ x ∧ x < kinds) ∧ Hd h' rest ∧ callN fns (k + 2) j [.ref 1, .int kinds, .int legs] h = .ok (.tup (js.map D.int)) h' := by
  have z : (1000 : Nat) < sizeLine := by decide
  obtain ⟨ys, h', hl, hys, H', e⟩ := compLoop_ex (f := turn (callN fns (k + 1)) [some (.ref 1), some (.int kinds), some (.int legs), none] (.call i [.var 0, .var 1]) (.nm 3) none [3]) (ch := []) (P := fun h => Hd h rest) (R := fun y => ∃ v : Int, y = .int v ∧ 0 ≤ v ∧ v < kinds) (fun _ _ => trivial)
    (fun x h H => by
      obtain ⟨v, h', v0, v1, H', e⟩ := draw_call (k := k) q hq hi h0 h1 H
      exact ⟨.int v, h', ⟨v, rfl, v0, v1⟩, H', by simp [turn, kills, e]⟩) (intsD 0 legs.toNat) h H
  have js : ∃ js : List Int, ys = js.map D.int ∧ ∀ x ∈ js, 0 ≤ x ∧ x < kinds := by
    clear e hl
    induction ys with
    | nil => exact ⟨[], rfl, by simp⟩
    | cons y ys ih =>
      obtain ⟨js, rfl, hj⟩ := ih fun y hy => hys y (by simp [hy])
      obtain ⟨v, rfl, v0, v1⟩ := hys y (by simp)
      exact ⟨v :: js, rfl, by simpa using ⟨⟨v0, v1⟩, hj⟩⟩
  obtain ⟨js, rfl, hj⟩ := js
  refine ⟨js, h', ?_, hj, H', ?_⟩
  · rw [List.length_map, intsD_length] at hl
    omega
  · have ec := e_comp (c := callN fns (k + 1)) (sl := [some (.ref 1), some (.int kinds), some (.int legs), none]) (h := h) (elt := .call i [.var 0, .var 1]) (tg := .nm 3) (cond := none) (own := [3]) (it := .range [.var 2]) (xs := intsD 0 legs.toNat) (ch := []) (h1 := h) (by
      rw [evI]
      have a1 : -4611686018427387904 ≤ legs := by omega
      have a2 : legs ≤ (sizeLine : Int) := by omega
      simp [a1, a2]) (by rw [intsD_length]; omega) e
    have run : runF (callN fns (k + 1)) (journeyF i) [.ref 1, .int kinds, .int legs] h = .ok (.tup (js.map D.int)) h' := by
      refine runF_ret rfl ?_
      show exss _ (journeyF i).body [some (.ref 1), some (.int kinds), some (.int legs), none] h = _
      have hh : h.length = h'.length := by rw [H.len, H'.len]
      have hc := H'.clo hr
      simp [journeyF, ec, trunc, hh, hc, clos_ints]
    exact call_ref hf (by simp) run (trunc_len (by rw [H.len, H'.len]))
theorem add_lst {h : Sto} {a b : Nat} {xs ys : List D} (ha : h[a]? = some (.lst xs)) (hb : h[b]? = some (.lst ys)) (hl : xs.length + ys.length ≤ 1000) : binop .add (.ref a) (.ref b) h = .ok (.ref h.length) (h ++ [.lst (xs ++ ys)]) := by
  have z : (1000 : Nat) < sizeLine := by decide
  simp only [binop, ha, hb]
  rw [if_pos (by omega)]
end Ev
namespace Lawk01
open PySem PySem.Spec PyProof.Rows L2 Ev
abbrev pw : Program := PySem.Challenge.pw_legsandfares_k01_whole_partings_breaks_a
def top (i : Nat) : Stmt := PySem.Challenge.pw_legsandfares_k01_whole_partings_breaks_a.main.body.getD i (.Pass ⟨0, 0, 0, 0⟩)
/-- is_integer(thing): 0 thing -/
def f_is_integer : Fn := ⟨1, 1, [.ret (.and (.bi .isInt [.var 0]) (.one (.not (.bi .isBool [.var 0]))))]⟩
def df_is_integer : Df := ⟨"is_integer", defArgs (top 1), defBody (top 1), defScope (top 1), ["thing"], ["thing"]⟩
/-- is_within(thing, least, most): 0 thing 1 least 2 most -/
def f_is_within : Fn := ⟨3, 3, [.ret (.and (.call 0 [.var 0]) (.one (.chain .le .le (.var 1) (.var 0) (.var 2))))]⟩
def df_is_within : Df := ⟨"is_within", defArgs (top 2), defBody (top 2), defScope (top 2), ["thing", "least", "most"], ["thing", "least", "most"]⟩
/-- is_tuple(thing, least, most): 0 thing 1 least 2 most -/
def f_is_tuple : Fn := ⟨3, 3, [.ret (.and (.bi .isTup [.var 0]) (.one (.chain .le .le (.var 1) (.bi .len [.var 0]) (.var 2))))]⟩
def df_is_tuple : Df := ⟨"is_tuple", defArgs (top 3), defBody (top 3), defScope (top 3), ["thing", "least", "most"], ["thing", "least", "most"]⟩
/-- is_lot(thing, many): 0 thing 1 many 2 one 3 other -/
def f_is_lot : Fn := ⟨2, 4, [.ite (.or (.not (.bi .isTup [.var 0])) (.one (.not (.trunc (.bi .all [.comp (.call 1 [.var 2, .cst (.int 0), .bin .sub (.var 1) (.cst (.int 1))]) (.nm 2) (.var 0) none [2]]))))) [.ret (.cst (.bl false))] [], .ret (.trunc (.bi .all [.comp (.cmp .lt (.var 2) (.var 3)) (.tup [.nm 2, .nm 3]) (.zip (.var 0) (.slice (.var 0) (some (.cst (.int 1))) none)) none [2, 3]]))]⟩
def df_is_lot : Df := ⟨"is_lot", defArgs (top 4), defBody (top 4), defScope (top 4), ["thing", "many"], ["thing", "many", "one", "other"]⟩
/-- is_raw_journey(kinds, thing, most): 0 kinds 1 thing 2 most 3 leg -/
def f_is_raw_journey : Fn := ⟨3, 4, [.ret (.and (.call 2 [.var 1, .cst (.int 0), .var 2]) (.one (.trunc (.bi .all [.comp (.call 1 [.var 3, .cst (.int 0), .bin .sub (.var 0) (.cst (.int 1))]) (.nm 3) (.var 1) none [3]]))))]⟩
def df_is_raw_journey : Df := ⟨"is_raw_journey", defArgs (top 15), defBody (top 15), defScope (top 15), ["kinds", "thing", "most"], ["kinds", "thing", "most", "leg"]⟩
/-- check_short(kinds, journey): 0 kinds 1 journey -/
def f_check_short : Fn := ⟨2, 2, [.ite (.not (.call 4 [.var 0, .var 1, .glob (.int 60)])) [.raise] []]⟩
def df_check_short : Df := ⟨"check_short", defArgs (top 16), defBody (top 16), defScope (top 16), ["kinds", "journey"], ["kinds", "journey"]⟩
/-- is_row_of_pieces(thing): 0 thing 1 one -/
def f_is_row_of_pieces : Fn := ⟨1, 2, [.ret (.and (.call 2 [.var 0, .cst (.int 0), .glob (.int 60)]) (.one (.trunc (.bi .all [.comp (.and (.call 0 [.var 1]) (.one (.cmp .gt (.var 1) (.cst (.int 0))))) (.nm 1) (.var 0) none [1]]))))]⟩
def df_is_row_of_pieces : Df := ⟨"is_row_of_pieces", defArgs (top 17), defBody (top 17), defScope (top 17), ["thing"], ["thing", "one"]⟩
/-- is_raw_parting(legs, thing): 0 legs 1 thing -/
def f_is_raw_parting : Fn := ⟨2, 2, [.ret (.and (.call 6 [.var 1]) (.one (.cmp .eq (.bi .sum [.var 1]) (.var 0))))]⟩
def df_is_raw_parting : Df := ⟨"is_raw_parting", defArgs (top 18), defBody (top 18), defScope (top 18), ["legs", "thing"], ["legs", "thing"]⟩
/-- is_parting(journey, thing): 0 journey 1 thing -/
def f_is_parting : Fn := ⟨2, 2, [.expr (.call 5 [.glob (.int 4), .var 0]), .ret (.call 7 [.bi .len [.var 0], .var 1])]⟩
def df_is_parting : Df := ⟨"is_parting", defArgs (top 19), defBody (top 19), defScope (top 19), ["journey", "thing"], ["journey", "thing"]⟩
/-- raw_pieces(journey, parting): 0 journey 1 parting 2 found 3 at 4 size -/
def f_raw_pieces : Fn := ⟨2, 5, [.par2 2 3 (.lst []) (.cst (.int 0)), .for (.nm 4) (.var 1) [.expr (.mu .append (.var 2) [.slice (.var 0) (some (.var 3)) (some (.bin .add (.var 3) (.var 4)))]), .aug 3 .add (.var 4)] [4], .ret (.var 2)]⟩
def df_raw_pieces : Df := ⟨"raw_pieces", defArgs (top 20), defBody (top 20), defScope (top 20), ["journey", "parting"], ["journey", "parting", "found", "at", "size"]⟩
/-- pieces(journey, parting): 0 journey 1 parting -/
def f_pieces : Fn := ⟨2, 2, [.expr (.call 5 [.glob (.int 4), .var 0]), .ite (.not (.call 7 [.bi .len [.var 0], .var 1])) [.raise] [], .ret (.bi .tuple [.call 9 [.var 0, .var 1]])]⟩
def df_pieces : Df := ⟨"pieces", defArgs (top 21), defBody (top 21), defScope (top 21), ["journey", "parting"], ["journey", "parting"]⟩
/-- partings(legs): 0 legs 1 found 2 many 3 rows 4 first 5 rest -/
def f_partings : Fn := ⟨1, 6, [.ite (.not (.call 1 [.var 0, .cst (.int 0), .glob (.int 12)])) [.raise] [], .asg (.nm 1) (.lst [.lst [.tup []]]), .for (.nm 2) (.range [.cst (.int 1), .bin .add (.var 0) (.cst (.int 1))]) [.asg (.nm 3) (.lst []), .for (.nm 4) (.range [.cst (.int 1), .bin .add (.var 2) (.cst (.int 1))]) [.expr (.mu .extend (.var 3) [.comp (.bin .add (.tup [.var 4]) (.var 5)) (.nm 5) (.idx (.var 1) (.bin .sub (.var 2) (.var 4))) none [5]])] [4], .expr (.mu .append (.var 1) [.var 3])] [2, 3, 4], .ret (.idx (.var 1) (.var 0))]⟩
def df_partings : Df := ⟨"partings", defArgs (top 22), defBody (top 22), defScope (top 22), ["legs"], ["legs", "found", "many", "rows", "first", "rest"]⟩
/-- breaks_of(parting): 0 parting 1 found 2 at 3 size -/
def f_breaks_of : Fn := ⟨1, 4, [.ite (.not (.call 6 [.var 0])) [.raise] [], .par2 1 2 (.lst []) (.cst (.int 0)), .for (.nm 3) (.slice (.var 0) none (some (.neg (.cst (.int 1))))) [.aug 2 .add (.var 3), .expr (.mu .append (.var 1) [.var 2])] [3], .ret (.bi .tuple [.var 1])]⟩
def df_breaks_of : Df := ⟨"breaks_of", defArgs (top 23), defBody (top 23), defScope (top 23), ["parting"], ["parting", "found", "at", "size"]⟩
/-- parting_by(legs, breaks): 0 legs 1 breaks 2 ends 3 one 4 other -/
def f_parting_by : Fn := ⟨2, 5, [.ite (.not (.call 1 [.var 0, .cst (.int 0), .glob (.int 60)])) [.raise] [], .ite (.or (.not (.call 3 [.var 1, .var 0])) (.one (.cmp .mem (.cst (.int 0)) (.var 1)))) [.raise] [], .ite (.cmp .eq (.var 0) (.cst (.int 0))) [.ret (.tup [])] [], .asg (.nm 2) (.bin .add (.bin .add (.tup [.cst (.int 0)]) (.var 1)) (.tup [.var 0])), .ret (.trunc (.bi .tuple [.comp (.bin .sub (.var 4) (.var 3)) (.tup [.nm 3, .nm 4]) (.zip (.var 2) (.slice (.var 2) (some (.cst (.int 1))) none)) none [3, 4]]))]⟩
def df_parting_by : Df := ⟨"parting_by", defArgs (top 24), defBody (top 24), defScope (top 24), ["legs", "breaks"], ["legs", "breaks", "ends", "one", "other"]⟩
/-- _law_hand(script): 0 script 1 cells 2 cell -/
def f_law_hand : Fn := ⟨1, 3, [.asg (.nm 1) (.comp (.bin .mod (.bi .int [.bi .abs [.bi .int [.var 2]]]) (.bin .pow (.cst (.int 10)) (.cst (.int 42)))) (.nm 2) (.slice (.var 0) none (some (.cst (.int 60)))) none [2]), .ret (.lst [.var 1, .cst (.int 0), .cst (.int 0), .bin .add (.cst (.int 9444)) (.bin .mul (.cst (.int 11)) (.bi .len [.var 1])), .cst (.int 0)])]⟩
def df_law_hand : Df := ⟨"_law_hand", defArgs (top 26), defBody (top 26), defScope (top 26), ["script"], ["script", "cells", "cell"]⟩
/-- _law_draw(hand, many): 0 hand 1 many 2 cell 3 digit 4 number -/
def f_law_draw : Fn := ⟨2, 5, [.ite (.and (.cmp .eq (.idx (.var 0) (.cst (.int 2))) (.cst (.int 0))) (.one (.cmp .lt (.idx (.var 0) (.cst (.int 1))) (.bi .len [.idx (.var 0) (.cst (.int 0))])))) [.asg (.nm 2) (.idx (.idx (.var 0) (.cst (.int 0))) (.idx (.var 0) (.cst (.int 1)))), .setIx (.var 0) (.cst (.int 1)) (.bin .add (.idx (.var 0) (.cst (.int 1))) (.cst (.int 1))), .setIx (.var 0) (.cst (.int 3)) (.bin .mod (.bi .int [.bin .add (.bin .add (.bin .mul (.idx (.var 0) (.cst (.int 3))) (.cst (.int 48271))) (.bin .mul (.var 2) (.cst (.int 69621)))) (.cst (.int 37))]) (.cst (.int 2147483629))), .setIx (.var 0) (.cst (.int 2)) (.ife (.cmp .ge (.var 2) (.bin .pow (.cst (.int 10)) (.cst (.int 18)))) (.var 2) (.cst (.int 0)))] [], .ite (.cmp .gt (.idx (.var 0) (.cst (.int 2))) (.cst (.int 0))) [.asg (.nm 3) (.bin .mod (.bi .int [.idx (.var 0) (.cst (.int 2))]) (.var 1)), .setIx (.var 0) (.cst (.int 2)) (.bin .fdiv (.idx (.var 0) (.cst (.int 2))) (.var 1)), .ret (.var 3)] [], .setIx (.var 0) (.cst (.int 4)) (.bin .add (.idx (.var 0) (.cst (.int 4))) (.cst (.int 1))), .asg (.nm 4) (.bin .mod (.bi .int [.bin .mul (.bi .int [.bin .add (.idx (.var 0) (.cst (.int 3))) (.bin .mul (.cst (.int 7919)) (.idx (.var 0) (.cst (.int 4))))]) (.cst (.int 40692))]) (.cst (.int 2147483647))), .asg (.nm 4) (.bin .mod (.bi .int [.bin .mul (.var 4) (.bin .add (.bin .fdiv (.var 4) (.cst (.int 1009))) (.cst (.int 69621)))]) (.cst (.int 2147483647))), .asg (.nm 4) (.bin .mod (.bi .int [.bin .mul (.var 4) (.bin .add (.bin .fdiv (.var 4) (.cst (.int 2003))) (.cst (.int 40014)))]) (.cst (.int 2147483563))), .ret (.bin .mod (.bi .int [.bin .fdiv (.var 4) (.cst (.int 16))]) (.var 1))]⟩
def df_law_draw : Df := ⟨"_law_draw", defArgs (top 27), defBody (top 27), defScope (top 27), ["hand", "many"], ["hand", "many", "cell", "digit", "number"]⟩
/-- _law_any(hand, some): 0 hand 1 some -/
def f_law_any : Fn := ⟨2, 2, [.ret (.idx (.var 1) (.call 15 [.var 0, .bi .len [.var 1]]))]⟩
def df_law_any : Df := ⟨"_law_any", defArgs (top 28), defBody (top 28), defScope (top 28), ["hand", "some"], ["hand", "some"]⟩
/-- _law_is(told, due): 0 told 1 due -/
def f_law_is : Fn := ⟨2, 2, [.ret (.cmp .eq (.bi .repr [.var 0]) (.bi .repr [.var 1]))]⟩
def df_law_is : Df := ⟨"_law_is", defArgs (top 29), defBody (top 29), defScope (top 29), ["told", "due"], ["told", "due"]⟩
/-- _law_journey(hand, kinds, legs): 0 hand 1 kinds 2 legs 3 leg -/
def f_law_journey : Fn := ⟨3, 4, [.ret (.trunc (.bi .tuple [.comp (.call 15 [.var 0, .var 1]) (.nm 3) (.range [.var 2]) none [3]]))]⟩
def df_law_journey : Df := ⟨"_law_journey", defArgs (top 30), defBody (top 30), defScope (top 30), ["hand", "kinds", "legs"], ["hand", "kinds", "legs", "leg"]⟩
/-- _law_partings(legs): 0 legs 1 found 2 whole 3 row 4 done 5 many -/
def f_law_partings : Fn := ⟨1, 6, [.asg (.nm 1) (.lst [.tup [.tup [], .cst (.int 0)]]), .asg (.nm 2) (.lst []), .while (.cmp .ne (.var 1) (.lst [])) [.asg (.tup [.nm 3, .nm 4]) (.mu .pop (.var 1) []), .ite (.cmp .eq (.var 4) (.var 0)) [.expr (.mu .append (.var 2) [.var 3])] [.expr (.mu .extend (.var 1) [.comp (.tup [.bin .add (.var 3) (.tup [.var 5]), .bin .add (.var 4) (.var 5)]) (.nm 5) (.range [.cst (.int 1), .bin .add (.bin .sub (.var 0) (.var 4)) (.cst (.int 1))]) none [5]])]] [3, 4], .ret (.bi .sorted [.var 2])]⟩
def df_law_partings : Df := ⟨"_law_partings", defArgs (top 31), defBody (top 31), defScope (top 31), ["legs"], ["legs", "found", "whole", "row", "done", "many"]⟩
/-- _law_breaks(parting): 0 parting 1 found 2 at 3 many -/
def f_law_breaks : Fn := ⟨1, 4, [.par2 1 2 (.lst []) (.cst (.int 0)), .for (.nm 3) (.slice (.var 0) none (some (.neg (.cst (.int 1))))) [.asg (.nm 2) (.bin .add (.var 2) (.var 3)), .expr (.mu .append (.var 1) [.var 2])] [3], .ret (.bi .tuple [.var 1])]⟩
def df_law_breaks : Df := ⟨"_law_breaks", defArgs (top 32), defBody (top 32), defScope (top 32), ["parting"], ["parting", "found", "at", "many"]⟩
/-- _law_pieces(journey, parting): 0 journey 1 parting 2 found 3 at 4 many -/
def f_law_pieces : Fn := ⟨2, 5, [.par2 2 3 (.lst []) (.cst (.int 0)), .for (.nm 4) (.var 1) [.expr (.mu .append (.var 2) [.slice (.var 0) (some (.var 3)) (some (.bin .add (.var 3) (.var 4)))]), .asg (.nm 3) (.bin .add (.var 3) (.var 4))] [4], .ret (.bi .tuple [.var 2])]⟩
def df_law_pieces : Df := ⟨"_law_pieces", defArgs (top 33), defBody (top 33), defScope (top 33), ["journey", "parting"], ["journey", "parting", "found", "at", "many"]⟩
/-- _law_is_parting(legs, thing): 0 legs 1 thing 2 many -/
def f_law_is_parting : Fn := ⟨2, 3, [.ite (.not (.bi .isTup [.var 1])) [.ret (.cst (.bl false))] [], .ite (.not (.trunc (.bi .all [.comp (.and (.bi .isInt [.var 2]) (.and (.not (.bi .isBool [.var 2])) (.one (.cmp .gt (.var 2) (.cst (.int 0)))))) (.nm 2) (.var 1) none [2]]))) [.ret (.cst (.bl false))] [], .ret (.cmp .eq (.bi .sum [.var 1]) (.var 0))]⟩
def df_law_is_parting : Df := ⟨"_law_is_parting", defArgs (top 34), defBody (top 34), defScope (top 34), ["legs", "thing"], ["legs", "thing", "many"]⟩
/-- _law_drawn_parting(hand, legs): 0 hand 1 legs 2 found 3 left 4 most -/
def f_law_drawn_parting : Fn := ⟨2, 5, [.par3 2 3 4 (.lst []) (.var 1) (.call 16 [.var 0, .lst [.cst (.int 1), .cst (.int 3), .cst (.int 20), .cst (.int 60)]]), .while (.cmp .gt (.var 3) (.cst (.int 0))) [.expr (.mu .append (.var 2) [.bin .add (.cst (.int 1)) (.call 15 [.var 0, .bi .min2 [.var 3, .var 4]])]), .asg (.nm 3) (.bin .sub (.var 3) (.idx (.var 2) (.neg (.cst (.int 1)))))] [], .ret (.bi .tuple [.var 2])]⟩
def df_law_drawn_parting : Df := ⟨"_law_drawn_parting", defArgs (top 35), defBody (top 35), defScope (top 35), ["hand", "legs"], ["hand", "legs", "found", "left", "most"]⟩
/-- _law_is_right(hand, legs): 0 hand 1 legs 2 journey 3 parting 4 breaks 5 told 6 odd 7 thing -/
def f_law_is_right : Fn := ⟨2, 8, [.asg (.tup [.nm 2, .nm 3]) (.tup [.call 18 [.var 0, .cst (.int 4), .var 1], .call 23 [.var 0, .var 1]]), .asg (.nm 4) (.call 20 [.var 3]), .asg (.nm 5) (.lst [.call 10 [.var 2, .var 3], .call 12 [.var 3], .call 13 [.var 1, .var 4]]), .ite (.not (.call 17 [.var 5, .lst [.call 21 [.var 2, .var 3], .var 4, .var 3]])) [.ret (.cst (.bl false))] [], .asg (.nm 6) (.lst [.var 3, .bi .list [.var 3], .slice (.var 3) none (some (.neg (.cst (.int 1)))), .bin .add (.var 3) (.tup [.cst (.int 1)]), .bin .add (.var 3) (.tup [.cst (.int 0)]), .tup [.var 1], .bin .mul (.tup [.cst (.int 1)]) (.var 1), .cst (.non), .cst (.str "1"), .dnew .k]), .asg (.nm 6) (.bin .add (.var 6) (.lst [.bin .mul (.tup [.cst (.bl true)]) (.var 1), .rev (.var 3), .tup [.neg (.cst (.int 1)), .bin .add (.var 1) (.cst (.int 1))], .tup [.var 1, .cst (.int 0)], .bin .mul (.tup [.tup [.cst (.int 1)]]) (.var 1), .var 1, .bin .mul (.tup [.cst (.int 1)]) (.bin .add (.var 1) (.cst (.int 1)))])), .ret (.trunc (.bi .all [.comp (.call 17 [.call 8 [.var 2, .var 7], .call 22 [.var 1, .var 7]]) (.nm 7) (.var 6) none [7]]))]⟩
def df_law_is_right : Df := ⟨"_law_is_right", defArgs (top 36), defBody (top 36), defScope (top 36), ["hand", "legs"], ["hand", "legs", "journey", "parting", "breaks", "told", "odd", "thing"]⟩
/-- law(script): 0 script 1 hand 2 legs -/
def f_law : Fn := ⟨1, 3, [.asg (.nm 1) (.call 14 [.var 0]), .ite (.or (.cmp .ne (.call 11 [.cst (.int 3)]) (.lst [.tup [.cst (.int 1), .cst (.int 1), .cst (.int 1)], .tup [.cst (.int 1), .cst (.int 2)], .tup [.cst (.int 2), .cst (.int 1)], .tup [.cst (.int 3)]])) (.one (.cmp .ne (.call 11 [.cst (.int 0)]) (.lst [.tup []])))) [.ret (.cst (.bl false))] [], .for (.nm 2) (.tup [.cst (.int 1), .cst (.int 2), .cst (.int 5), .cst (.int 9), .cst (.int 12)]) [.ite (.not (.call 17 [.call 11 [.var 2], .call 19 [.var 2]])) [.ret (.cst (.bl false))] []] [2], .for (.nm 2) (.tup [.cst (.int 0), .cst (.int 1), .cst (.int 2), .cst (.int 3), .cst (.int 7), .cst (.int 30), .cst (.int 59), .cst (.int 60)]) [.ite (.not (.call 24 [.var 1, .var 2])) [.ret (.cst (.bl false))] []] [2], .ret (.and (.cmp .eq (.call 12 [.bin .mul (.tup [.cst (.int 1)]) (.cst (.int 60))]) (.trunc (.bi .tuple [.lrange [.cst (.int 1), .cst (.int 60)]]))) (.and (.cmp .eq (.call 13 [.cst (.int 60), .tup []]) (.tup [.cst (.int 60)])) (.one (.cmp .eq (.call 13 [.cst (.int 0), .tup []]) (.tup [])))))]⟩
def df_law : Df := ⟨"law", defArgs (top 37), defBody (top 37), defScope (top 37), ["script"], ["script", "hand", "legs"]⟩
def dfs : List Df := [df_is_integer, df_is_within, df_is_tuple, df_is_lot, df_is_raw_journey, df_check_short, df_is_row_of_pieces, df_is_raw_parting, df_is_parting, df_raw_pieces, df_pieces, df_partings, df_breaks_of, df_parting_by, df_law_hand, df_law_draw, df_law_any, df_law_is, df_law_journey, df_law_partings, df_law_breaks, df_law_pieces, df_law_is_parting, df_law_drawn_parting, df_law_is_right, df_law]
def fns : List Fn := [f_is_integer, f_is_within, f_is_tuple, f_is_lot, f_is_raw_journey, f_check_short, f_is_row_of_pieces, f_is_raw_parting, f_is_parting, f_raw_pieces, f_pieces, f_partings, f_breaks_of, f_parting_by, f_law_hand, f_law_draw, f_law_any, f_law_is, f_law_journey, f_law_partings, f_law_breaks, f_law_pieces, f_law_is_parting, f_law_drawn_parting, f_law_is_right, f_law]
def blts : List Str := ["isinstance", "bool", "int", "len", "tuple", "all", "zip", "sum", "range", "abs", "repr", "sorted", "min", "list"]
def csts : List (Str × D) := [("MOST_SHORT", .int 60), ("MOST_KINDS", .int 4), ("MOST_BY_LEGS", .int 12)]
theorem bf_is_integer : BindOk df_is_integer := fun _ _ _ _ _ _ us hl => match us, hl with | [_], _ => rfl
theorem bf_is_within : BindOk df_is_within := fun _ _ _ _ _ _ us hl => match us, hl with | [_, _, _], _ => rfl
theorem bf_is_tuple : BindOk df_is_tuple := fun _ _ _ _ _ _ us hl => match us, hl with | [_, _, _], _ => rfl
theorem bf_is_lot : BindOk df_is_lot := fun _ _ _ _ _ _ us hl => match us, hl with | [_, _], _ => rfl
theorem bf_is_raw_journey : BindOk df_is_raw_journey := fun _ _ _ _ _ _ us hl => match us, hl with | [_, _, _], _ => rfl
theorem bf_check_short : BindOk df_check_short := fun _ _ _ _ _ _ us hl => match us, hl with | [_, _], _ => rfl
theorem bf_is_row_of_pieces : BindOk df_is_row_of_pieces := fun _ _ _ _ _ _ us hl => match us, hl with | [_], _ => rfl
theorem bf_is_raw_parting : BindOk df_is_raw_parting := fun _ _ _ _ _ _ us hl => match us, hl with | [_, _], _ => rfl
theorem bf_is_parting : BindOk df_is_parting := fun _ _ _ _ _ _ us hl => match us, hl with | [_, _], _ => rfl
theorem bf_raw_pieces : BindOk df_raw_pieces := fun _ _ _ _ _ _ us hl => match us, hl with | [_, _], _ => rfl
theorem bf_pieces : BindOk df_pieces := fun _ _ _ _ _ _ us hl => match us, hl with | [_, _], _ => rfl
theorem bf_partings : BindOk df_partings := fun _ _ _ _ _ _ us hl => match us, hl with | [_], _ => rfl
theorem bf_breaks_of : BindOk df_breaks_of := fun _ _ _ _ _ _ us hl => match us, hl with | [_], _ => rfl
theorem bf_parting_by : BindOk df_parting_by := fun _ _ _ _ _ _ us hl => match us, hl with | [_, _], _ => rfl
theorem bf_law_hand : BindOk df_law_hand := fun _ _ _ _ _ _ us hl => match us, hl with | [_], _ => rfl
theorem bf_law_draw : BindOk df_law_draw := fun _ _ _ _ _ _ us hl => match us, hl with | [_, _], _ => rfl
theorem bf_law_any : BindOk df_law_any := fun _ _ _ _ _ _ us hl => match us, hl with | [_, _], _ => rfl
theorem bf_law_is : BindOk df_law_is := fun _ _ _ _ _ _ us hl => match us, hl with | [_, _], _ => rfl
theorem bf_law_journey : BindOk df_law_journey := fun _ _ _ _ _ _ us hl => match us, hl with | [_, _, _], _ => rfl
theorem bf_law_partings : BindOk df_law_partings := fun _ _ _ _ _ _ us hl => match us, hl with | [_], _ => rfl
theorem bf_law_breaks : BindOk df_law_breaks := fun _ _ _ _ _ _ us hl => match us, hl with | [_], _ => rfl
theorem bf_law_pieces : BindOk df_law_pieces := fun _ _ _ _ _ _ us hl => match us, hl with | [_, _], _ => rfl
theorem bf_law_is_parting : BindOk df_law_is_parting := fun _ _ _ _ _ _ us hl => match us, hl with | [_, _], _ => rfl
theorem bf_law_drawn_parting : BindOk df_law_drawn_parting := fun _ _ _ _ _ _ us hl => match us, hl with | [_, _], _ => rfl
theorem bf_law_is_right : BindOk df_law_is_right := fun _ _ _ _ _ _ us hl => match us, hl with | [_, _], _ => rfl
theorem bf_law : BindOk df_law := fun _ _ _ _ _ _ us hl => match us, hl with | [_], _ => rfl
theorem binds : ∀ d ∈ dfs, BindOk d := by
  intro d h
  simp only [dfs, List.mem_cons, List.not_mem_nil, or_false] at h
  rcases h with rfl | rfl | rfl | rfl | rfl | rfl | rfl | rfl | rfl | rfl | rfl | rfl | rfl | rfl | rfl | rfl | rfl | rfl | rfl | rfl | rfl | rfl | rfl | rfl | rfl | rfl
  · exact bf_is_integer
  · exact bf_is_within
  · exact bf_is_tuple
  · exact bf_is_lot
  · exact bf_is_raw_journey
  · exact bf_check_short
  · exact bf_is_row_of_pieces
  · exact bf_is_raw_parting
  · exact bf_is_parting
  · exact bf_raw_pieces
  · exact bf_pieces
  · exact bf_partings
  · exact bf_breaks_of
  · exact bf_parting_by
  · exact bf_law_hand
  · exact bf_law_draw
  · exact bf_law_any
  · exact bf_law_is
  · exact bf_law_journey
  · exact bf_law_partings
  · exact bf_law_breaks
  · exact bf_law_pieces
  · exact bf_law_is_parting
  · exact bf_law_drawn_parting
  · exact bf_law_is_right
  · exact bf_law
theorem checked : allB (tabB dfs fns) blts csts 60 dfs fns = true := by decide +kernel
end Lawk01
namespace Lawk01
open PySem Ev
def pos : D → Bool
  | .int i => decide (0 < i)
  | _ => false
def toI : D → Int
  | .int i => i
  | _ => 0
def isRow (d : D) : Bool := match d with
  | .tup xs => decide (xs.length ≤ 60) && xs.all pos
  | _ => false
theorem small60 : (60 : Nat) ≤ sizeLine := by decide
theorem row_eq (k : Nat) (d : D) (hd : d.clo 0 = true ∨ isTupD d = false) (h : Sto) : callN fns (k + 3) 6 [d] h = .ok (.bl (isRow d)) h := by
  have hI : fns[0]? = some isIntegerF := rfl
  have hT : fns[2]? = some isTupleF := rfl
  cases d with
  | tup xs =>
    have hc : D.clos 0 xs = true := by simpa [isTupD] using hd
    by_cases hl : xs.length ≤ 60
    · refine call_clo (fn := f_is_row_of_pieces) rfl (by simpa using hc) (by simp) (h' := []) (runF_ret rfl ?_) h
      have e := e_all (c := callN fns (k + 2)) (sl := [some (.tup xs), none]) (h := []) (h1 := []) (elt := .and (.call 0 [.var 1]) (.one (.cmp .gt (.var 1) (.cst (.int 0))))) (tg := .nm 1) (own := [1]) (it := .var 0) (xs := xs) (ch := []) (f := pos) rfl (i_tup rfl) (by have := small60; omega) trivial (fun x _ => by
        cases x <;> simp [turn, kills, integer_call hI, isInt, pos])
      show exss _ f_is_row_of_pieces.body [some (.tup xs), none] [] = _
      rw [f_is_row_of_pieces]
      have hl' : (xs.length : Int) ≤ 60 := by omega
      simp [-e_trunc, tuple_call hT, isTuple, isRow, hl, hl', e]
    · refine call_pure (fn := f_is_row_of_pieces) rfl (by simp) (fun h => runF_ret rfl ?_) h
      show exss _ f_is_row_of_pieces.body [some (.tup xs), none] h = _
      rw [f_is_row_of_pieces]
      have : ¬ (xs.length : Int) ≤ 60 := by omega
      simp [-e_trunc, tuple_call hT, isTuple, isRow, hl, this]
  | _ =>
    refine call_pure (fn := f_is_row_of_pieces) rfl (by simp) (fun h => runF_ret rfl ?_) h
    simp [-e_trunc, f_is_row_of_pieces, tuple_call hT, isTuple, isRow]
theorem allInt_pos : ∀ {xs : List D}, xs.all pos = true → allInt xs = some (xs.map toI)
  | [], _ => rfl
  | x :: xs, h => by
    rw [List.all_cons, Bool.and_eq_true] at h
    have ih := allInt_pos h.2
    cases x <;> simp [pos] at h
    unfold allInt at *
    simp [allP, ih, toI]
def isRaw (legs : Int) (d : D) : Bool := isRow d && (match d with | .tup xs => decide ((xs.map toI).sum = legs) | _ => false)
theorem raw_eq (k : Nat) (legs : Int) (d : D) (hd : d.clo 0 = true ∨ isTupD d = false) (h : Sto) : callN fns (k + 4) 7 [.int legs, d] h = .ok (.bl (isRaw legs d)) h := by
  refine call_pure (fn := f_is_raw_parting) rfl (by simp) (fun h => runF_ret rfl ?_) h
  have e := fun h => row_eq k d hd h
  by_cases hr : isRow d = true
  · cases d with
    | tup xs =>
      have hp : xs.all pos = true := by simp [isRow] at hr; simpa using hr.2
      have := allInt_pos hp
      simp [f_is_raw_parting, e, hr, isRaw, this]
    | _ => simp [isRow] at hr
  · simp only [Bool.not_eq_true] at hr
    simp [f_is_raw_parting, e, hr, isRaw]
/-- a journey of kinds below 4 -/
def Jok (js : List Int) : Prop := js.length ≤ 60 ∧ ∀ j ∈ js, 0 ≤ j ∧ j < 4
abbrev tupI (xs : List Int) : D := .tup (xs.map D.int)
theorem clo_tupI (n : Nat) (xs : List Int) : (tupI xs).clo n = true := by simp [clos_ints]
theorem rawj_eq (k : Nat) (js : List Int) (hj : Jok js) (h : Sto) : callN fns (k + 3) 4 [.int 4, tupI js, .int 60] h = .ok (.bl true) h := by
  have hI : fns[0]? = some isIntegerF := rfl
  have hW : fns[1]? = some (isWithinF 0) := rfl
  have hT : fns[2]? = some isTupleF := rfl
  refine call_clo (fn := f_is_raw_journey) rfl (by simp [clos_ints]) (by simp) (h' := []) (runF_ret rfl ?_) h
  have e := e_all (c := callN fns (k + 2)) (sl := [some (.int 4), some (tupI js), some (.int 60), none]) (h := []) (h1 := []) (elt := .call 1 [.var 3, .cst (.int 0), .bin .sub (.var 0) (.cst (.int 1))]) (tg := .nm 3) (own := [3]) (it := .var 1) (xs := js.map D.int) (ch := []) (f := fun d => isWithin d 0 3) rfl (i_tup rfl) (by rw [List.length_map]; have := small60; have := hj.1; omega) trivial (fun x _ => by
    simp [turn, kills, within_call hW hI])
  have al : (js.map D.int).all (fun d => isWithin d 0 3) = true := by
    rw [List.all_eq_true]
    intro x hx
    obtain ⟨j, hm, rfl⟩ := List.mem_map.mp hx
    have := hj.2 j hm
    simp [isWithin]; omega
  show exss _ f_is_raw_journey.body [some (.int 4), some (tupI js), some (.int 60), none] [] = _
  rw [f_is_raw_journey]
  have hl : (js.length : Int) ≤ 60 := by have := hj.1; omega
  rw [al] at e
  simp [-e_trunc, tuple_call hT, isTuple, hl, e]
theorem check_eq (k : Nat) (js : List Int) (hj : Jok js) (h : Sto) : callN fns (k + 4) 5 [.int 4, tupI js] h = .ok .non h := by
  refine call_pure (fn := f_check_short) rfl (by simp) (fun h => runF_nx rfl (sl := [some (.int 4), some (tupI js)]) ?_) h
  simp [f_check_short, rawj_eq k js hj]
theorem isp_eq (k : Nat) (js : List Int) (hj : Jok js) (d : D) (hd : d.clo 0 = true ∨ isTupD d = false) (h : Sto) : callN fns (k + 5) 8 [tupI js, d] h = .ok (.bl (isRaw js.length d)) h := by
  refine call_pure (fn := f_is_parting) rfl (by simp) (fun h => runF_ret rfl ?_) h
  simp [f_is_parting, check_eq k js hj, raw_eq k _ d hd]
/-! ### pieces -/
def pcs (js : List Int) : Int → List Int → List D
  | _, [] => []
  | at_, p :: ps => .tup (cutD (js.map D.int) (some at_) (some (at_ + p))) :: pcs js (at_ + p) ps
theorem pcs_length (js : List Int) : ∀ (at_ : Int) (ps : List Int), (pcs js at_ ps).length = ps.length
  | _, [] => rfl
  | at_, p :: ps => congrArg Nat.succ (pcs_length js (at_ + p) ps)
theorem cut_clo (n : Nat) (js : List Int) (lo hi : Option Int) : D.clos n (cutD (js.map D.int) lo hi) = true := by rw [cutD_map]; exact clos_ints _ _
theorem pcs_clo (n : Nat) (js : List Int) : ∀ (at_ : Int) (ps : List Int), D.clos n (pcs js at_ ps) = true
  | _, [] => by simp [pcs]
  | at_, p :: ps => by simp [pcs, cut_clo, pcs_clo n js (at_ + p) ps]
abbrev bPcs : List S := [.expr (.mu .append (.var 2) [.slice (.var 0) (some (.var 3)) (some (.bin .add (.var 3) (.var 4)))]), .aug 3 .add (.var 4)]
theorem loopPcs (c : CallT) (js : List Int) (P : D) (hP : P.clo 1 = true) : ∀ (ps : List Int) (at_ : Int) (acc : List D), D.clos 1 acc = true → acc.length + ps.length ≤ 100 →
    forLoop (fturn c (.nm 4) bPcs) [] [4] 1 (ps.map D.int) [some (tupI js), some P, some (.ref 0), some (.int at_), none] [.lst acc] = .ok (.nx [some (tupI js), some P, some (.ref 0), some (.int (at_ + ps.sum)), none]) [.lst (acc ++ pcs js at_ ps)]
  | [], at_, acc, _, _ => by simp [forLoop, pcs]
  | p :: ps, at_, acc, ha, hl => by
    have hz : acc.length < sizeLine := by have := small60; simp at hl; have : (100 : Nat) < sizeLine := by decide
                                          omega
    have ih := loopPcs c js P hP ps (at_ + p) (acc ++ [.tup (cutD (js.map D.int) (some at_) (some (at_ + p)))]) (by simp [ha, cut_clo]) (by simp at hl ⊢; omega)
    simp [forLoop, fturn, Kd.ok, lstOf, sliceop, muop, hz, augop, turnEnd, kills, SL.clo, hP, ha, cut_clo, clos_ints, chkOk]
    simp [pcs] at ih ⊢
    rw [ih]
    simp [Int.add_assoc]
theorem rawp_run (c : CallT) (js ps : List Int) (hl : ps.length ≤ 60) : runF c f_raw_pieces [tupI js, tupI ps] [] = .ok (.ref 0) [.lst (pcs js 0 ps)] := by
  refine runF_ret rfl ?_
  have e := loopPcs c js (tupI ps) (clo_tupI _ _) ps 0 [] (by simp) (by simp; omega)
  have f := s_forE (it := .var 1) e (i_tup rfl) rfl
  show exss c f_raw_pieces.body [some (tupI js), some (tupI ps), none, none, none] [] = _
  rw [f_raw_pieces]
  simp [f]
theorem rawp_eq (k : Nat) (js ps : List Int) (hl : ps.length ≤ 60) (h : Sto) : callN fns (k + 1) 9 [tupI js, tupI ps] h = .ok (.ref h.length) (h ++ [.lst (pcs js 0 ps)]) :=
  call_lst (fn := f_raw_pieces) rfl (by simp [clos_ints]) (rawp_run _ js ps hl) rfl (by simp [pcs_clo]) h
theorem pieces_eq (k : Nat) (js ps : List Int) (hj : Jok js) (hr : isRaw js.length (tupI ps) = true) (h : Sto) : callN fns (k + 5) 10 [tupI js, tupI ps] h = .ok (.tup (pcs js 0 ps)) h := by
  have hl : ps.length ≤ 60 := by simp [isRaw, isRow] at hr; exact hr.1.1
  refine call_clo (fn := f_pieces) rfl (by simp [clos_ints]) (by simp [pcs_clo]) (h' := [.lst (pcs js 0 ps)]) (runF_ret rfl ?_) h
  have e := raw_eq k js.length (tupI ps) (.inl (clo_tupI _ _))
  rw [hr] at e
  show exss _ f_pieces.body [some (tupI js), some (tupI ps)] [] = _
  rw [f_pieces]
  simp [check_eq k js hj, e, rawp_eq (k + 3) js ps hl]
/-! ### breaks -/
def brk : Int → List Int → List Int
  | _, [] => []
  | at_, p :: ps => (at_ + p) :: brk (at_ + p) ps
theorem brk_length : ∀ (at_ : Int) (ps : List Int), (brk at_ ps).length = ps.length
  | _, [] => rfl
  | at_, p :: ps => congrArg Nat.succ (brk_length (at_ + p) ps)
abbrev bBrk : List S := [.aug 2 .add (.var 3), .expr (.mu .append (.var 1) [.var 2])]
theorem loopBrk (c : CallT) (P : D) (hP : P.clo 1 = true) : ∀ (ps : List Int) (at_ : Int) (acc : List Int), acc.length + ps.length ≤ 100 →
    forLoop (fturn c (.nm 3) bBrk) [] [3] 1 (ps.map D.int) [some P, some (.ref 0), some (.int at_), none] [.lst (acc.map D.int)] = .ok (.nx [some P, some (.ref 0), some (.int (at_ + ps.sum)), none]) [.lst ((acc ++ brk at_ ps).map D.int)]
  | [], at_, acc, _ => by simp [forLoop, brk]
  | p :: ps, at_, acc, hl => by
    have hz : acc.length < sizeLine := by simp at hl; have : (100 : Nat) < sizeLine := by decide
                                          omega
    have ih := loopBrk c P hP ps (at_ + p) (acc ++ [at_ + p]) (by simp at hl ⊢; omega)
    simp [forLoop, fturn, Kd.ok, lstOf, muop, hz, augop, turnEnd, kills, SL.clo, hP, clos_ints, chkOk]
    simp [brk] at ih ⊢
    rw [ih]
    simp [Int.add_assoc]
theorem dropLast_cut {α : Type} (xs : List α) : (xs.drop (HT.sIx xs.length 0 none)).take (HT.sIx xs.length xs.length (some (-1)) - HT.sIx xs.length 0 none) = xs.dropLast := by
  rw [List.dropLast_eq_take]
  simp only [HT.sIx, List.drop_zero]
  congr 1
  simp
  omega
theorem i_cut {c : CallT} {sl : SL} {h : Sto} {xs : List Int} (e : sl[0]? = some (some (tupI xs))) : evI c (.slice (.var 0) none (some (.neg (.cst (.int 1))))) sl h = .ok (xs.dropLast.map D.int, []) h := by
  rw [evI_val rfl]
  simp [e, sliceop, cutD_map, dropLast_cut, itemsOf]
theorem brk_eq (k : Nat) (ps : List Int) (hr : isRow (tupI ps) = true) (h : Sto) : callN fns (k + 4) 12 [tupI ps] h = .ok (tupI (brk 0 ps.dropLast)) h := by
  have hl : ps.length ≤ 60 := by simp [isRow] at hr; exact hr.1
  refine call_clo (fn := f_breaks_of) rfl (by simp [clos_ints]) (clo_tupI _ _) (h' := [.lst ((brk 0 ps.dropLast).map D.int)]) (runF_ret rfl ?_) h
  have e := row_eq k (tupI ps) (.inl (clo_tupI _ _))
  rw [hr] at e
  have f := s_forE (it := .slice (.var 0) none (some (.neg (.cst (.int 1))))) (loopBrk (callN fns (k + 3)) (tupI ps) (clo_tupI _ _) ps.dropLast 0 [] (by simp; omega)) (i_cut rfl) rfl
  show exss _ f_breaks_of.body [some (tupI ps), none, none, none] [] = _
  rw [f_breaks_of]
  simp at f
  simp [e, f]
theorem lbrk_eq (k : Nat) (ps : List Int) (hl : ps.length ≤ 60) (h : Sto) : callN fns (k + 1) 20 [tupI ps] h = .ok (tupI (brk 0 ps.dropLast)) h := by
  have lp : ∀ (c : CallT) (P : D) (hP : P.clo 1 = true) (ps : List Int) (at_ : Int) (acc : List Int), acc.length + ps.length ≤ 100 →
    forLoop (fturn c (.nm 3) [.asg (.nm 2) (.bin .add (.var 2) (.var 3)), .expr (.mu .append (.var 1) [.var 2])]) [] [3] 1 (ps.map D.int) [some P, some (.ref 0), some (.int at_), none] [.lst (acc.map D.int)] = .ok (.nx [some P, some (.ref 0), some (.int (at_ + ps.sum)), none]) [.lst ((acc ++ brk at_ ps).map D.int)] := by
    intro c P hP ps
    induction ps with
    | nil => intro at_ acc _; simp [forLoop, brk]
    | cons p ps ih =>
      intro at_ acc hl
      have hz : acc.length < sizeLine := by simp at hl; have : (100 : Nat) < sizeLine := by decide
                                            omega
      have ih := ih (at_ + p) (acc ++ [at_ + p]) (by simp at hl ⊢; omega)
      simp [forLoop, fturn, Kd.ok, lstOf, muop, hz, turnEnd, kills, SL.clo, hP, clos_ints, chkOk]
      simp [brk] at ih ⊢
      rw [ih]
      simp [Int.add_assoc]
  refine call_clo (fn := f_law_breaks) rfl (by simp [clos_ints]) (clo_tupI _ _) (h' := [.lst ((brk 0 ps.dropLast).map D.int)]) (runF_ret rfl ?_) h
  have f := s_forE (it := .slice (.var 0) none (some (.neg (.cst (.int 1))))) (lp (callN fns k) (tupI ps) (clo_tupI _ _) ps.dropLast 0 [] (by simp; omega)) (i_cut rfl) rfl
  show exss _ f_law_breaks.body [some (tupI ps), none, none, none] [] = _
  rw [f_law_breaks]
  simp at f
  simp [f]
theorem lpcs_eq (k : Nat) (js ps : List Int) (hl : ps.length ≤ 60) (h : Sto) : callN fns (k + 1) 21 [tupI js, tupI ps] h = .ok (.tup (pcs js 0 ps)) h := by
  have lp : ∀ (c : CallT) (P : D) (hP : P.clo 1 = true) (ps : List Int) (at_ : Int) (acc : List D), D.clos 1 acc = true → acc.length + ps.length ≤ 100 →
    forLoop (fturn c (.nm 4) [.expr (.mu .append (.var 2) [.slice (.var 0) (some (.var 3)) (some (.bin .add (.var 3) (.var 4)))]), .asg (.nm 3) (.bin .add (.var 3) (.var 4))]) [] [4] 1 (ps.map D.int) [some (tupI js), some P, some (.ref 0), some (.int at_), none] [.lst acc] = .ok (.nx [some (tupI js), some P, some (.ref 0), some (.int (at_ + ps.sum)), none]) [.lst (acc ++ pcs js at_ ps)] := by
    intro c P hP ps
    induction ps with
    | nil => intro at_ acc _ _; simp [forLoop, pcs]
    | cons p ps ih =>
      intro at_ acc ha hl
      have hz : acc.length < sizeLine := by simp at hl; have : (100 : Nat) < sizeLine := by decide
                                            omega
      have ih := ih (at_ + p) (acc ++ [.tup (cutD (js.map D.int) (some at_) (some (at_ + p)))]) (by simp [ha, cut_clo]) (by simp at hl ⊢; omega)
      simp [forLoop, fturn, Kd.ok, lstOf, sliceop, muop, hz, turnEnd, kills, SL.clo, hP, ha, cut_clo, clos_ints, chkOk]
      simp [pcs] at ih ⊢
      rw [ih]
      simp [Int.add_assoc]
  refine call_clo (fn := f_law_pieces) rfl (by simp [clos_ints]) (by simp [pcs_clo]) (h' := [.lst (pcs js 0 ps)]) (runF_ret rfl ?_) h
  have f := s_forE (it := .var 1) (lp (callN fns k) (tupI ps) (clo_tupI _ _) ps 0 [] (by simp) (by simp; omega)) (i_tup rfl) rfl
  show exss _ f_law_pieces.body [some (tupI js), some (tupI ps), none, none, none] [] = _
  rw [f_law_pieces]
  simp at f
  simp [f]
/-! ### partings by breaks -/
theorem cut_tail {α : Type} (xs : List α) : (xs.drop (HT.sIx xs.length 0 (some 1))).take (HT.sIx xs.length xs.length none - HT.sIx xs.length 0 (some 1)) = xs.drop 1 := by
  simp only [HT.sIx]
  rw [if_neg (by decide)]
  cases xs with
  | nil => simp
  | cons x xs => simp
theorem zip1_ints (xs ys : List Int) : ((xs.map D.int).zip (ys.map D.int)).map (fun p => D.tup [p.1, p.2]) = (xs.zip ys).map fun p => D.tup [.int p.1, .int p.2] := by
  rw [List.zip_map, List.map_map]
  rfl
theorem i_zip1 {c : CallT} {sl : SL} {h : Sto} {i : Nat} {xs : List Int} (e : sl[i]? = some (some (tupI xs))) : evI c (.zip (.var i) (.slice (.var i) (some (.cst (.int 1))) none)) sl h = .ok ((xs.zip (xs.drop 1)).map (fun p => D.tup [.int p.1, .int p.2]), []) h := by
  rw [evI]
  simp [e, sliceop, cutD_map, cut_tail, zipop]
  rw [← List.map_tail, zip1_ints]
/-- ascending -/
def asc (xs : List Int) : Bool := (xs.zip (xs.drop 1)).all fun p => decide (p.1 < p.2)
theorem lot_eq (k : Nat) (bs : List Int) (m : Int) (hl : bs.length ≤ 60) (hb : ∀ b ∈ bs, 0 ≤ b ∧ b < m) (ha : asc bs = true) (h : Sto) : callN fns (k + 3) 3 [tupI bs, .int m] h = .ok (.bl true) h := by
  have hI : fns[0]? = some isIntegerF := rfl
  have hW : fns[1]? = some (isWithinF 0) := rfl
  refine call_clo (fn := f_is_lot) rfl (by simp [clos_ints]) (by simp) (h' := []) (runF_ret rfl ?_) h
  have e1 := e_all (c := callN fns (k + 2)) (sl := [some (tupI bs), some (.int m), none, none]) (h := []) (h1 := []) (elt := .call 1 [.var 2, .cst (.int 0), .bin .sub (.var 1) (.cst (.int 1))]) (tg := .nm 2) (own := [2]) (it := .var 0) (xs := bs.map D.int) (ch := []) (f := fun d => isWithin d 0 (m - 1)) rfl (i_tup rfl) (by rw [List.length_map]; have := small60; omega) trivial (fun x _ => by
    simp [turn, kills, within_call hW hI])
  have e2 := e_all (c := callN fns (k + 2)) (sl := [some (tupI bs), some (.int m), none, none]) (h := []) (h1 := []) (elt := .cmp .lt (.var 2) (.var 3)) (tg := .tup [.nm 2, .nm 3]) (own := [2, 3]) (it := .zip (.var 0) (.slice (.var 0) (some (.cst (.int 1))) none)) (xs := (bs.zip (bs.drop 1)).map (fun p => D.tup [.int p.1, .int p.2])) (ch := []) (f := fun d => match d with | .tup [.int x, .int y] => decide (x < y) | _ => false) rfl (i_zip1 rfl) (by rw [List.length_map, List.length_zip]; have := small60; omega) trivial (fun x hx => by
    obtain ⟨p, _, rfl⟩ := List.mem_map.mp hx
    simp [turn, kills])
  have a1 : (bs.map D.int).all (fun d => isWithin d 0 (m - 1)) = true := by
    rw [List.all_eq_true]
    intro x hx
    obtain ⟨j, hm, rfl⟩ := List.mem_map.mp hx
    have := hb j hm
    simp [isWithin]; omega
  have a2 : ((bs.zip (bs.drop 1)).map (fun p => D.tup [.int p.1, .int p.2])).all (fun d => match d with | .tup [.int x, .int y] => decide (x < y) | _ => false) = true := by
    rw [List.all_map]; exact ha
  rw [a1] at e1
  rw [a2] at e2
  show exss _ f_is_lot.body [some (tupI bs), some (.int m), none, none] [] = _
  rw [f_is_lot]
  simp [-e_trunc, e1, e2]
def diffs (xs : List Int) : List Int := (xs.zip (xs.drop 1)).map fun p => p.2 - p.1
theorem diffs_cons (x y : Int) (r : List Int) : diffs (x :: y :: r) = (y - x) :: diffs (y :: r) := rfl
theorem pby_eq (k : Nat) (legs : Int) (bs : List Int) (h0 : 0 < legs) (h1 : legs ≤ 60) (hl : bs.length ≤ 60) (hb : ∀ b ∈ bs, 0 < b ∧ b < legs) (ha : asc bs = true) (h : Sto) : callN fns (k + 4) 13 [.int legs, tupI bs] h = .ok (tupI (diffs (0 :: bs ++ [legs]))) h := by
  have hI : fns[0]? = some isIntegerF := rfl
  have hW : fns[1]? = some (isWithinF 0) := rfl
  have n0 : ¬ (0 : Int) ∈ bs := fun z => by have := hb 0 z; omega
  have lt := lot_eq k bs legs hl (fun b hm => by have := hb b hm; omega) ha
  have ne : ¬ legs = 0 := by omega
  have z0 : (100 : Nat) < sizeLine := by decide
  have e := e_comp (c := callN fns (k + 3)) (sl := [some (.int legs), some (tupI bs), some (tupI (0 :: bs ++ [legs])), none, none]) (h := []) (elt := .bin .sub (.var 4) (.var 3)) (tg := .tup [.nm 3, .nm 4]) (cond := none) (own := [3, 4]) (it := .zip (.var 2) (.slice (.var 2) (some (.cst (.int 1))) none)) (i_zip1 rfl) (by rw [List.length_map, List.length_zip]; simp; omega) (compLoop_map (g := fun d => match d with | .tup [.int x, .int y] => .int (y - x) | _ => .non) trivial (fun x hx => by
    obtain ⟨p, _, rfl⟩ := List.mem_map.mp hx
    simp [turn, kills]))
  refine call_clo (fn := f_parting_by) rfl (by simp [clos_ints]) (clo_tupI _ _) (h' := []) (runF_ret rfl ?_) h
  have z1 : (1 : Nat) + bs.length ≤ sizeLine := by have : (100 : Nat) < sizeLine := by decide
                                                   omega
  have z2 : bs.length + 1 + 1 ≤ sizeLine := by have : (100 : Nat) < sizeLine := by decide
                                               omega
  have g : legs ≤ 60 := h1
  have g0 : 0 ≤ legs := by omega
  show exss _ f_parting_by.body [some (.int legs), some (tupI bs), none, none, none] [] = _
  rw [f_parting_by]
  simp [tupI] at e lt
  have cm : ∀ l : List (Int × Int), D.clos 0 (l.map fun x => D.int (x.2 - x.1)) = true := fun l => clos_map 0 (fun _ => clo_int _ _) l
  simp [cm, tupI, within_call hW hI, isWithin, g, g0, lt, mem_ints, n0, ne, binop, z1, z2, e, trunc, diffs, Function.comp_def]
theorem pby0_eq (k : Nat) (h : Sto) : callN fns (k + 4) 13 [.int 0, .tup []] h = .ok (.tup []) h := by
  have hI : fns[0]? = some isIntegerF := rfl
  have hW : fns[1]? = some (isWithinF 0) := rfl
  have lt : ∀ h, callN fns (k + 3) 3 [.tup [], .int 0] h = .ok (.bl true) h := lot_eq k [] 0 (by simp) (by simp) rfl
  have m0 := mem_ints 0 []
  refine call_pure (fn := f_parting_by) rfl (by simp) (fun h => runF_ret rfl ?_) h
  show exss _ f_parting_by.body [some (.int 0), some (.tup []), none, none, none] h = _
  rw [f_parting_by]
  simp at m0
  simp [within_call hW hI, isWithin, lt, m0]
/-! ### the plain law of breaks -/
def Pok (legs : Int) (ps : List Int) : Prop := (∀ p ∈ ps, 0 < p) ∧ ps.sum = legs
theorem pok_len : ∀ {ps : List Int}, (∀ p ∈ ps, 0 < p) → (ps.length : Int) ≤ ps.sum
  | [], _ => by simp
  | p :: ps, h => by
    have ih := pok_len (ps := ps) fun q hq => h q (by simp [hq])
    have := h p (by simp)
    simp only [List.length_cons, List.sum_cons]
    omega
theorem brk_bounds : ∀ {ps : List Int} {at_ : Int}, (∀ p ∈ ps, 0 < p) → ∀ b ∈ brk at_ ps, at_ < b ∧ b ≤ at_ + ps.sum
  | [], _, _, b, hb => by simp [brk] at hb
  | p :: ps, at_, h, b, hb => by
    have hp := h p (by simp)
    have hs := pok_len (ps := ps) fun q hq => h q (by simp [hq])
    simp only [brk, List.mem_cons] at hb
    simp only [List.sum_cons]
    rcases hb with rfl | hb
    · omega
    · have := brk_bounds (fun q hq => h q (by simp [hq])) b hb
      omega
theorem asc_cons (x y : Int) (r : List Int) : asc (x :: y :: r) = (decide (x < y) && asc (y :: r)) := rfl
theorem brk_asc : ∀ {ps : List Int} {at_ : Int}, (∀ p ∈ ps, 0 < p) → asc (brk at_ ps) = true
  | [], _, _ => rfl
  | [p], _, _ => rfl
  | p :: q :: ps, at_, h => by
    have ih := brk_asc (ps := q :: ps) (at_ := at_ + p) fun x hx => h x (by simp [hx])
    simp only [brk] at ih ⊢
    rw [asc_cons, ih]
    have := h q (by simp)
    simp; omega
theorem diffs_brk : ∀ (ps : List Int) (at_ : Int), ps ≠ [] → diffs (at_ :: brk at_ ps.dropLast ++ [at_ + ps.sum]) = ps
  | [], _, h => absurd rfl h
  | [p], at_, _ => by simp [brk, diffs]; omega
  | p :: q :: ps, at_, _ => by
    have ih := diffs_brk (q :: ps) (at_ + p) (by simp)
    have e : (p :: q :: ps).dropLast = p :: (q :: ps).dropLast := rfl
    rw [e, brk, List.cons_append, List.cons_append, diffs_cons]
    have e2 : at_ + (p :: q :: ps).sum = at_ + p + (q :: ps).sum := by simp [Int.add_assoc]
    rw [e2]
    rw [List.cons_append] at ih
    rw [ih]
    congr 1
    omega
theorem dropLast_pos {ps : List Int} (h : ∀ p ∈ ps, 0 < p) : ∀ p ∈ ps.dropLast, 0 < p := fun p hp => h p (List.dropLast_subset ps hp)
theorem sum_dropLast : ∀ {ps : List Int}, ps ≠ [] → (∀ p ∈ ps, 0 < p) → ps.dropLast.sum < ps.sum
  | [], h, _ => absurd rfl h
  | [p], _, h => by have := h p (by simp); simpa using this
  | p :: q :: ps, _, h => by
    have ih := sum_dropLast (ps := q :: ps) (by simp) fun x hx => h x (by simp [hx])
    have e : (p :: q :: ps).dropLast = p :: (q :: ps).dropLast := rfl
    rw [e, List.sum_cons, List.sum_cons]
    omega
/-- there and back -/
theorem back_eq (k : Nat) (legs : Int) (ps : List Int) (h0 : 0 ≤ legs) (h1 : legs ≤ 60) (hp : Pok legs ps) (h : Sto) : callN fns (k + 4) 13 [.int legs, tupI (brk 0 ps.dropLast)] h = .ok (tupI ps) h := by
  obtain ⟨hp1, hp2⟩ := hp
  have hl := pok_len hp1
  cases ps with
  | nil =>
    simp at hp2
    subst hp2
    exact pby0_eq k h
  | cons p ps =>
    have hpos : 0 < legs := by
      have := hp1 p (by simp)
      have := pok_len (ps := ps) fun q hq => hp1 q (by simp [hq])
      simp only [List.sum_cons] at hp2
      omega
    have sd := sum_dropLast (ps := p :: ps) (by simp) hp1
    have e := pby_eq k legs (brk 0 (p :: ps).dropLast) hpos h1 (by rw [brk_length]; simp at hl ⊢; simp at hp2; omega) (fun b hb => by
      have := brk_bounds (dropLast_pos hp1) b hb
      omega) (brk_asc (dropLast_pos hp1)) h
    rw [e]
    have d := diffs_brk (p :: ps) 0 (by simp)
    rw [hp2] at d
    simp only [Int.zero_add] at d
    rw [d]
/-! ### drawn partings -/
def Q : DrawK := ⟨48271, 69621, 37, 2147483629, 18, 7919, 40692, 2147483647, 1009, 69621, 2147483647, 2003, 40014, 2147483563, 16⟩
theorem Q_ok : Q.ok = true := by decide
theorem Q_fn : fns[15]? = some Q.fn := rfl
theorem any_fn : fns[16]? = some (anyF 15) := rfl
theorem atI_last (xs : List D) (x : D) : L2.atI (xs ++ [x]) (-1) = some x := by
  have l : (xs ++ [x]).length = xs.length + 1 := by simp
  unfold L2.atI L2.ixN
  rw [if_neg (by decide), if_pos (by rw [l]; omega)]
  have : (-1 + (((xs ++ [x]).length : Nat) : Int)).toNat = xs.length := by rw [l]; omega
  rw [this]
  show (xs ++ [x])[xs.length]? = some x
  simp
abbrev bDp : List S := [.expr (.mu .append (.var 2) [.bin .add (.cst (.int 1)) (.call 15 [.var 0, .bi .min2 [.var 3, .var 4]])]), .asg (.nm 3) (.bin .sub (.var 3) (.idx (.var 2) (.neg (.cst (.int 1)))))]
theorem loopDp (k : Nat) (legs most : Int) (hm : 0 < most) (hm2 : most < 1000) (G : O) (rest : Sto) : ∀ (fuel : Nat) (left : Int) (acc : List Int) (h : Sto), left.toNat ≤ fuel → 0 ≤ left → left ≤ 60 → (acc.length : Int) + left ≤ 100 → Hd h rest →
    ∃ (ps : List Int) (h' : Sto), (∀ p ∈ ps, 0 < p) ∧ ps.sum = left ∧ Hd h' rest ∧ whileLim (wcond (callN fns (k + 2)) (.cmp .gt (.var 3) (.cst (.int 0)))) (fun sl h => exss (callN fns (k + 2)) bDp sl h) [] (rest.length + 4) [some (.ref 1), some (.int legs), some (.ref (rest.length + 2)), some (.int left), some (.int most)] (h ++ [.lst (acc.map D.int), G]) =
      .ok (.nx [some (.ref 1), some (.int legs), some (.ref (rest.length + 2)), some (.int 0), some (.int most)]) (h' ++ [.lst ((acc ++ ps).map D.int), G]) := by
  intro fuel
  induction fuel with
  | zero =>
    intro left acc h hf h0 h1 ha H
    have : left = 0 := by omega
    subst this
    exact ⟨[], h, by simp, rfl, H, by rw [whileLim_stop (h1 := h ++ [.lst (acc.map D.int), G]) (by simp [wcond])]; simp⟩
  | succ fuel ih =>
    intro left acc h hf h0 h1 ha H
    by_cases hl : 0 < left
    · have hmin : 0 < (if most < left then most else left) ∧ (if most < left then most else left) ≤ left ∧ (if most < left then most else left) < 2 ^ 60 := by split <;> omega
      obtain ⟨v, h2, v0, v1, H2, e2⟩ := draw_call (k := k + 1) Q Q_ok Q_fn hmin.1 hmin.2.2 (H.more [.lst (acc.map D.int), G])
      obtain ⟨h3, H3, rfl⟩ := H2.drop
      have hz : acc.length < sizeLine := by have : (100 : Nat) < sizeLine := by decide
                                            omega
      have l1 := H.len
      have l3 := H3.len
      obtain ⟨ps, h4, p1, p2, H4, e4⟩ := ih (left - (1 + v)) (acc ++ [1 + v]) h3 (by omega) (by omega) (by omega) (by simp; omega) H3
      refine ⟨(1 + v) :: ps, h4, ?_, by simp [p2]; omega, H4, ?_⟩
      · intro p hp
        rcases List.mem_cons.mp hp with rfl | hp
        · omega
        · exact p1 p hp
      · refine whileLim_step (h1 := h ++ [.lst (acc.map D.int), G]) (h2 := h3 ++ [.lst ((acc ++ [1 + v]).map D.int), G]) (sl1 := [some (.ref 1), some (.int legs), some (.ref (rest.length + 2)), some (.int (left - (1 + v))), some (.int most)]) (by simp [wcond, hl]) ?_ ?_
        · have al := atI_last (acc.map D.int) (.int (1 + v))
          simp [Kd.ok, lstOf, get_mid l1, e2, muop, get_mid l3, set_mid l3, hz, al]
        · rw [turnEnd_same (by simp [l3])]
          refine Eq.trans e4 ?_
          rw [List.append_assoc]
          rfl
    · have : left = 0 := by omega
      subst this
      exact ⟨[], h, by simp, rfl, H, by rw [whileLim_stop (h1 := h ++ [.lst (acc.map D.int), G]) (by simp [wcond])]; simp⟩
theorem dpart_eq (k : Nat) (legs : Int) (h0 : 0 ≤ legs) (h1 : legs ≤ 60) {h rest : Sto} (H : Hd h rest) (hr : Sto.clo 0 rest = true) : ∃ (ps : List Int) (h' : Sto), Pok legs ps ∧ Hd h' rest ∧ callN fns (k + 3) 23 [.ref 1, .int legs] h = .ok (tupI ps) h' := by
  obtain ⟨most, h2, hmost, H2, e2⟩ := anyInt_call (k := k) (xs := [1, 3, 20, 60]) (m := rest.length + 1) Q Q_ok any_fn Q_fn (H.more [.lst [], .lst [.int 1, .int 3, .int 20, .int 60]]) (by rw [List.getElem?_append_right (by omega)]; simp) (by simp) (by simp)
  obtain ⟨h3, H3, rfl⟩ := H2.drop
  have hm : 0 < most ∧ most < 1000 := by simp at hmost; omega
  obtain ⟨ps, h4, p1, p2, H4, e4⟩ := loopDp k legs most hm.1 hm.2 (.lst [.int 1, .int 3, .int 20, .int 60]) rest legs.toNat legs [] h3 (by omega) h0 h1 (by simp; omega) H3
  refine ⟨ps, h4, ⟨p1, p2⟩, H4, ?_⟩
  have l0 := H.len
  have l3 := H3.len
  have l4 := H4.len
  refine call_ref (fn := f_law_drawn_parting) rfl (by simp) (d := tupI ps) (h1 := h4 ++ [.lst (ps.map D.int), .lst [.int 1, .int 3, .int 20, .int 60]]) (runF_ret rfl ?_) ?_
  · show exss (callN fns (k + 2)) f_law_drawn_parting.body [some (.ref 1), some (.int legs), none, none, none] h = _
    rw [f_law_drawn_parting]
    simp at e2 e4
    simp [l0, e2, s_while', l3, e4, get_mid l4]
  · have c4 := H4.clo hr
    rw [l4] at c4
    simp [trunc, l0, take_mid l4, c4, clos_ints]
/-! ### the law's own test of a parting -/
def isL (legs : Int) (d : D) : Bool := match d with
  | .tup xs => xs.all pos && decide ((xs.map toI).sum = legs)
  | _ => false
theorem pos_sum : ∀ {xs : List D}, xs.all pos = true → (xs.length : Int) ≤ (xs.map toI).sum
  | [], _ => by simp
  | x :: xs, h => by
    rw [List.all_cons, Bool.and_eq_true] at h
    have ih := pos_sum h.2
    cases x <;> simp [pos] at h
    simp [toI]
    omega
theorem isL_raw {legs : Int} (hl : legs ≤ 60) (d : D) : isRaw legs d = isL legs d := by
  cases d with
  | tup xs =>
    by_cases h : xs.all pos = true
    · have := pos_sum h
      by_cases h2 : (xs.map toI).sum = legs
      · have h3 : xs.length ≤ 60 := by omega
        simp [isRaw, isRow, isL, h, h2, h3]
      · simp [isRaw, isRow, isL, h, h2]
    · simp only [Bool.not_eq_true] at h
      simp [isRaw, isRow, isL, h]
  | _ => simp [isRaw, isRow, isL]
theorem isl_eq (k : Nat) (legs : Int) (d : D) (hd : (d.clo 0 = true ∧ ∀ xs, d = .tup xs → xs.length ≤ 1000) ∨ isTupD d = false) (h : Sto) : callN fns (k + 1) 22 [.int legs, d] h = .ok (.bl (isL legs d)) h := by
  cases d with
  | tup xs =>
    have hd : D.clos 0 xs = true ∧ xs.length ≤ 1000 := by simpa [isTupD] using hd
    have z : (1000 : Nat) < sizeLine := by decide
    refine call_clo (fn := f_law_is_parting) rfl (by simpa using hd.1) (by simp) (h' := []) (runF_ret rfl ?_) h
    have e := e_all (c := callN fns k) (sl := [some (.int legs), some (.tup xs), none]) (h := []) (h1 := []) (elt := .and (.bi .isInt [.var 2]) (.and (.not (.bi .isBool [.var 2])) (.one (.cmp .gt (.var 2) (.cst (.int 0)))))) (tg := .nm 2) (own := [2]) (it := .var 1) (xs := xs) (ch := []) (f := pos) rfl (i_tup rfl) (by omega) trivial (fun x _ => by
      cases x <;> simp [turn, kills, pos])
    show exss _ f_law_is_parting.body [some (.int legs), some (.tup xs), none] [] = _
    rw [f_law_is_parting]
    by_cases h : xs.all pos = true
    · rw [h] at e
      simp [-e_trunc, e, isL, h, allInt_pos h]
    · simp only [Bool.not_eq_true] at h
      rw [h] at e
      simp [-e_trunc, e, isL, h]
  | _ =>
    refine call_pure (fn := f_law_is_parting) rfl (by simp) (fun h => runF_ret rfl ?_) h
    simp [-e_trunc, f_law_is_parting, isL]
theorem is_fn : fns[17]? = some lawIs := rfl
theorem bl_is (k : Nat) (b : Bool) (h : Sto) : callN fns (k + 1) 17 [.bl b, .bl b] h = .ok (.bl true) h := lawIs_call is_fn (toP_bl _ _ _) (toP_bl _ _ _) rfl (by simp [wt]; decide)
/-- one odd thing -/
theorem odd_eq (k : Nat) (js : List Int) (hj : Jok js) (d : D) (hd : (d.clo 0 = true ∧ ∀ xs, d = .tup xs → xs.length ≤ 1000) ∨ isTupD d = false) (h : Sto) (sl : SL) (h2 : sl[2]? = some (some (tupI js))) (h7 : sl[7]? = some (some d)) (h1 : sl[1]? = some (some (.int js.length))) :
    ev (callN fns (k + 5)) (.call 17 [.call 8 [.var 2, .var 7], .call 22 [.var 1, .var 7]]) sl h = .ok (.bl true) h := by
  have e1 := isp_eq k js hj d (hd.imp_left fun z => z.1) h
  have e2 := isl_eq (k + 4) js.length d hd h
  rw [isL_raw (by have := hj.1; omega)] at e1
  simp [h1, h2, h7, e1, e2, bl_is (k + 4)]
theorem wts_map {α : Type} (f : α → PyData) (b : Nat) (hf : ∀ a, wt (f a) ≤ b) : ∀ xs : List α, wts (xs.map f) ≤ (b + 2) * xs.length
  | [] => by simp [wts]
  | x :: xs => by
    have := wts_map f b hf xs
    have := hf x
    simp only [List.map_cons, wts, List.length_cons, Nat.mul_add]
    omega
theorem toP_pcs (h : Sto) (k : Nat) (js : List Int) : ∀ (at_ : Int) (ps : List Int), ∃ l : List (List Int), l.length = ps.length ∧ (∀ x ∈ l, x.length ≤ js.length ∧ ∀ y ∈ x, y ∈ js) ∧ pcs js at_ ps = l.map tupI
  | at_, [] => ⟨[], rfl, by simp, rfl⟩
  | at_, p :: ps => by
    obtain ⟨l, h1, h2, h3⟩ := toP_pcs h k js (at_ + p) ps
    refine ⟨((js.drop (HT.sIx js.length 0 (some at_))).take (HT.sIx js.length js.length (some (at_ + p)) - HT.sIx js.length 0 (some at_))) :: l, by simp [h1], ?_, by simp [pcs, h3, cutD_map]⟩
    intro x hx
    rcases List.mem_cons.mp hx with rfl | hx
    · refine ⟨by rw [List.length_take, List.length_drop]; omega, fun y hy => List.mem_of_mem_drop (List.mem_of_mem_take hy)⟩
    · exact h2 x hx
theorem allP_tupI (h : Sto) (k : Nat) : ∀ l : List (List Int), allP (toP h (k + 1)) (l.map tupI) = some (l.map fun x => .tuple (x.map .int))
  | [] => rfl
  | x :: l => by rw [List.map_cons, allP, allP_tupI h k l, toP_tup, allP_ints]; rfl
theorem pok_raw {legs : Int} {ps : List Int} (hl : legs ≤ 60) (hp : Pok legs ps) : isRaw legs (tupI ps) = true := by
  rw [isL_raw hl]
  have h1 : (ps.map D.int).all pos = true := by
    rw [List.all_eq_true]
    intro x hx
    obtain ⟨v, hv, rfl⟩ := List.mem_map.mp hx
    simpa [pos] using hp.1 v hv
  have h2 : ((ps.map D.int).map toI).sum = legs := by
    rw [List.map_map]
    have : (toI ∘ D.int) = id := rfl
    rw [this, List.map_id]
    exact hp.2
  simp only [isL, h1, h2]
  simp
/-- the data that both sides tell -/
def toldD (js ps : List Int) : List D := [.tup (pcs js 0 ps), tupI (brk 0 ps.dropLast), tupI ps]
theorem wt_ints (b : Nat) : ∀ (xs : List Int), (∀ x ∈ xs, x.natAbs.log2 + 4 ≤ b) → wts (xs.map .int) ≤ b * xs.length
  | [], _ => by simp [wts]
  | x :: xs, h => by
    have ih := wt_ints b xs fun y hy => h y (by simp [hy])
    have := h x (by simp)
    simp only [List.map_cons, wts, wt, List.length_cons, Nat.mul_add]
    omega
theorem pd_ints : ∀ (xs : List Int), (∀ x ∈ xs, x.natAbs.log2 < 1920) → pds (xs.map .int) = true
  | [], _ => by simp [pds]
  | x :: xs, h => by
    rw [List.map_cons, pds, pd_ints xs fun y hy => h y (by simp [hy])]
    simp [pd, h x (by simp)]
theorem log_small {x : Int} (h : 0 ≤ x) (h2 : x ≤ 100) : x.natAbs.log2 ≤ 6 := by
  have : x.natAbs < 2 ^ 7 := by omega
  by_cases h0 : x.natAbs = 0
  · rw [h0]; decide
  · have := (Nat.log2_lt h0).mpr this
    omega
theorem told_ok {legs : Int} (js ps : List Int) (hj : Jok js) (hl : (js.length : Int) = legs) (hp : Pok legs ps) : ∃ p, pd p = true ∧ wt p ≤ sizeLine ∧ ∀ (h : Sto) (m : Nat), h[m]? = some (.lst (toldD js ps)) → toP h dP (.ref m) = some p := by
  obtain ⟨l, l1, l2, l3⟩ := toP_pcs [] 0 js 0 ps
  have h60 : legs ≤ 60 := by have := hj.1; omega
  have hlen := pok_len hp.1
  have hb : ∀ b ∈ brk 0 ps.dropLast, 0 ≤ b ∧ b ≤ 60 := fun b hb => by
    have := brk_bounds (dropLast_pos hp.1) b hb
    have hs : ps.dropLast.sum ≤ ps.sum := by
      cases ps with
      | nil => simp
      | cons p ps => exact Int.le_of_lt (sum_dropLast (by simp) hp.1)
    have := hp.2
    omega
  have hpp : ∀ p ∈ ps, 0 ≤ p ∧ p ≤ 60 := fun p hm => by
    have h1 := hp.1 p hm
    have : p ≤ ps.sum := by
      clear hb l1 l3 hlen
      have hp1 := hp.1
      clear hp
      induction ps with
      | nil => simp at hm
      | cons q qs ih =>
        have hs := pok_len (ps := qs) fun z hz => hp1 z (by simp [hz])
        rcases List.mem_cons.mp hm with rfl | hm
        · simp; omega
        · have := ih hm (fun z hz => hp1 z (by simp [hz]))
          have := hp1 q (by simp)
          simp; omega
    have := hp.2
    omega
  have logj : ∀ x ∈ l, ∀ y ∈ x, y.natAbs.log2 ≤ 6 := fun x hx y hy => by
    have := hj.2 y ((l2 x hx).2 y hy)
    exact log_small (by omega) (by omega)
  refine ⟨.list [.tuple (l.map fun x => .tuple (x.map .int)), .tuple ((brk 0 ps.dropLast).map .int), .tuple (ps.map .int)], ?_, ?_, ?_⟩
  · have a : ∀ l : List (List Int), (∀ x ∈ l, ∀ y ∈ x, y.natAbs.log2 ≤ 6) → pds (l.map fun x => PyData.tuple (x.map .int)) = true := by
      intro l
      induction l with
      | nil => intro _; simp [pds]
      | cons x l ih =>
        intro h
        rw [List.map_cons, pds, ih fun z hz => h z (by simp [hz])]
        simp only [pd, Bool.and_true]
        exact pd_ints x fun y hy => by have := h x (by simp) y hy; omega
    have b1 := pd_ints (brk 0 ps.dropLast) fun y hy => by have := hb y hy; have := log_small this.1 (by omega); omega
    have b2 := pd_ints ps fun y hy => by have := hpp y hy; have := log_small this.1 (by omega); omega
    simp [pd, pds, a l logj, b1, b2]
  · have w1 := wts_map (fun x : List Int => PyData.tuple (x.map .int)) 603
    have w1 : wts (l.map fun x => PyData.tuple (x.map .int)) ≤ 605 * l.length := by
      have go : ∀ l : List (List Int), (∀ x ∈ l, x.length ≤ 60 ∧ ∀ y ∈ x, y.natAbs.log2 ≤ 6) → wts (l.map fun x => PyData.tuple (x.map .int)) ≤ 605 * l.length := by
        intro l
        induction l with
        | nil => intro _; simp [wts]
        | cons x l ih =>
          intro h
          have i1 := ih fun z hz => h z (by simp [hz])
          have h1 := h x (by simp)
          have i2 := wt_ints 10 x fun y hy => by have := h1.2 y hy; omega
          simp only [List.map_cons, wts, wt, List.length_cons, Nat.mul_add]
          have := h1.1
          omega
      exact go l fun x hx => ⟨by have := (l2 x hx).1; have := hj.1; omega, logj x hx⟩
    have w2 := wt_ints 10 (brk 0 ps.dropLast) fun y hy => by have := hb y hy; have := log_small this.1 (by omega); omega
    have w3 := wt_ints 10 ps fun y hy => by have := hpp y hy; have := log_small this.1 (by omega); omega
    rw [brk_length] at w2
    have hz : (100000 : Nat) ≤ sizeLine := by decide
    simp only [wt, wts]
    have hd : ps.dropLast.length ≤ ps.length := by rw [List.length_dropLast]; omega
    have hp60 : ps.length ≤ 60 := by have := hp.2; omega
    omega
  · intro h m e
    rw [show dP = 29 + 1 from rfl, toP_ref 29 e]
    simp only [toldD, allP, l3, toP_tup, show (29 : Nat) = 28 + 1 from rfl, allP_tupI h 27 l, allP_ints, Option.map_some, show (28 : Nat) = 27 + 1 from rfl]
abbrev eltR : X := .call 17 [.call 8 [.var 2, .var 7], .call 22 [.var 1, .var 7]]
theorem rep_tup (x : D) (n : Int) (h0 : 0 ≤ n) (h1 : n ≤ 100) (h : Sto) : binop .mul (.tup [x]) (.int n) h = .ok (.tup (List.replicate n.toNat x)) h := by
  have z : (1000 : Nat) < sizeLine := by decide
  have e : rep [x] n = List.replicate n.toNat x := by
    unfold rep
    induction n.toNat with
    | zero => rfl
    | succ m ih => rw [List.replicate_succ, List.flatten_cons, ih, List.replicate_succ]; rfl
  simp only [binop]
  rw [if_pos ⟨by omega, by omega, by simp; omega⟩, e]
theorem add_tup (xs ys : List D) (h : Sto) (hl : xs.length + ys.length ≤ 1000) : binop .add (.tup xs) (.tup ys) h = .ok (.tup (xs ++ ys)) h := by
  have z : (1000 : Nat) < sizeLine := by decide
  simp only [binop]
  rw [if_pos (by omega)]
/-- the odd things, the list at m, the dict behind it -/
def oddD (L : Int) (ps : List Int) (m : Nat) : List D := [tupI ps, .ref m, .tup ((ps.dropLast).map D.int), .tup (ps.map D.int ++ [.int 1]), .tup (ps.map D.int ++ [.int 0]), .tup [.int L], .tup (List.replicate L.toNat (.int 1)), .non, .str "1", .ref (m + 1)]
def oddE (L : Int) (ps : List Int) : List D := [.tup (List.replicate L.toNat (.bl true)), .tup (ps.map D.int).reverse, .tup [.int (-1), .int (L + 1)], .tup [.int L, .int 0], .tup (List.replicate L.toNat (.tup [.int 1])), .int L, .tup (List.replicate (L + 1).toNat (.int 1))]
theorem clos_rep (n : Nat) (x : D) (hx : x.clo n = true) (k : Nat) : D.clos n (List.replicate k x) = true := by
  rw [clos_all, List.all_eq_true]
  intro y hy
  rw [List.eq_of_mem_replicate hy]; exact hx
theorem odd_ok (L : Int) (ps : List Int) (m : Nat) (hl : ps.length ≤ 60) (h1 : L ≤ 60) : ∀ d ∈ oddD L ps m ++ oddE L ps, (d.clo 0 = true ∧ ∀ xs, d = .tup xs → xs.length ≤ 1000) ∨ isTupD d = false := by
  intro d hd
  have cr : D.clos 0 ((ps.map D.int).reverse) = true := by rw [← List.map_reverse]; exact clos_ints _ _
  simp only [oddD, oddE, List.cons_append, List.nil_append, List.mem_cons, List.not_mem_nil, or_false] at hd
  rcases hd with rfl | rfl | rfl | rfl | rfl | rfl | rfl | rfl | rfl | rfl | rfl | rfl | rfl | rfl | rfl | rfl | rfl
  · exact .inl ⟨clo_tupI _ _, fun xs e => by cases e; simp; omega⟩
  · exact .inr rfl
  · exact .inl ⟨clo_tupI _ _, fun xs e => by cases e; simp; omega⟩
  · exact .inl ⟨by simp [clos_ints], fun xs e => by cases e; simp; omega⟩
  · exact .inl ⟨by simp [clos_ints], fun xs e => by cases e; simp; omega⟩
  · exact .inl ⟨by simp, fun xs e => by cases e; simp⟩
  · exact .inl ⟨by simp [clos_rep], fun xs e => by cases e; simp; omega⟩
  · exact .inr rfl
  · exact .inr rfl
  · exact .inr rfl
  · exact .inl ⟨by simp [clos_rep], fun xs e => by cases e; simp; omega⟩
  · exact .inl ⟨by rw [clo_tup]; exact cr, fun xs e => by cases e; simp; omega⟩
  · exact .inl ⟨by simp, fun xs e => by cases e; simp⟩
  · exact .inl ⟨by simp, fun xs e => by cases e; simp⟩
  · exact .inl ⟨by simp [clos_rep], fun xs e => by cases e; simp; omega⟩
  · exact .inr rfl
  · exact .inl ⟨by simp [clos_rep], fun xs e => by cases e; simp; omega⟩
theorem right_eq (k : Nat) (L : Int) (h0 : 0 ≤ L) (h1 : L ≤ 60) {h rest : Sto} (H : Hd h rest) (hr : Sto.clo 0 rest = true) : ∃ h', Hd h' rest ∧ callN fns (k + 6) 24 [.ref 1, .int L] h = .ok (.bl true) h' := by
  obtain ⟨js, h2, j1, j2, H2, e18⟩ := journey_call (k := k + 3) (j := 18) Q Q_ok rfl Q_fn (kinds := 4) (legs := L) (by omega) (by omega) h0 (by omega) H hr
  obtain ⟨ps, h3, hp, H3, e23⟩ := dpart_eq (k + 2) L h0 h1 H2 hr
  have hj : Jok js := ⟨by omega, j2⟩
  have hps := pok_len hp.1
  have hsum := hp.2
  have hl : ps.length ≤ 60 := by omega
  have hraw : isRaw js.length (tupI ps) = true := by rw [j1]; exact pok_raw h1 hp
  have hrow : isRow (tupI ps) = true := by simp only [isRaw, Bool.and_eq_true] at hraw; exact hraw.1
  obtain ⟨p, t1, t2, t3⟩ := told_ok js ps hj j1 hp
  have l1 := H.len
  have l2 := H2.len
  have l3 := H3.len
  have c3 := H3.clo hr
  rw [l3] at c3
  -- the calls, by the names of their places
  have e18 : callN fns (k + 5) 18 [.ref 1, .int 4, .int L] h = .ok (tupI js) h2 := e18
  have e23 : callN fns (k + 5) 23 [.ref 1, .int L] h2 = .ok (tupI ps) h3 := e23
  have e20 : ∀ h, callN fns (k + 5) 20 [tupI ps] h = .ok (tupI (brk 0 ps.dropLast)) h := lbrk_eq (k + 4) ps hl
  have e10 : ∀ h, callN fns (k + 5) 10 [tupI js, tupI ps] h = .ok (.tup (pcs js 0 ps)) h := pieces_eq k js ps hj hraw
  have e12 : ∀ h, callN fns (k + 5) 12 [tupI ps] h = .ok (tupI (brk 0 ps.dropLast)) h := brk_eq (k + 1) ps hrow
  have e13 : ∀ h, callN fns (k + 5) 13 [.int L, tupI (brk 0 ps.dropLast)] h = .ok (tupI ps) h := back_eq (k + 1) L ps h0 h1 hp
  have e21 : ∀ h, callN fns (k + 5) 21 [tupI js, tupI ps] h = .ok (.tup (pcs js 0 ps)) h := lpcs_eq (k + 4) js ps hl
  have e17 : callN fns (k + 5) 17 [.ref (rest.length + 2), .ref (rest.length + 2 + 1)] (h3 ++ [.lst (toldD js ps), .lst (toldD js ps)]) = .ok (.bl true) (h3 ++ [.lst (toldD js ps), .lst (toldD js ps)]) :=
    lawIs_call (k := k + 4) is_fn (p := p) (t3 _ _ (get_mid l3)) (t3 _ _ (by
      have : (h3 ++ [O.lst (toldD js ps)]) ++ O.lst (toldD js ps) :: [] = h3 ++ [O.lst (toldD js ps), O.lst (toldD js ps)] := by simp
      rw [← this]
      exact get_mid (by simp [l3]))) t1 t2
  -- the store at the end
  generalize hn : rest.length + 2 = n at l1 l2 l3 c3 e17
  have lodd := odd_ok L ps (n + 2) hl h1
  let S : Sto := h3 ++ [.lst (toldD js ps), .lst (toldD js ps), .lst (ps.map D.int), .dct .k [], .lst (oddD L ps (n + 2)), .lst (oddE L ps), .lst (oddD L ps (n + 2) ++ oddE L ps)]
  have hS : S.length = n + 7 := by simp [S, l3]
  have sl : SL := []
  have turns : ∀ x ∈ oddD L ps (n + 2) ++ oddE L ps, turn (callN fns (k + 5)) [some (.ref 1), some (.int L), some (tupI js), some (tupI ps), some (tupI (brk 0 ps.dropLast)), some (.ref n), some (.ref (n + 6)), none] eltR (.nm 7) none [7] x S = .ok (some (.bl ((fun _ => true) x))) S := fun x hx => by
    have o := odd_eq k js hj x (lodd x hx) S [some (.ref 1), some (.int L), some (tupI js), some (tupI ps), some (tupI (brk 0 ps.dropLast)), some (.ref n), some (.ref (n + 6)), some x] rfl rfl (by rw [j1]; rfl)
    show (evc _ none [some (.ref 1), some (.int L), some (tupI js), some (tupI ps), some (tupI (brk 0 ps.dropLast)), some (.ref n), some (.ref (n + 6)), some x] S).bind _ = _
    rw [e_cnone]
    simp only [Res.bind_ok, if_true]
    show (ev (callN fns (k + 5)) eltR [some (.ref 1), some (.int L), some (tupI js), some (tupI ps), some (tupI (brk 0 ps.dropLast)), some (.ref n), some (.ref (n + 6)), some x] S).bind _ = _
    rw [o]
    rfl
  have hw : Sto.clo S.length S = true := by
    rw [hS]
    have cr : ∀ m, D.clos m ((ps.map D.int).reverse) = true := fun m => by rw [← List.map_reverse]; exact clos_ints _ _
    have cd : ∀ m, D.clos m ((ps.map D.int).dropLast) = true := fun m => by rw [← List.map_dropLast]; exact clos_ints _ _
    simp [S, sclo_append, sclo_mono (Nat.le_add_right n 7) h3 c3, toldD, oddD, oddE, clos_ints, pcs_clo, clos_rep, cr, cd, O.clo]
  have getS : S[n + 6]? = some (.lst (oddD L ps (n + 2) ++ oddE L ps)) := by
    simp [S, List.getElem?_append, l3]
  have zl : (oddD L ps (n + 2) ++ oddE L ps).length ≤ sizeLine := by
    have z : (100 : Nat) < sizeLine := by decide
    simp [oddD, oddE]; omega
  have ea := e_all (c := callN fns (k + 5)) (sl := [some (.ref 1), some (.int L), some (tupI js), some (tupI ps), some (tupI (brk 0 ps.dropLast)), some (.ref n), some (.ref (n + 6)), none]) (h := S) (h1 := S) (elt := eltR) (tg := .nm 7) (own := [7]) (it := .var 6) (xs := oddD L ps (n + 2) ++ oddE L ps) (ch := [(n + 6, .lst (oddD L ps (n + 2) ++ oddE L ps))]) (f := fun _ => true) hw (by
    rw [evI_val rfl, e_var]
    show itemsOf S.length (.ref (n + 6)) S = _
    unfold itemsOf
    simp only [getS]
    have : ¬ S.length ≤ n + 6 := by omega
    simp [this]) zl ⟨getS, trivial⟩ turns
  have al : (oddD L ps (n + 2) ++ oddE L ps).all (fun _ => true) = true := by simp
  rw [al] at ea
  refine ⟨h3, H3, call_ref (fn := f_law_is_right) rfl (by simp) (d := .bl true) (h1 := S) (runF_ret rfl ?_) ?_⟩
  · have dl : cutD (ps.map D.int) none (some (-1)) = ps.dropLast.map D.int := by rw [cutD_map, dropLast_cut]
    have r1 := fun h => rep_tup (.int 1) L h0 (by omega) h
    have r2 := fun h => rep_tup (.bl true) L h0 (by omega) h
    have r3 := fun h => rep_tup (.tup [.int 1]) L h0 (by omega) h
    have r4 := fun h => rep_tup (.int 1) (L + 1) (by omega) (by omega) h
    have a1 := fun h => add_tup (ps.map D.int) [.int 1] h (by simp; omega)
    have a0 := fun h => add_tup (ps.map D.int) [.int 0] h (by simp; omega)
    show exss (callN fns (k + 5)) f_law_is_right.body [some (.ref 1), some (.int L), none, none, none, none, none, none] h = _
    rw [f_law_is_right]
    have ad : binop .add (.ref (n + 4)) (.ref (n + 5)) (h3 ++ [.lst (toldD js ps), .lst (toldD js ps), .lst (ps.map D.int), .dct .k [], .lst (oddD L ps (n + 2)), .lst (oddE L ps)]) = .ok (.ref (n + 6)) S := by
      have a := add_lst (h := h3 ++ [.lst (toldD js ps), .lst (toldD js ps), .lst (ps.map D.int), .dct .k [], .lst (oddD L ps (n + 2)), .lst (oddE L ps)]) (a := n + 4) (b := n + 5) (xs := oddD L ps (n + 2)) (ys := oddE L ps) (by simp [List.getElem?_append, l3]) (by simp [List.getElem?_append, l3]) (by simp [oddD, oddE])
      rw [a]
      simp [S, l3]
    simp [-e_trunc, S, toldD, oddD, oddE] at e17 ea ad
    simp [-e_trunc, e18, e23, e20, e10, e12, e13, e21, l3, e17, sliceop, revop, dl, r1, r2, r3, r4, a1, a0, ad, ea, S, toldD, oddD, oddE]
  · simp [trunc, l1, S, take_mid l3, c3]
end Lawk01
namespace Lawk01
open PySem Ev
/-! ### all partings -/
def rowAt (T : List (List (List Int))) (j f : Nat) : List (List Int) := (T.getD (j - f) []).map fun r => ((f + 1 : Nat) : Int) :: r
def rowsOf (T : List (List (List Int))) (j : Nat) : List (List Int) := (List.range (j + 1)).flatMap (rowAt T j)
def tab : Nat → List (List (List Int))
  | 0 => [[[]]]
  | n + 1 => tab n ++ [rowsOf (tab n) n]
theorem tab_length : ∀ n, (tab n).length = n + 1
  | 0 => rfl
  | n + 1 => by rw [tab, List.length_append, tab_length n]; rfl
def rowsO (R : List (List Int)) : O := .lst (R.map tupI)
def found (j : Nat) : List D := .ref 0 :: (List.range j).map fun i => .ref (i + 2)
def stg (j : Nat) : Sto := .lst [.tup []] :: .lst (found j) :: ((tab j).drop 1).map rowsO
theorem stg_length (j : Nat) : (stg j).length = j + 2 := by simp [stg, tab_length]
theorem clos_tupIs (n : Nat) (R : List (List Int)) : D.clos n (R.map tupI) = true := clos_map n (fun x => clo_tupI n x) R
theorem clo_rowsO (n : Nat) : ∀ Rs : List (List (List Int)), Sto.clo n (Rs.map rowsO) = true
  | [] => rfl
  | R :: Rs => by rw [List.map_cons, sclo_cons, clo_rowsO n Rs]; simp [rowsO, clos_tupIs]
theorem clo_found (j n : Nat) (h : j + 2 ≤ n) : D.clos n (found j) = true := by
  rw [clos_all, List.all_eq_true]
  intro d hd
  simp only [found, List.mem_cons, List.mem_map, List.mem_range] at hd
  rcases hd with rfl | ⟨i, hi, rfl⟩
  · simp; omega
  · simp; omega
theorem clo_stg (j n : Nat) (h : j + 2 ≤ n) : Sto.clo n (stg j) = true := by
  simp only [stg, sclo_cons, oclo_lst, clo_found j n h, clo_rowsO, Bool.and_true]
  simp
theorem tab_pre : ∀ (n i : Nat), i ≤ n → (tab (n + 1))[i]? = (tab n)[i]?
  | n, i, h => by rw [tab, List.getElem?_append_left (by rw [tab_length]; omega)]
/-- what stands at a place of the table -/
theorem stg_at (j i : Nat) (h : i ≤ j) : ∃ m, L2.atI (found j) (i : Int) = some (.ref m) ∧ m < j + 2 ∧ (stg j)[m]? = some (rowsO ((tab j).getD i [])) := by
  have h0 : (0 : Int) ≤ (i : Int) := by omega
  have ht : i < (tab j).length := by rw [tab_length]; omega
  cases i with
  | zero =>
    refine ⟨0, by rw [atI_pos h0]; rfl, by omega, ?_⟩
    have : (tab j)[0]? = some [[]] := by
      clear h h0 ht
      induction j with
      | zero => rfl
      | succ j ih => rw [tab_pre j 0 (by omega)]; exact ih
    rw [List.getD_eq_getElem?_getD, this]
    rfl
  | succ i =>
    refine ⟨i + 2, ?_, by omega, ?_⟩
    · rw [atI_pos h0]
      have : ((i + 1 : Nat) : Int).toNat = i + 1 := Int.toNat_natCast _
      rw [this, found, List.getElem?_cons_succ, List.getElem?_map, List.getElem?_range (by omega)]
      rfl
    · simp [stg, List.getElem?_drop]
      exact ⟨(tab j)[i + 1], List.getElem?_eq_getElem ht, by rw [List.getElem?_eq_getElem ht]; rfl⟩
theorem tab_short : ∀ (n : Nat) (R : List (List Int)), R ∈ tab n → ∀ r ∈ R, r.length ≤ n
  | 0, R, hR, r, hr => by simp [tab] at hR; subst hR; simp at hr; subst hr; simp
  | n + 1, R, hR, r, hr => by
    rw [tab] at hR
    rcases List.mem_append.mp hR with h | h
    · have := tab_short n R h r hr; omega
    · have e : R = rowsOf (tab n) n := by simpa using h
      subst e
      simp only [rowsOf, List.mem_flatMap, rowAt, List.mem_map] at hr
      obtain ⟨f, _, q, hq, rfl⟩ := hr
      have : q.length ≤ n := by
        rw [List.getD_eq_getElem?_getD] at hq
        cases z : (tab n)[n - f]? with
        | none => rw [z] at hq; simp at hq
        | some R =>
          rw [z] at hq
          exact tab_short n R (List.mem_of_getElem? z) q hq
      simp; omega
theorem getD_short {n i : Nat} {r : List Int} (h : r ∈ (tab n).getD i []) : r.length ≤ n := by
  rw [List.getD_eq_getElem?_getD] at h
  cases z : (tab n)[i]? with
  | none => rw [z] at h; simp at h
  | some R => rw [z] at h; exact tab_short n R (List.mem_of_getElem? z) r h
abbrev bIn : List S := [.expr (.mu .extend (.var 3) [.comp (.bin .add (.tup [.var 4]) (.var 5)) (.nm 5) (.idx (.var 1) (.bin .sub (.var 2) (.var 4))) none [5]])]
theorem ev_found (c : CallT) (j f : Nat) (hf : f ≤ j) (L : D) (acc : List (List Int)) : ∃ m, ev c (.idx (.var 1) (.bin .sub (.var 2) (.var 4))) [some L, some (.ref 1), some (.int (j + 1)), some (.ref (j + 2)), some (.int (f + 1)), none] (stg j ++ [rowsO acc]) = .ok (.ref m) (stg j ++ [rowsO acc]) ∧ m < j + 2 ∧ (stg j ++ [rowsO acc])[m]? = some (rowsO ((tab j).getD (j - f) [])) := by
  obtain ⟨m, e1, e2, e3⟩ := stg_at j (j - f) (by omega)
  refine ⟨m, ?_, e2, ?_⟩
  · have g1 : (stg j ++ [rowsO acc])[1]? = some (.lst (found j)) := rfl
    have : (j + 1 : Int) - (f + 1) = ((j - f : Nat) : Int) := by omega
    simp [g1, this, e1]
  · rw [List.getElem?_append_left (by rw [stg_length]; exact e2)]
    exact e3
theorem loopIn (c : CallT) (j : Nat) (hj : j ≤ 100) (L : D) (hL : L.clo 0 = true) : ∀ (fs : List Nat) (acc : List (List Int)), (∀ f ∈ fs, f ≤ j) → acc.length + (fs.flatMap (rowAt (tab j) j)).length ≤ 10000 →
    forLoop (fturn c (.nm 4) bIn) [] [4] (j + 3) (fs.map fun f => .int ((f : Nat) + 1)) [some L, some (.ref 1), some (.int (j + 1)), some (.ref (j + 2)), none, none] (stg j ++ [rowsO acc]) = .ok (.nx [some L, some (.ref 1), some (.int (j + 1)), some (.ref (j + 2)), none, none]) (stg j ++ [rowsO (acc ++ fs.flatMap (rowAt (tab j) j))])
  | [], acc, _, _ => by simp [forLoop]
  | f :: fs, acc, hf, hl => by
    have z : (10000 : Nat) < sizeLine := by decide
    have hfj : f ≤ j := hf f (by simp)
    simp only [List.flatMap_cons, List.length_append] at hl
    have hra : ((tab j).getD (j - f) []).length = (rowAt (tab j) j f).length := by simp [rowAt]
    have ih := loopIn c j hj L hL fs (acc ++ rowAt (tab j) j f) (fun g hg => hf g (by simp [hg])) (by rw [List.length_append]; omega)
    obtain ⟨m, e1, e2, e3⟩ := ev_found c j f hfj L acc
    have sl3 := stg_length j
    have ec := e_comp (c := c) (sl := [some L, some (.ref 1), some (.int (j + 1)), some (.ref (j + 2)), some (.int (f + 1)), none]) (h := stg j ++ [rowsO acc]) (elt := .bin .add (.tup [.var 4]) (.var 5)) (tg := .nm 5) (cond := none) (own := [5]) (it := .idx (.var 1) (.bin .sub (.var 2) (.var 4))) (xs := ((tab j).getD (j - f) []).map tupI) (ch := [(m, rowsO ((tab j).getD (j - f) []))]) (h1 := stg j ++ [rowsO acc]) (by
        rw [evI_val rfl, e1]
        exact items_old e3 (by simp [sl3]; omega)) (by rw [List.length_map]; omega) (compLoop_map (g := fun d => match d with | .tup xs => .tup (.int (f + 1) :: xs) | d => d) ⟨e3, trivial⟩ (fun x hx => by
        obtain ⟨r, hr, rfl⟩ := List.mem_map.mp hx
        have ad : ∀ h, binop .add (.tup [.int ((f : Int) + 1)]) (tupI r) h = .ok (.tup (.int (f + 1) :: r.map D.int)) h := fun h => by
          have z2 : 1 + r.length ≤ sizeLine := by
            have := getD_short hr
            omega
          simp only [binop]
          rw [if_pos (by simpa using z2)]
          rfl
        simp [turn, kills, ad]))
    have hm : (((tab j).getD (j - f) []).map tupI).map (fun d => match d with | .tup xs => .tup (.int (f + 1) :: xs) | d => d) = (rowAt (tab j) j f).map tupI := by
      simp [rowAt, Function.comp_def]
    rw [hm] at ec
    have g3 : (stg j ++ [rowsO acc])[j + 2]? = some (.lst (acc.map tupI)) := get_mid sl3
    have step : exss c bIn [some L, some (.ref 1), some (.int (j + 1)), some (.ref (j + 2)), some (.int (f + 1)), none] (stg j ++ [rowsO acc]) = .ok (.nx [some L, some (.ref 1), some (.int (j + 1)), some (.ref (j + 2)), some (.int (f + 1)), none]) (stg j ++ [rowsO (acc ++ rowAt (tab j) j f), .lst ((rowAt (tab j) j f).map tupI)]) := by
      have g4 : (stg j ++ [rowsO acc, O.lst ((rowAt (tab j) j f).map tupI)])[j + 2]? = some (.lst (acc.map tupI)) := get_mid sl3
      have g5 : (stg j ++ [rowsO acc, O.lst ((rowAt (tab j) j f).map tupI)])[j + 2 + 1]? = some (.lst ((rowAt (tab j) j f).map tupI)) := by
        rw [List.getElem?_append_right (by omega), sl3]; simp
      have z3 : acc.length + (rowAt (tab j) j f).length ≤ sizeLine := by omega
      simp [Kd.ok, lstOf, g3, ec, sl3, muop, g4, g5, z3, set_mid sl3]
      simp [rowsO, z3]
    have te : turnEnd (j + 3) [4] [some L, some (.ref 1), some (.int (j + 1)), some (.ref (j + 2)), some (.int (f + 1)), none] (stg j ++ [rowsO (acc ++ rowAt (tab j) j f), .lst ((rowAt (tab j) j f).map tupI)]) = ([some L, some (.ref 1), some (.int (j + 1)), some (.ref (j + 2)), none, none], stg j ++ [rowsO (acc ++ rowAt (tab j) j f)]) := by
      have tk : (stg j ++ [rowsO (acc ++ rowAt (tab j) j f), O.lst ((rowAt (tab j) j f).map tupI)]).take (j + 3) = stg j ++ [rowsO (acc ++ rowAt (tab j) j f)] := by
        have : stg j ++ [rowsO (acc ++ rowAt (tab j) j f), O.lst ((rowAt (tab j) j f).map tupI)] = (stg j ++ [rowsO (acc ++ rowAt (tab j) j f)]) ++ [O.lst ((rowAt (tab j) j f).map tupI)] := by simp
        rw [this]
        exact take_mid (by simp [sl3])
      have c1 : Sto.clo (j + 3) (stg j ++ [rowsO (acc ++ rowAt (tab j) j f)]) = true := by
        rw [sclo_append, clo_stg j (j + 3) (by omega)]
        simp only [sclo_cons, sclo_nil, rowsO, oclo_lst, clos_tupIs]
        rfl
      unfold turnEnd
      rw [tk, c1]
      simp [kills, SL.clo, clo_mono (Nat.zero_le _) L hL]
    rw [List.map_cons, forLoop]
    have ft : fturn c (.nm 4) bIn (.int ((f : Nat) + 1)) [some L, some (.ref 1), some (.int (j + 1)), some (.ref (j + 2)), none, none] (stg j ++ [rowsO acc]) = exss c bIn [some L, some (.ref 1), some (.int (j + 1)), some (.ref (j + 2)), some (.int (f + 1)), none] (stg j ++ [rowsO acc]) := rfl
    rw [ft, step]
    simp only [Res.bind_ok]
    rw [te]
    simp only [chkOk, if_true]
    rw [ih]
    simp
abbrev bOut : List S := [.asg (.nm 3) (.lst []), .for (.nm 4) (.range [.cst (.int 1), .bin .add (.var 2) (.cst (.int 1))]) bIn [4], .expr (.mu .append (.var 1) [.var 3])]
theorem rows_small : ∀ j, j < 12 → (rowsOf (tab j) j).length ≤ 10000 := by decide +kernel
theorem i_rng {c : CallT} {sl : SL} {h : Sto} {j : Nat} (hj : j ≤ 100) (e : sl[2]? = some (some (.int ((j : Int) + 1)))) : evI c (.range [.cst (.int 1), .bin .add (.var 2) (.cst (.int 1))]) sl h = .ok ((List.range (j + 1)).map (fun f => .int ((f : Nat) + 1)), []) h := by
  rw [i_rng2 (i := 1) (j := (j : Int) + 1 + 1) (h1 := h) (h2 := h) (by simp) (by simp [e]) (by omega) (by omega) (by omega) (by omega)]
  have a4 : ((j : Int) + 1 + 1 - 1).toNat = j + 1 := by omega
  rw [a4, intsD]
  congr 2
  apply List.map_congr_left
  intro i _
  show D.int _ = D.int _
  rw [Int.add_comm]
theorem stg_succ (j : Nat) : (stg j ++ [rowsO (rowsOf (tab j) j)]).set 1 (.lst (found j ++ [.ref (j + 2)])) = stg (j + 1) := by
  simp only [stg, found, tab, List.range_succ]
  rw [List.drop_append_of_le_length (by rw [tab_length]; omega)]
  simp [rowsO]
theorem stepOut (c : CallT) (j : Nat) (hj : j < 12) (L : D) (hL : L.clo 0 = true) : ∃ sl1 h1, fturn c (.nm 2) bOut (.int ((j : Int) + 1)) [some L, some (.ref 1), none, none, none, none] (stg j) = .ok (.nx sl1) h1 ∧ turnEnd 2 [2, 3, 4] sl1 h1 = ([some L, some (.ref 1), none, none, none, none], stg (j + 1)) := by
  have z : (10000 : Nat) < sizeLine := by decide
  have sl3 := stg_length j
  have li := loopIn c j (by omega) L hL (List.range (j + 1)) [] (fun f hf => by have := List.mem_range.mp hf; omega) (by show 0 + _ ≤ _; rw [Nat.zero_add]; exact rows_small j hj)
  simp only [List.nil_append] at li
  have lf := s_forE (it := .range [.cst (.int 1), .bin .add (.var 2) (.cst (.int 1))]) li (i_rng (by omega) rfl) (by simp [sl3])
  have g1 : (stg j)[1]'(by rw [stg_length]; omega) = .lst (found j) := rfl
  have zf : (found j).length < sizeLine := by simp [found]; omega
  refine ⟨[some L, some (.ref 1), some (.int (j + 1)), some (.ref (j + 2)), none, none], stg (j + 1), ?_, ?_⟩
  · show exss c bOut [some L, some (.ref 1), some (.int (j + 1)), none, none, none] (stg j) = _
    have lf : exs c (.for (.nm 4) (.range [.cst (.int 1), .bin .add (.var 2) (.cst (.int 1))]) bIn [4]) [some L, some (.ref 1), some (.int (j + 1)), some (.ref (j + 2)), none, none] (stg j ++ [rowsO []]) = _ := lf
    have ss := stg_succ j
    have e0 : rowsO [] = O.lst [] := rfl
    rw [e0] at lf
    simp [sl3, lf, Kd.ok, lstOf, g1, muop, zf, rowsOf] at ss ⊢
    exact ss
  · unfold turnEnd
    have : Sto.clo 2 ((stg (j + 1)).take 2) = false := by
      simp [stg, found, List.range_succ]
    simp [kills, SL.clo, this]
theorem loopOut (c : CallT) (L : D) (hL : L.clo 0 = true) : ∀ (r j : Nat), j + r ≤ 12 → forLoop (fturn c (.nm 2) bOut) [] [2, 3, 4] 2 ((List.range r).map fun i => .int ((j : Int) + 1 + (i : Nat))) [some L, some (.ref 1), none, none, none, none] (stg j) = .ok (.nx [some L, some (.ref 1), none, none, none, none]) (stg (j + r))
  | 0, j, _ => by simp [forLoop]
  | r + 1, j, h => by
    have ih := loopOut c L hL r (j + 1) (by omega)
    obtain ⟨sl1, h1, e1, e2⟩ := stepOut c j (by omega) L hL
    rw [List.range_succ_eq_map, List.map_cons, forLoop]
    have e0 : ((j : Int) + 1 + ((0 : Nat) : Int)) = (j : Int) + 1 := by omega
    rw [e0, e1]
    simp only [Res.bind_ok, e2, chkOk, if_true]
    have e3 : ((List.range r).map Nat.succ).map (fun i => D.int ((j : Int) + 1 + (i : Nat))) = (List.range r).map fun i => .int (((j + 1 : Nat) : Int) + 1 + (i : Nat)) := by
      rw [List.map_map]
      apply List.map_congr_left
      intro i _
      show D.int _ = D.int _
      congr 1
      simp
      omega
    rw [e3, ih]
    congr 2
    omega
def PP (n : Nat) : List (List Int) := (tab n).getD n []
theorem partings_eq (k : Nat) (n : Nat) (hn : n ≤ 12) (h : Sto) : callN fns (k + 3) 11 [.int n] h = .ok (.ref h.length) (h ++ [rowsO (PP n)]) := by
  have hI : fns[0]? = some isIntegerF := rfl
  have hW : fns[1]? = some (isWithinF 0) := rfl
  have z : (10000 : Nat) < sizeLine := by decide
  obtain ⟨m, e1, e2, e3⟩ := stg_at n n (Nat.le_refl _)
  have lo := loopOut (callN fns (k + 2)) (.int n) (by simp) n 0 (by omega)
  have it : evI (callN fns (k + 2)) (.range [.cst (.int 1), .bin .add (.var 0) (.cst (.int 1))]) [some (.int (n : Int)), some (.ref 1), none, none, none, none] (stg 0) = .ok ((List.range n).map (fun i => .int (((0 : Nat) : Int) + 1 + (i : Nat))), []) (stg 0) := by
    rw [i_rng2 (i := 1) (j := (n : Int) + 1) (h1 := stg 0) (h2 := stg 0) (by simp) (by simp) (by omega) (by omega) (by omega) (by omega)]
    have a4 : ((n : Int) + 1 - 1).toNat = n := by omega
    rw [a4, intsD]
    congr 2
  have lf := s_forE (it := .range [.cst (.int 1), .bin .add (.var 0) (.cst (.int 1))]) lo it rfl
  rw [Nat.zero_add] at lf
  refine call_lst (fn := f_partings) rfl (by simp) (runF_ret rfl (h' := stg n) (d := .ref m) ?_) e3 (by simp [rowsO, clos_tupIs]) h
  show exss (callN fns (k + 2)) f_partings.body [some (.int (n : Int)), none, none, none, none, none] [] = _
  rw [f_partings]
  have g : ((n : Int) ≤ 12) := by omega
  have lf : exs (callN fns (k + 2)) (.for (.nm 2) (.range [.cst (.int 1), .bin .add (.var 0) (.cst (.int 1))]) bOut [2, 3, 4]) [some (.int (n : Int)), some (.ref 1), none, none, none, none] [.lst [.tup []], .lst [.ref 0]] = .ok (.nx [some (.int (n : Int)), some (.ref 1), none, none, none, none]) (stg n) := lf
  have g1 : (stg n)[1]? = some (.lst (found n)) := rfl
  simp [within_call hW hI, isWithin, g, lf, g1, e1]
/-! ### the law's own partings -/
theorem dLt_tup (a b : List Int) : PySem.W.dataLt (.tuple (a.map .int)) (.tuple (b.map .int)) = decide (a < b) := by
  rw [PySem.W.dataLt_tuple, ← PySem.W.dataLt_list]
  exact PySem.W.dataLt_ints a b
theorem sort_of {l a : List (List Int)} (h : a.Perm l) (ha : a.Pairwise (· ≤ ·)) : l.mergeSort (fun x y => decide (x ≤ y)) = a := by
  have hs := List.pairwise_mergeSort (le := fun x y : List Int => decide (x ≤ y)) (by
    intro x y z hxy hyz
    simp only [decide_eq_true_eq] at *
    exact List.le_trans hxy hyz) (by
    intro x y
    simp only [Bool.or_eq_true, decide_eq_true_eq]
    exact List.le_total x y) l
  have hp : (l.mergeSort (fun x y => decide (x ≤ y))).Perm a := (List.mergeSort_perm l _).trans h.symm
  refine hp.eq_of_pairwise (le := fun x y => x ≤ y) (fun x y _ _ h1 h2 => List.le_antisymm h1 h2) ?_ ha
  exact hs.imp fun h => by simpa using h
theorem enc_tupI (h : Sto) (r : List Int) : enc h (tupI r) = .tuple (r.map .int) := by
  unfold enc
  rw [show dP = 29 + 1 from rfl, toP_tup, allP_ints]
  rfl
theorem dataLe_tupI (h : Sto) (a b : List Int) : PySem.W.dataLe false (enc h) (tupI a) (tupI b) = decide (a ≤ b) := by
  show (!PySem.W.dataLt (enc h (tupI b)) (enc h (tupI a))) = _
  rw [enc_tupI, enc_tupI, dLt_tup]
  by_cases h : b < a
  · have h' : ¬ a ≤ b := fun r => List.not_lt.mpr r h
    simp [h, h']
  · have h' : a ≤ b := List.not_lt.mp h
    simp [h, h']
theorem sortD_of {h : Sto} {l a : List (List Int)} (hp : a.Perm l) (ha : a.Pairwise (· ≤ ·)) (hl : l.length ≤ 10000) (hne : ∀ r ∈ l, r ≠ []) : sortD h (l.map tupI) = some (a.map tupI) := by
  have z : (10000 : Nat) < sizeLine := by decide
  have al : alikeB (l.map fun x => PyData.tuple (x.map .int)) = true := by
    unfold alikeB
    rw [List.all_eq_true]
    intro x hx
    rw [List.all_eq_true]
    intro y hy
    obtain ⟨a, _, rfl⟩ := List.mem_map.mp hx
    obtain ⟨b, _, rfl⟩ := List.mem_map.mp hy
    simp only [PySem.W.alike]
    exact PySem.W.alike_ints a b
  have so : sortableB (l.map fun x => PyData.tuple (x.map .int)) = true := by
    unfold sortableB
    rw [Bool.or_eq_true]
    refine .inl ?_
    rw [List.all_eq_true]
    intro x hx
    obtain ⟨a, ha, rfl⟩ := List.mem_map.mp hx
    cases a with
    | nil => exact absurd rfl (hne [] ha)
    | cons y ys => rfl
  unfold sortD
  rw [show dP = 29 + 1 from rfl, allP_tupI h 29 l]
  simp only [al, so, List.length_map]
  rw [decide_eq_true (show l.length ≤ sizeLine by omega)]
  simp only [Bool.and_self, if_true]
  congr 1
  rw [← sort_of hp ha]
  exact (List.map_mergeSort (f := tupI) (fun x _ y _ => (dataLe_tupI h x y).symm)).symm
abbrev It := List Int × Int
def itm (p : It) : D := .tup [tupI p.1, .int p.2]
def stk (fs : List It) (ws : List (List Int)) : Sto := [.lst (fs.map itm), .lst (ws.map tupI)]
theorem clo_itm (n : Nat) (p : It) : (itm p).clo n = true := by simp [itm, clos_ints]
theorem clos_itms (n : Nat) (fs : List It) : D.clos n (fs.map itm) = true := clos_map n (fun p => clo_itm n p) fs
theorem allP_itm (h : Sto) (k : Nat) : ∀ fs : List It, allP (toP h (k + 2)) (fs.map itm) = some (fs.map fun p => .tuple [.tuple (p.1.map .int), .int p.2])
  | [] => rfl
  | p :: fs => by
    rw [List.map_cons, allP, allP_itm h k fs]
    have : toP h (k + 2) (itm p) = some (.tuple [.tuple (p.1.map .int), .int p.2]) := by
      rw [itm, toP_tup]
      simp [allP, toP_tup, allP_ints, toP_int]
    rw [this]; rfl
theorem lay_itm : ∀ fs : List It, PyData.canLayAll0 (fs.map fun p => .tuple [.tuple (p.1.map .int), .int p.2]) = true
  | [] => by simp [PyData.canLayAll0]
  | p :: fs => by
    rw [List.map_cons, PyData.canLayAll0, lay_itm fs]
    simp [PyData.canLay0, PyData.canLayAll0, lay_ints]
theorem ne_nil (fs : List It) {h : Sto} {a b : Nat} (ha : h[a]? = some (.lst (fs.map itm))) (hb : h[b]? = some (.lst [])) : cmpop .ne (.ref a) (.ref b) h = .ok (.bl (!fs.isEmpty)) h := by
  have e : dP = 27 + 2 + 1 := rfl
  simp only [cmpop, e, toP_ref _ ha, toP_ref _ hb, allP_itm, Option.map_some, allP]
  have l1 : PyData.canLay0 (.list (fs.map fun p => .tuple [.tuple (p.1.map .int), .int p.2])) = true := by simp only [PyData.canLay0]; exact lay_itm fs
  have l2 : PyData.canLay0 (.list []) = true := by simp [PyData.canLay0, PyData.canLayAll0]
  rw [l1, l2]
  simp only [Bool.and_self, if_true]
  cases fs with
  | nil => simp [PyData.eqv, PyData.eqvAll]
  | cons p fs => simp [PyData.eqv, PyData.eqvAll]
abbrev cW : X := .cmp .ne (.var 1) (.lst [])
abbrev bW : List S := [.asg (.tup [.nm 3, .nm 4]) (.mu .pop (.var 1) []), .ite (.cmp .eq (.var 4) (.var 0)) [.expr (.mu .append (.var 2) [.var 3])] [.expr (.mu .extend (.var 1) [.comp (.tup [.bin .add (.var 3) (.tup [.var 5]), .bin .add (.var 4) (.var 5)]) (.nm 5) (.range [.cst (.int 1), .bin .add (.bin .sub (.var 0) (.var 4)) (.cst (.int 1))]) none [5]])]]
abbrev slW (L : Int) : SL := [some (.int L), some (.ref 0), some (.ref 1), none, none, none]
noncomputable abbrev wl (c : CallT) (L : Int) (fs : List It) (ws : List (List Int)) : Res Out := whileLim (wcond c cW) (fun sl h => exss c bW sl h) [3, 4] 2 (slW L) (stk fs ws)
theorem condW (c : CallT) (L : Int) (fs : List It) (ws : List (List Int)) : wcond c cW (slW L) (stk fs ws) = .ok (!fs.isEmpty) (stk fs ws ++ [.lst []]) := by
  have e := ne_nil fs (h := stk fs ws ++ [.lst []]) (a := 0) (b := 2) rfl rfl
  simp [wcond, stk] at e ⊢
  rw [e]
  simp
theorem condT (c : CallT) (L : Int) (fs : List It) (p : It) (ws : List (List Int)) : wcond c cW (slW L) (stk (fs ++ [p]) ws) = .ok true (stk (fs ++ [p]) ws ++ [.lst []]) := by
  rw [condW]; simp
theorem turnW (L : Int) (x y : D) (fs : List It) (ws : List (List Int)) (more : Sto) : turnEnd 2 [3, 4] [some (.int L), some (.ref 0), some (.ref 1), some x, some y, none] (stk fs ws ++ more) = (slW L, stk fs ws) := by
  have tk : (stk fs ws ++ more).take 2 = stk fs ws := take_mid rfl
  have c1 : Sto.clo 2 (stk fs ws) = true := by simp [stk, clos_itms, clos_tupIs]
  unfold turnEnd
  rw [tk, c1]
  simp [kills, SL.clo]
theorem popW (fs : List It) (p : It) : ((fs ++ [p]).map itm).getLast? = some (itm p) ∧ ((fs ++ [p]).map itm).dropLast = fs.map itm := by simp
theorem stepLeaf (c : CallT) (L : Int) (fs : List It) (ws : List (List Int)) (r : List Int) (hw : ws.length < 10000) {o : Out} {h' : Sto} (hR : wl c L fs (ws ++ [r]) = .ok o h') : wl c L (fs ++ [(r, L)]) ws = .ok o h' := by
  have z : (10000 : Nat) < sizeLine := by decide
  have zw : ws.length < sizeLine := by omega
  refine whileLim_step (sl1 := [some (.int L), some (.ref 0), some (.ref 1), some (tupI r), some (.int L), none]) (h2 := stk fs (ws ++ [r]) ++ [.lst []]) (condT c L fs _ ws) ?_ (by rw [turnW]; exact hR)
  simp [stk, Kd.ok, lstOf, muop, itm, zw]
theorem stepNode (c : CallT) (L : Int) (n : Nat) (hn : n + 1 ≤ 12) (fs : List It) (ws : List (List Int)) (r : List Int) (hr : r.length ≤ 100) (hf : fs.length ≤ 1000) (hL : 0 ≤ L) (hL2 : L ≤ 100) {o : Out} {h' : Sto} (hR : wl c L (fs ++ (List.range (n + 1)).map fun f => (r ++ [((f + 1 : Nat) : Int)], L - (n + 1 : Nat) + (f + 1 : Nat))) ws = .ok o h') : wl c L (fs ++ [(r, L - (n + 1 : Nat))]) ws = .ok o h' := by
  have z : (10000 : Nat) < sizeLine := by decide
  let kids : List It := (List.range (n + 1)).map fun f => (r ++ [((f + 1 : Nat) : Int)], L - (n + 1 : Nat) + (f + 1 : Nat))
  have zf : fs.length + (n + 1) ≤ sizeLine := by omega
  have zr : r.length + 1 ≤ sizeLine := by omega
  have ne : ¬ L - ((n : Int) + 1) = L := by omega
  have ec := e_comp (c := c) (sl := [some (.int L), some (.ref 0), some (.ref 1), some (tupI r), some (.int (L - (n + 1 : Nat))), none]) (h := stk fs ws ++ [.lst []]) (elt := .tup [.bin .add (.var 3) (.tup [.var 5]), .bin .add (.var 4) (.var 5)]) (tg := .nm 5) (cond := none) (own := [5]) (it := .range [.cst (.int 1), .bin .add (.bin .sub (.var 0) (.var 4)) (.cst (.int 1))]) (xs := intsD 1 (n + 1)) (ch := []) (h1 := stk fs ws ++ [.lst []]) (by
      rw [i_rng2 (i := 1) (j := L - (L - (n + 1 : Nat)) + 1) (h1 := stk fs ws ++ [.lst []]) (h2 := stk fs ws ++ [.lst []]) (by simp) (by simp) (by omega) (by omega) (by omega) (by omega)]
      have : (L - (L - ((n + 1 : Nat) : Int)) + 1 - 1).toNat = n + 1 := by omega
      rw [this]) (by rw [intsD_length]; omega) (compLoop_map (g := fun d => match d with | .int m => itm (r ++ [m], L - (n + 1 : Nat) + m) | d => d) trivial (fun x hx => by
      unfold intsD at hx
      obtain ⟨i, _, rfl⟩ := List.mem_map.mp hx
      simp [turn, kills, binop, zr, itm]))
  have hk : (intsD 1 (n + 1)).map (fun d => match d with | .int m => itm (r ++ [m], L - (n + 1 : Nat) + m) | d => d) = kids.map itm := by
    simp only [intsD, kids, List.map_map]
    apply List.map_congr_left
    intro i _
    show itm (r ++ [1 + (i : Int)], L - (n + 1 : Nat) + (1 + (i : Int))) = itm (r ++ [((i + 1 : Nat) : Int)], L - (n + 1 : Nat) + ((i + 1 : Nat) : Int))
    have : 1 + (i : Int) = ((i + 1 : Nat) : Int) := by omega
    rw [this]
  rw [hk] at ec
  refine whileLim_step (sl1 := [some (.int L), some (.ref 0), some (.ref 1), some (tupI r), some (.int (L - (n + 1 : Nat))), none]) (h2 := stk (fs ++ kids) ws ++ [.lst [], .lst (kids.map itm)]) (condT c L fs _ ws) ?_ (by rw [turnW]; exact hR)
  have kl : kids.length = n + 1 := by simp [kids]
  simp [stk] at ec
  simp [stk, Kd.ok, lstOf, muop, itm, ne, ec, kl, zf]
theorem getD_tab : ∀ (n i : Nat), i ≤ n → (tab n).getD i [] = PP i
  | 0, i, h => by
    have : i = 0 := by omega
    subst this; rfl
  | n + 1, i, h => by
    by_cases e : i = n + 1
    · subst e; rfl
    · have ih := getD_tab n i (by omega)
      rw [← ih, List.getD_eq_getElem?_getD, List.getD_eq_getElem?_getD, tab_pre n i (by omega)]
theorem flatMap_eq {α β : Type} {f g : α → List β} : ∀ {l : List α}, (∀ x ∈ l, f x = g x) → l.flatMap f = l.flatMap g
  | [], _ => rfl
  | x :: l, h => by rw [List.flatMap_cons, List.flatMap_cons, h x (by simp), flatMap_eq fun y hy => h y (by simp [hy])]
theorem PP_succ (n : Nat) : PP (n + 1) = (List.range (n + 1)).flatMap fun f => (PP (n - f)).map fun q => ((f + 1 : Nat) : Int) :: q := by
  have e : PP (n + 1) = rowsOf (tab n) n := by
    unfold PP
    rw [List.getD_eq_getElem?_getD, tab, List.getElem?_append_right (by rw [tab_length]; omega), tab_length]
    simp
  rw [e, rowsOf]
  apply flatMap_eq
  intro f hf
  have := List.mem_range.mp hf
  unfold rowAt
  rw [getD_tab n (n - f) (by omega)]
def GG (n : Nat) (r : List Int) (j : Nat) : List (List Int) := (List.range j).reverse.flatMap fun f => (PP (n - f)).reverse.map fun q => (r ++ [((f + 1 : Nat) : Int)]) ++ q
theorem GG_succ (n : Nat) (r : List Int) (j : Nat) : GG n r (j + 1) = ((PP (n - j)).reverse.map fun q => (r ++ [((j + 1 : Nat) : Int)]) ++ q) ++ GG n r j := by
  unfold GG
  rw [List.range_succ, List.reverse_append]
  simp
theorem GG_all (n : Nat) (r : List Int) : GG n r (n + 1) = (PP (n + 1)).reverse.map fun q => r ++ q := by
  unfold GG
  rw [PP_succ, List.reverse_flatMap, List.map_flatMap]
  apply flatMap_eq
  intro f _
  simp [Function.comp_def]
theorem proc (c : CallT) (L : Int) (hL : 0 ≤ L) (hL2 : L ≤ 100) {o : Out} {h' : Sto} : ∀ (m n : Nat), n ≤ m → n ≤ 12 → ∀ (fs : List It) (ws : List (List Int)) (r : List Int), r.length + n ≤ 100 → fs.length + 20 * n ≤ 1000 → ws.length + (PP n).length ≤ 9999 →
    wl c L fs (ws ++ (PP n).reverse.map fun q => r ++ q) = .ok o h' → wl c L (fs ++ [(r, L - (n : Nat))]) ws = .ok o h' := by
  intro m
  induction m with
  | zero =>
    intro n hn h12 fs ws r hr hf hw hR
    have : n = 0 := by omega
    subst this
    have e : L - ((0 : Nat) : Int) = L := by omega
    rw [e]
    have p0 : (PP 0).reverse.map (fun q => r ++ q) = [r] := by simp [PP, tab]
    rw [p0] at hR
    exact stepLeaf c L fs ws r (by omega) hR
  | succ m ih =>
    intro n hn h12 fs ws r hr hf hw hR
    cases n with
    | zero => exact ih 0 (by omega) h12 fs ws r hr hf hw hR
    | succ n =>
      refine stepNode c L n h12 fs ws r (by omega) (by omega) hL hL2 ?_
      have B : ∀ j, j ≤ n + 1 → ∀ ws : List (List Int), ws.length + (GG n r j).length ≤ 9999 → wl c L fs (ws ++ GG n r j) = .ok o h' → wl c L (fs ++ (List.range j).map fun f => (r ++ [((f + 1 : Nat) : Int)], L - (n + 1 : Nat) + (f + 1 : Nat))) ws = .ok o h' := by
        intro j
        induction j with
        | zero =>
          intro _ ws _ hR
          have : GG n r 0 = [] := rfl
          rw [this, List.append_nil] at hR
          simpa using hR
        | succ j ihj =>
          intro hj ws hw hR
          rw [GG_succ] at hw hR
          simp only [List.length_append, List.length_map, List.length_reverse] at hw
          rw [List.range_succ, List.map_append, ← List.append_assoc]
          have e : L - ((n + 1 : Nat) : Int) + ((j + 1 : Nat) : Int) = L - ((n - j : Nat) : Int) := by omega
          have e1 : [j].map (fun f => ((r ++ [((f + 1 : Nat) : Int)], L - ((n + 1 : Nat) : Int) + ((f + 1 : Nat) : Int)) : It)) = [(r ++ [((j + 1 : Nat) : Int)], L - ((n - j : Nat) : Int))] := by
            rw [← e]; rfl
          rw [e1]
          refine ih (n - j) (by omega) (by omega) _ ws (r ++ [((j + 1 : Nat) : Int)]) (by simp; omega) (by simp; omega) (by omega) ?_
          refine ihj (by omega) _ (by simp; omega) ?_
          rw [List.append_assoc]
          exact hR
      have ga := GG_all n r
      refine B (n + 1) (Nat.le_refl _) ws (by rw [ga]; simpa using hw) (by rw [ga]; exact hR)
theorem PP_small : ∀ n, n ≤ 12 → (PP n).length ≤ 5000 := by
  intro n hn
  cases n with
  | zero => decide
  | succ n =>
    have e : PP (n + 1) = rowsOf (tab n) n := by
      unfold PP
      rw [List.getD_eq_getElem?_getD, tab, List.getElem?_append_right (by rw [tab_length]; omega), tab_length]
      simp
    rw [e]
    have : ∀ j, j < 12 → (rowsOf (tab j) j).length ≤ 5000 := by decide +kernel
    exact this n (by omega)
theorem PP_asc : ∀ n, (PP n).Pairwise (· ≤ ·) := by
  intro n
  induction n using Nat.strongRecOn with
  | ind n ih =>
    cases n with
    | zero => simp [PP, tab]
    | succ n =>
      rw [PP_succ]
      rw [List.pairwise_flatMap]
      refine ⟨fun f hf => ?_, ?_⟩
      · rw [List.pairwise_map]
        have := ih (n - f) (by omega)
        exact this.imp fun h => List.cons_le_cons_iff.mpr (.inr ⟨rfl, h⟩)
      · refine List.Pairwise.imp_of_mem ?_ List.pairwise_lt_range
        intro f g _ _ hfg x hx y hy
        obtain ⟨p, _, rfl⟩ := List.mem_map.mp hx
        obtain ⟨q, _, rfl⟩ := List.mem_map.mp hy
        refine List.le_of_lt (List.Lex.rel ?_)
        omega
theorem PP_ne (n : Nat) (h : 1 ≤ n) : ∀ r ∈ PP n, r ≠ [] := by
  obtain ⟨m, rfl⟩ := Nat.exists_eq_add_of_le' h
  intro r hr e
  rw [PP_succ] at hr
  obtain ⟨f, _, hr⟩ := List.mem_flatMap.mp hr
  obtain ⟨q, _, rfl⟩ := List.mem_map.mp hr
  cases e
theorem lparts_eq (k n : Nat) (h1 : 1 ≤ n) (h2 : n ≤ 12) (h : Sto) : callN fns (k + 1) 19 [.int n] h = .ok (.ref h.length) (h ++ [rowsO (PP n)]) := by
  have hs := PP_small n h2
  have stop : wl (callN fns k) n [] ([] ++ (PP n).reverse.map fun q => [] ++ q) = .ok (.nx (slW n)) (stk [] (PP n).reverse ++ [.lst []]) := by
    have e : ([] ++ (PP n).reverse.map fun q => [] ++ q) = (PP n).reverse := by simp
    rw [e]
    exact whileLim_stop (by rw [condW]; simp)
  have run := proc (callN fns k) n (by omega) (by omega) n n (Nat.le_refl _) h2 [] [] [] (by simp; omega) (by simp; omega) (by simp; omega) stop
  have e0 : ((n : Int) - (n : Nat)) = 0 := by omega
  rw [e0] at run
  have wh : exs (callN fns k) (.while cW bW [3, 4]) (slW n) [.lst [.tup [.tup [], .int 0]], .lst []] = .ok (.nx (slW n)) (stk [] (PP n).reverse ++ [.lst []]) := by
    rw [s_while']; exact run
  have so : sortD (stk [] (PP n).reverse ++ [.lst []]) ((PP n).reverse.map tupI) = some ((PP n).map tupI) := sortD_of (List.reverse_perm _).symm (PP_asc n) (by rw [List.length_reverse]; omega) (fun r hr => PP_ne n h1 r (by simpa using hr))
  refine call_lst (fn := f_law_partings) (m := 3) (h' := stk [] (PP n).reverse ++ [.lst [], rowsO (PP n)]) rfl (by simp) (runF_ret rfl ?_) rfl (by simp [rowsO, clos_tupIs]) h
  show exss (callN fns k) f_law_partings.body [some (.int (n : Int)), none, none, none, none, none] [] = _
  rw [f_law_partings]
  have g : (stk [] (PP n).reverse ++ [O.lst []])[1]? = some (.lst ((PP n).reverse.map tupI)) := rfl
  simp [stk] at wh so
  simp [wh, lstOf, so, stk, rowsO]
/-! ### the law -/
theorem forLoop_ex {f : D → SL → Sto → Res Out} {kill : List Nat} {n : Nat} {sl : SL} {P : Sto → Prop} : ∀ {xs : List D} {h : Sto}, P h → (∀ x ∈ xs, ∀ h, P h → ∃ sl1 h1 h', f x sl h = .ok (.nx sl1) h1 ∧ turnEnd n kill sl1 h1 = (sl, h') ∧ P h') → ∃ h', P h' ∧ forLoop f [] kill n xs sl h = .ok (.nx sl) h'
  | [], h, hp, _ => ⟨h, hp, by simp [forLoop]⟩
  | x :: xs, h, hp, hf => by
    obtain ⟨sl1, h1, h2, e1, e2, p2⟩ := hf x (by simp) h hp
    obtain ⟨h3, p3, e3⟩ := forLoop_ex (f := f) (kill := kill) (n := n) (sl := sl) (xs := xs) p2 fun y hy => hf y (by simp [hy])
    refine ⟨h3, p3, ?_⟩
    simp only [forLoop, e1, Res.bind_ok, e2, chkOk, if_true]
    exact e3
theorem eqv_rows : ∀ R S : List (List Int), PyData.eqvAll (R.map fun x => .tuple (x.map .int)) (S.map fun x => .tuple (x.map .int)) = decide (R = S)
  | [], [] => by simp [PyData.eqvAll]
  | [], _ :: _ => by simp [PyData.eqvAll]
  | _ :: _, [] => by simp [PyData.eqvAll]
  | x :: R, y :: S => by
    rw [List.map_cons, List.map_cons, PyData.eqvAll, eqv_rows R S]
    have e : PyData.eqv (.tuple (x.map .int)) (.tuple (y.map .int)) = decide (x = y) := by rw [← eqvAll_ints]; simp [PyData.eqv]
    rw [e]
    by_cases h1 : x = y <;> by_cases h2 : R = S <;> simp [h1, h2]
theorem lay_rows : ∀ R : List (List Int), PyData.canLayAll0 (R.map fun x => .tuple (x.map .int)) = true
  | [] => by simp [PyData.canLayAll0]
  | x :: R => by
    rw [List.map_cons, PyData.canLayAll0, lay_rows R]
    simp [PyData.canLay0, lay_ints]
theorem ne_rows {h : Sto} {a b : Nat} {R S : List (List Int)} (ha : h[a]? = some (rowsO R)) (hb : h[b]? = some (rowsO S)) : cmpop .ne (.ref a) (.ref b) h = .ok (.bl (!decide (R = S))) h := by
  have e : dP = 28 + 1 + 1 := rfl
  simp only [cmpop, e, toP_ref _ ha, toP_ref _ hb, allP_tupI, Option.map_some]
  have l1 : ∀ R : List (List Int), PyData.canLay0 (.list (R.map fun x => .tuple (x.map .int))) = true := fun R => by simp only [PyData.canLay0]; exact lay_rows R
  rw [l1, l1]
  simp only [Bool.and_self, if_true]
  rw [show PyData.eqv (.list (R.map fun x => .tuple (x.map .int))) (.list (S.map fun x => .tuple (x.map .int))) = PyData.eqvAll (R.map fun x => .tuple (x.map .int)) (S.map fun x => .tuple (x.map .int)) by simp [PyData.eqv], eqv_rows]
theorem PP_in : ∀ (n : Nat), ∀ r ∈ PP n, r.length ≤ n ∧ ∀ x ∈ r, 0 ≤ x ∧ x ≤ n := by
  intro n
  induction n using Nat.strongRecOn with
  | ind n ih =>
    cases n with
    | zero => intro r hr; simp [PP, tab] at hr; subst hr; simp
    | succ n =>
      intro r hr
      rw [PP_succ] at hr
      obtain ⟨f, hf, hr⟩ := List.mem_flatMap.mp hr
      obtain ⟨q, hq, rfl⟩ := List.mem_map.mp hr
      have hf := List.mem_range.mp hf
      obtain ⟨q1, q2⟩ := ih (n - f) (by omega) q hq
      refine ⟨by simp; omega, fun x hx => ?_⟩
      rcases List.mem_cons.mp hx with rfl | hx
      · omega
      · have := q2 x hx; omega
theorem is_rows (k : Nat) {h : Sto} {a b n : Nat} (hn : n ≤ 12) (ha : h[a]? = some (rowsO (PP n))) (hb : h[b]? = some (rowsO (PP n))) : callN fns (k + 1) 17 [.ref a, .ref b] h = .ok (.bl true) h := by
  have hin := PP_in n
  have hs := PP_small n hn
  have to : ∀ m, h[m]? = some (rowsO (PP n)) → toP h dP (.ref m) = some (.list ((PP n).map fun x => .tuple (x.map .int))) := fun m e => by
    rw [show dP = 28 + 1 + 1 from rfl, toP_ref _ e, allP_tupI]; rfl
  have lg : ∀ r ∈ PP n, ∀ x ∈ r, x.natAbs.log2 ≤ 6 := fun r hr x hx => by
    have := (hin r hr).2 x hx
    exact log_small this.1 (by omega)
  refine lawIs_call is_fn (to a ha) (to b hb) ?_ ?_
  · have go : ∀ l : List (List Int), (∀ r ∈ l, ∀ x ∈ r, x.natAbs.log2 ≤ 6) → pds (l.map fun x => PyData.tuple (x.map .int)) = true := by
      intro l
      induction l with
      | nil => intro _; simp [pds]
      | cons x l ih =>
        intro h
        rw [List.map_cons, pds, ih fun z hz => h z (by simp [hz])]
        simp only [pd, Bool.and_true]
        exact pd_ints x fun y hy => by have := h x (by simp) y hy; omega
    simp only [pd]
    exact go _ lg
  · have go : ∀ l : List (List Int), (∀ r ∈ l, r.length ≤ 12 ∧ ∀ x ∈ r, x.natAbs.log2 ≤ 6) → wts (l.map fun x => PyData.tuple (x.map .int)) ≤ 125 * l.length := by
      intro l
      induction l with
      | nil => intro _; simp [wts]
      | cons x l ih =>
        intro h
        have i1 := ih fun z hz => h z (by simp [hz])
        have h1 := h x (by simp)
        have i2 := wt_ints 10 x fun y hy => by have := h1.2 y hy; omega
        simp only [List.map_cons, wts, wt, List.length_cons, Nat.mul_add]
        have := h1.1
        omega
    have w := go (PP n) fun r hr => ⟨by have := (hin r hr).1; omega, lg r hr⟩
    have hz : (1000000 : Nat) ≤ sizeLine := by decide
    simp only [wt]
    omega
end Lawk01
namespace Lawk01
open PySem Ev
abbrev depth : Nat := 20
abbrev restL : Sto := [rowsO (PP 3), rowsO [[1, 1, 1], [1, 2], [2, 1], [3]], rowsO (PP 0), rowsO [[]]]
theorem PP3 : PP 3 = [[1, 1, 1], [1, 2], [2, 1], [3]] := by decide
theorem PP0 : PP 0 = [[]] := by decide
theorem clo_rest : Sto.clo 0 restL = true := by
  have := clo_rowsO 0 [PP 3, [[1, 1, 1], [1, 2], [2, 1], [3]], PP 0, [[]]]
  exact this
abbrev slL (ns : List Int) : SL := [some (.fl (ns.map D.int)), some (.ref 1), none]
abbrev bF1 : List S := [.ite (.not (.call 17 [.call 11 [.var 2], .call 19 [.var 2]])) [.ret (.cst (.bl false))] []]
abbrev bF2 : List S := [.ite (.not (.call 24 [.var 1, .var 2])) [.ret (.cst (.bl false))] []]
theorem clo_fl' (ns : List Int) (n : Nat) : D.clo n (.fl (ns.map D.int)) = true := by simp [clos_ints]
theorem f1_turn (ns : List Int) (n : Nat) (h1 : 1 ≤ n) (h2 : n ≤ 12) (h : Sto) (H : Hd h restL) : ∃ sl1 h1, fturn (callN fns 19) (.nm 2) bF1 (.int n) (slL ns) h = .ok (.nx sl1) h1 ∧ turnEnd 6 [2] sl1 h1 = (slL ns, h) := by
  have lh := H.len
  have lh : h.length = 6 := lh
  have e11 : callN fns 19 11 [.int n] h = .ok (.ref h.length) (h ++ [rowsO (PP n)]) := partings_eq 16 n h2 h
  have e19 : callN fns 19 19 [.int n] (h ++ [rowsO (PP n)]) = .ok (.ref (h ++ [rowsO (PP n)]).length) ((h ++ [rowsO (PP n)]) ++ [rowsO (PP n)]) := lparts_eq 18 n h1 h2 _
  have e17 : callN fns 19 17 [.ref 6, .ref 7] (h ++ [rowsO (PP n), rowsO (PP n)]) = .ok (.bl true) (h ++ [rowsO (PP n), rowsO (PP n)]) := is_rows 18 h2 (get_mid lh) (by rw [List.getElem?_append_right (by omega), lh]; rfl)
  refine ⟨[some (.fl (ns.map D.int)), some (.ref 1), some (.int n)], h ++ [rowsO (PP n), rowsO (PP n)], ?_, ?_⟩
  · show exss (callN fns 19) bF1 [some (.fl (ns.map D.int)), some (.ref 1), some (.int n)] h = _
    simp [lh] at e11 e19
    simp [e11, e19, e17]
  · have c1 := H.clo clo_rest
    rw [lh] at c1
    unfold turnEnd
    rw [take_mid lh, c1]
    simp [kills, SL.clo, clos_ints]
theorem f2_turn (ns : List Int) (n : Nat) (h2 : n ≤ 60) (h : Sto) (H : Hd h restL) : ∃ sl1 h1 h', fturn (callN fns 19) (.nm 2) bF2 (.int n) (slL ns) h = .ok (.nx sl1) h1 ∧ turnEnd 6 [2] sl1 h1 = (slL ns, h') ∧ Hd h' restL := by
  obtain ⟨h3, H3, e⟩ := right_eq 13 n (by omega) (by omega) H clo_rest
  have e : callN fns 19 24 [.ref 1, .int n] h = .ok (.bl true) h3 := e
  refine ⟨[some (.fl (ns.map D.int)), some (.ref 1), some (.int n)], h3, h3, ?_, ?_, H3⟩
  · show exss (callN fns 19) bF2 [some (.fl (ns.map D.int)), some (.ref 1), some (.int n)] h = _
    simp [e]
  · have l3 : h3.length = 6 := H3.len
    rw [turnEnd_same l3]
    rfl
theorem ones : brk 0 (List.replicate 60 1).dropLast = (List.range 59).map fun i => (1 : Int) + (i : Nat) := by decide +kernel
theorem ones_row : isRow (tupI (List.replicate 60 1)) = true := by decide +kernel
theorem intsD_map (lo : Int) (n : Nat) : intsD lo n = ((List.range n).map fun i => lo + (i : Nat)).map D.int := by
  unfold intsD; rw [List.map_map]; rfl
theorem end1 (sl : SL) (h : Sto) (hw : Sto.clo h.length h = true) : ev (callN fns 19) (.cmp .eq (.call 12 [.bin .mul (.tup [.cst (.int 1)]) (.cst (.int 60))]) (.trunc (.bi .tuple [.lrange [.cst (.int 1), .cst (.int 60)]]))) sl h = .ok (.bl true) h := by
  have e12 : callN fns 19 12 [tupI (List.replicate 60 1)] h = .ok (tupI ((List.range 59).map fun i => (1 : Int) + (i : Nat))) h := by
    rw [← ones]; exact brk_eq 15 _ ones_row h
  have m : binop .mul (.tup [.int 1]) (.int 60) h = .ok (tupI (List.replicate 60 1)) h := by
    have := rep_tup (.int 1) 60 (by omega) (by omega) h
    rw [this, show (60 : Int).toNat = 60 from rfl, tupI, List.map_replicate]
  have c1 : ev (callN fns 19) (.call 12 [.bin .mul (.tup [.cst (.int 1)]) (.cst (.int 60))]) sl h = .ok (tupI ((List.range 59).map fun i => (1 : Int) + (i : Nat))) h := by
    rw [e_call, e_cons, e_bin, e_tup, e_cons, e_cst]
    simp only [Res.bind_ok, e_nil, e_cst, m, e12]
  have c2 : ev (callN fns 19) (.trunc (.bi .tuple [.lrange [.cst (.int 1), .cst (.int 60)]])) sl h = .ok (tupI ((List.range 59).map fun i => (1 : Int) + (i : Nat))) h := by
    have rg : rngOf [.int 1, .int 60] = some (1, 60) := by decide
    rw [e_trunc, e_bi, e_cons, e_lrange, e_cons, e_cst]
    simp only [Res.bind_ok, e_nil, e_cons, e_cst, rg]
    rw [show ((60 : Int) - 1).toNat = 59 from rfl, intsD_map]
    simp only [biop]
    rw [show seqOf (h ++ [O.lst (((List.range 59).map fun i => (1 : Int) + (i : Nat)).map D.int)]) (.ref h.length) = some (((List.range 59).map fun i => (1 : Int) + (i : Nat)).map D.int) by simp only [seqOf]; rw [get_mid rfl]]
    simp only [Res.bind_ok]
    unfold trunc
    rw [take_mid rfl, hw, if_pos rfl, clo_tup, clos_ints, if_pos rfl]
  rw [e_cmp, c1]
  simp only [Res.bind_ok, c2]
  rw [eq_tupI]
  simp
theorem end2 (sl : SL) (h : Sto) : ev (callN fns 19) (.cmp .eq (.call 13 [.cst (.int 60), .tup []]) (.tup [.cst (.int 60)])) sl h = .ok (.bl true) h := by
  have e13 : callN fns 19 13 [.int 60, .tup []] h = .ok (tupI [60]) h := pby_eq 15 60 [] (by omega) (by omega) (by simp) (by simp) rfl h
  have q := eq_tupI [60] [60] h
  simp at q
  simp [e13, q, tupI]
theorem end3 (sl : SL) (h : Sto) : ev (callN fns 19) (.cmp .eq (.call 13 [.cst (.int 0), .tup []]) (.tup [])) sl h = .ok (.bl true) h := by
  have e13 : callN fns 19 13 [.int 0, .tup []] h = .ok (.tup []) h := pby0_eq 15 h
  have q := eq_tupI [] [] h
  simp at q
  simp [e13, q]
theorem plain (ns : List Int) (hn : ns.length ≤ 63) : ∃ h', callN fns depth 25 [.fl (ns.map D.int)] [] = .ok (.bl true) h' := by
  refine ⟨[], ?_⟩
  obtain ⟨h1, H1, e14⟩ := handA_call (fns := fns) (k := 18) (i := 14) (cut := 60) (ten := 10) (e := 42) (a := 9444) (b := 11) rfl (by omega) (by omega) (by omega) (by omega) (by decide) hn
  have e14 : callN fns 19 14 [.fl (ns.map D.int)] [] = .ok (.ref 1) h1 := e14
  have l1 : h1.length = 2 := H1.len
  have H2 : Hd (h1 ++ restL) restL := H1.more restL
  have e11a : callN fns 19 11 [.int 3] h1 = .ok (.ref h1.length) (h1 ++ [rowsO (PP 3)]) := partings_eq 16 3 (by omega) h1
  have e11b : callN fns 19 11 [.int 0] (h1 ++ [rowsO (PP 3), rowsO [[1, 1, 1], [1, 2], [2, 1], [3]]]) = .ok (.ref (h1 ++ [rowsO (PP 3), rowsO [[1, 1, 1], [1, 2], [2, 1], [3]]]).length) ((h1 ++ [rowsO (PP 3), rowsO [[1, 1, 1], [1, 2], [2, 1], [3]]]) ++ [rowsO (PP 0)]) := partings_eq 16 0 (by omega) _
  have n1 := ne_rows (h := h1 ++ [rowsO (PP 3), rowsO [[1, 1, 1], [1, 2], [2, 1], [3]]]) (a := 2) (b := 3) (R := PP 3) (S := [[1, 1, 1], [1, 2], [2, 1], [3]]) (get_mid l1) (by rw [List.getElem?_append_right (by omega), l1]; rfl)
  have n2 := ne_rows (h := h1 ++ restL) (a := 4) (b := 5) (R := PP 0) (S := [[]]) (by rw [List.getElem?_append_right (by omega), l1]; rfl) (by rw [List.getElem?_append_right (by omega), l1]; rfl)
  rw [decide_eq_true PP3] at n1
  rw [decide_eq_true PP0] at n2
  obtain ⟨h3, H3, f1⟩ := forLoop_ex (f := fturn (callN fns 19) (.nm 2) bF1) (kill := [2]) (n := 6) (sl := slL ns) (P := fun h => Hd h restL) (xs := [.int 1, .int 2, .int 5, .int 9, .int 12]) H2 (fun x hx h H => by
    simp only [List.mem_cons, List.not_mem_nil, or_false] at hx
    rcases hx with rfl | rfl | rfl | rfl | rfl
    · obtain ⟨sl1, h1, e1, e2⟩ := f1_turn ns 1 (by omega) (by omega) h H; exact ⟨sl1, h1, h, e1, e2, H⟩
    · obtain ⟨sl1, h1, e1, e2⟩ := f1_turn ns 2 (by omega) (by omega) h H; exact ⟨sl1, h1, h, e1, e2, H⟩
    · obtain ⟨sl1, h1, e1, e2⟩ := f1_turn ns 5 (by omega) (by omega) h H; exact ⟨sl1, h1, h, e1, e2, H⟩
    · obtain ⟨sl1, h1, e1, e2⟩ := f1_turn ns 9 (by omega) (by omega) h H; exact ⟨sl1, h1, h, e1, e2, H⟩
    · obtain ⟨sl1, h1, e1, e2⟩ := f1_turn ns 12 (by omega) (by omega) h H; exact ⟨sl1, h1, h, e1, e2, H⟩)
  obtain ⟨h4, H4, f2⟩ := forLoop_ex (f := fturn (callN fns 19) (.nm 2) bF2) (kill := [2]) (n := 6) (sl := slL ns) (P := fun h => Hd h restL) (xs := [.int 0, .int 1, .int 2, .int 3, .int 7, .int 30, .int 59, .int 60]) H3 (fun x hx h H => by
    simp only [List.mem_cons, List.not_mem_nil, or_false] at hx
    rcases hx with rfl | rfl | rfl | rfl | rfl | rfl | rfl | rfl
    · exact f2_turn ns 0 (by omega) h H
    · exact f2_turn ns 1 (by omega) h H
    · exact f2_turn ns 2 (by omega) h H
    · exact f2_turn ns 3 (by omega) h H
    · exact f2_turn ns 7 (by omega) h H
    · exact f2_turn ns 30 (by omega) h H
    · exact f2_turn ns 59 (by omega) h H
    · exact f2_turn ns 60 (by omega) h H)
  have l2 : (h1 ++ restL).length = 6 := H2.len
  have l3 : h3.length = 6 := H3.len
  have g1 := s_forE (h := h1 ++ restL) (h1 := h1 ++ restL) (ch := []) (it := .tup [.cst (.int 1), .cst (.int 2), .cst (.int 5), .cst (.int 9), .cst (.int 12)]) f1 (by rw [evI_val rfl]; simp [itemsOf]) l2
  have g2 := s_forE (h := h3) (h1 := h3) (ch := []) (it := .tup [.cst (.int 0), .cst (.int 1), .cst (.int 2), .cst (.int 3), .cst (.int 7), .cst (.int 30), .cst (.int 59), .cst (.int 60)]) f2 (by rw [evI_val rfl]; simp [itemsOf]) l3
  have c4 := H4.clo clo_rest
  refine call_clo (fn := f_law) rfl (by simp [clos_ints]) (by simp) (h' := h4) (runF_ret rfl ?_) []
  show exss (callN fns 19) f_law.body [some (.fl (ns.map D.int)), none, none] [] = _
  rw [f_law]
  have lit1 : rowsO [[1, 1, 1], [1, 2], [2, 1], [3]] = .lst [.tup [.int 1, .int 1, .int 1], .tup [.int 1, .int 2], .tup [.int 2, .int 1], .tup [.int 3]] := rfl
  have lit2 : rowsO [[]] = .lst [.tup []] := rfl
  simp only [lit1, lit2, restL, List.append_assoc, List.cons_append, List.nil_append] at e11b n1 n2 g1
  simp [l1] at e11a e11b
  have gs : exs (callN fns 19) (.ret (.and (.cmp .eq (.call 12 [.bin .mul (.tup [.cst (.int 1)]) (.cst (.int 60))]) (.trunc (.bi .tuple [.lrange [.cst (.int 1), .cst (.int 60)]]))) (.and (.cmp .eq (.call 13 [.cst (.int 60), .tup []]) (.tup [.cst (.int 60)])) (.one (.cmp .eq (.call 13 [.cst (.int 0), .tup []]) (.tup [])))))) (slL ns) h4 = .ok (.ret (.bl true)) h4 := by
    rw [s_ret', e_and, end1 _ _ c4]
    simp only [Res.bind_ok]
    rw [e_and, end2]
    simp only [Res.bind_ok, e_one, end3]
  simp [-e_trunc, -s_ret', e14, e11a, e11b, l1, n1, n2, g1, g2, gs]
end Lawk01
namespace Lawk01
open PySem PySem.Spec PyProof.Rows L2 Ev
abbrev R : PySem.W.OpenRow := PySem.W.OpenLaw.row PySem.Challenge.rw_legsandfares_k01_whole_partings_breaks_a
abbrev hk : PySem.W.Hook := He.hookD 4 (faOf dfs blts (cstFa csts)) (dfs.map toD)
def ob (s : PySem.W.SharedT) : He.AlD := He.obsDG 4 (faOf dfs blts (cstFa csts)) (dfs.map toD) (HandSHeadRun.getT s)
theorem ob_eq (s : PySem.W.SharedT) : ob s = hk.obs s.abs := He.obsDG_eq (HandSHeadRun.getT_eq s)
def loose0 : List Str := ["is_integer", "is_within", "is_tuple", "is_lot", "FareError", "NoNumber", "NoJourney", "NoParting", "NoLot", "MOST_KINDS", "MOST_SHORT", "MOST_BY_LEGS", "is_raw_journey", "check_short", "is_row_of_pieces", "is_raw_parting", "is_parting", "raw_pieces", "pieces", "partings", "breaks_of", "parting_by", "_law_hand", "_law_draw", "_law_any", "_law_is", "_law_journey", "_law_partings", "_law_breaks", "_law_pieces"]
def loose1 : List Str := ["_law_is_parting", "_law_drawn_parting", "_law_is_right"]
abbrev loose : List Str := loose0 ++ loose1
theorem run (w : World) : HandSHeadRun.RunEq R (PySem.W.view R.prog [37]) hk ob 20000 loose w := by
  intro os
  kernel_rfl
end Lawk01
open PySem PySem.W PySem.Calls PyProof.Rows
theorem PySem.Challenge.cw_legsandfares_k01_whole_partings_breaks_a_holds : PySem.Challenge.rw_legsandfares_k01_whole_partings_breaks_a.Holds := by
  w_on; o_law
  refine HandSHeadRun.head_any (r := OpenLaw.row PySem.Challenge.rw_legsandfares_k01_whole_partings_breaks_a) (q := view (OpenLaw.row PySem.Challenge.rw_legsandfares_k01_whole_partings_breaks_a).prog [37]) (H := Lawk01.hk) (ob := Lawk01.ob) (M := 20000) (loose := Lawk01.loose) (d := HandSHeadRun.topDef (OpenLaw.row PySem.Challenge.rw_legsandfares_k01_whole_partings_breaks_a).prog 37) (kwd := []) Lawk01.ob_eq
    (by kernel_rfl) (fun s => by kernel_rfl) Lawk01.run (by kernel_rfl) (by kernel_rfl) (by kernel_rfl) (by rfl) (by first | assumption | decide +kernel) (by decide +kernel) ⟨rfl, rfl, rfl, rfl, rfl, by decide +kernel⟩ ?hw ?hc
  case hw => w_witness2
  case hc =>
    exact Ev.walk_ev (l := PySem.Challenge.rw_legsandfares_k01_whole_partings_breaks_a) (n := 63) (k := Lawk01.depth) (iLaw := 25) (x := "script") (dfs := Lawk01.dfs) (fns := Lawk01.fns) (B := Lawk01.blts) (C := Lawk01.csts) (fuel := 60) (dl := Lawk01.df_law) rfl (by decide) (by kernel_rfl) ⟨rfl, by decide, by decide⟩ rfl (by kernel_rfl) rfl
      (fun _ _ y => y) Lawk01.binds (by decide +kernel) (by decide +kernel) Lawk01.checked Lawk01.plain
