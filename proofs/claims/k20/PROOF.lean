import PyProof.Rows.All
import Wide.All
import OpenK.AllK
import Wide.FinOn
import HandS.ForMost
import HandS.Wide
import HandS.Walk
import HandS.Zip
import HandS.Rev
import HandS.Flow
import HandS.IsInst
import HandS.TupAny
import HandS.Defaults
import HandS.More
import HandS.SortInts
import HandS.Conv
import HandS.RaiseMore
import HandS.Style
import PyProof.ReprRoads
import KE.GoesMore
import HandS.EndBits
import PySem.Challenge.RW_waketurns_k20_mirror_numbers_known
set_option Elab.async false
set_option linter.all false
set_option maxRecDepth 100000
/-! A small machine of plain data (values D, a store of objects O) in which the text's defs are run as Lean functions. -/
namespace Wk
open PySem PySem.Spec PyProof.Rows L2

inductive D where
  | non | bl (b : Bool) | int (i : Int) | str (x : Str) | tup (ds : List D) | loc (l : Nat)
inductive O where
  | lst (ds : List D)
  | scr (ds : List D)
  | dK (kvs : List (Key × D))
abbrev Sto := List O
abbrev Env := List (Option D)
inductive Res (α : Type) where
  | ok (a : α) (S : Sto)
  | no
def Res.wp {α : Type} (r : Res α) (Q : α → Sto → Prop) : Prop := match r with
  | .ok a S => Q a S
  | .no => False
def Res.bind {α β : Type} (r : Res α) (k : α → Sto → Res β) : Res β := match r with
  | .ok a S => k a S
  | .no => .no
section
variable {α β : Type}
@[simp] theorem wp_ok {a : α} {S : Sto} {Q : α → Sto → Prop} : (Res.ok a S).wp Q ↔ Q a S := Iff.rfl
@[simp] theorem wp_no {Q : α → Sto → Prop} : (Res.no : Res α).wp Q ↔ False := Iff.rfl
@[simp] theorem bind_ok {a : α} {S : Sto} {k : α → Sto → Res β} : (Res.ok a S).bind k = k a S := rfl
@[simp] theorem bind_no {k : α → Sto → Res β} : (Res.no : Res α).bind k = .no := rfl
@[simp] theorem wp_bind {r : Res α} {k : α → Sto → Res β} {Q : β → Sto → Prop} : (r.bind k).wp Q ↔ r.wp fun a S => (k a S).wp Q := by
  cases r <;> rfl
theorem wp_mono {r : Res α} {Q Q' : α → Sto → Prop} (h : r.wp Q) (hq : ∀ a S, Q a S → Q' a S) : r.wp Q' := by
  cases r with
  | ok a S => exact hq a S h
  | no => exact h
theorem wp_iff {r : Res α} {Q : α → Sto → Prop} : r.wp Q ↔ ∃ a S, r = .ok a S ∧ Q a S := by
  cases r with
  | ok a S => exact ⟨fun h => ⟨a, S, rfl, h⟩, fun ⟨a', S', e, h⟩ => by cases e; exact h⟩
  | no => exact ⟨fun h => h.elim, fun ⟨_, _, e, _⟩ => by cases e⟩
/-- a partial value becomes a result -/
def ofO (o : Option α) (S : Sto) : Res α := match o with
  | some a => .ok a S
  | none => .no
@[simp] theorem ofO_some {a : α} {S : Sto} : ofO (some a) S = .ok a S := rfl
@[simp] theorem ofO_none {S : Sto} : ofO (none : Option α) S = .no := rfl
end

/-! ### data as a whole -/
mutual
def fz (g : Nat → Option PyData) : D → Option PyData
  | .non => some .none
  | .bl b => some (.bool b)
  | .int i => some (.int i)
  | .str x => some (.str x)
  | .tup ds => (fzs g ds).map .tuple
  | .loc l => g l
def fzs (g : Nat → Option PyData) : List D → Option (List PyData)
  | [] => some []
  | d :: ds => match fz g d with
    | some p => (fzs g ds).map (p :: ·)
    | none => none
end
def stoG (S : Sto) : Nat → Nat → Option PyData
  | 0, _ => none
  | n + 1, l => match S[l]? with
    | some (.lst ds) => (fzs (stoG S n) ds).map .list
    | some (.scr ds) => (fzs (stoG S n) ds).map .list
    | _ => none
def dat (S : Sto) (d : D) : Option PyData := fz (stoG S 12) d

/-- the items of a tuple or a list -/
def items (S : Sto) : D → Option (List D)
  | .tup ds => some ds
  | .loc l => match S[l]? with
    | some (.lst ds) => some ds
    | some (.scr ds) => some ds
    | _ => none
  | _ => none
/-- a list that may be changed -/
def lstAt (S : Sto) (l : Nat) : Option (List D) := match S[l]? with
  | some (.lst ds) => some ds
  | _ => none
def allInts : List D → Option (List Int)
  | [] => some []
  | .int i :: r => (allInts r).map (i :: ·)
  | _ :: _ => none
def allBls : List D → Option (List Bool)
  | [] => some []
  | .bl b :: r => (allBls r).map (b :: ·)
  | _ :: _ => none
def allStrs : List D → Option (List Str)
  | [] => some []
  | .str x :: r => (allStrs r).map (x :: ·)
  | _ :: _ => none
def flatD : D → Bool
  | .non => true
  | .bl _ => true
  | .int _ => true
  | .str _ => true
  | _ => false

/-! ### operators -/
inductive BOp where | add | sub | mul | fdiv | mod | pow
inductive COp where | eq | ne | lt | le | gt | ge | isN | notN | isin | notin

open Classical in
noncomputable def binop (op : BOp) (a b : D) (S : Sto) : Res D := match op, a, b with
  | .add, .int i, .int j => .ok (.int (i + j)) S
  | .sub, .int i, .int j => .ok (.int (i - j)) S
  | .mul, .int i, .int j => if CMul i j ∨ CMulW i j then .ok (.int (i * j)) S else .no
  | .fdiv, .int i, .int j => if CDiv i j ∨ CDivW i j then .ok (.int (i / j)) S else .no
  | .mod, .int i, .int j => if 0 < j then .ok (.int (i % j)) S else .no
  | .pow, .int i, .int j => if CPow i j then .ok (.int (i ^ j.toNat)) S else .no
  | .add, .str x, .str y => if x.length + y.length ≤ sizeLine then .ok (.str (x ++ y)) S else .no
  | .add, .tup xs, .tup ys => if xs.length + ys.length ≤ sizeLine then .ok (.tup (xs ++ ys)) S else .no
  | .add, .loc l, .loc m => match lstAt S l, lstAt S m with
    | some xs, some ys => if xs.length + ys.length ≤ sizeLine then .ok (.loc S.length) (S ++ [.lst (xs ++ ys)]) else .no
    | _, _ => .no
  | _, _, _ => .no

/-- == of two single things -/
def fastEq : D → D → Option Bool
  | .non, .non => some true
  | .int i, .int j => some (i == j)
  | .bl i, .bl j => some (i == j)
  | .str x, .str y => some (x == y)
  | .non, .bl _ => some false
  | .non, .int _ => some false
  | .non, .str _ => some false
  | .bl _, .non => some false
  | .bl _, .str _ => some false
  | .int _, .non => some false
  | .int _, .str _ => some false
  | .str _, .non => some false
  | .str _, .bl _ => some false
  | .str _, .int _ => some false
  | _, _ => none
open Classical in
/-- == of two data, as wholes -/
noncomputable def deepEq (S : Sto) (a b : D) : Option Bool := match dat S a, dat S b with
  | some p, some q => if SeqAt.shaped p = true ∧ SeqAt.shaped q = true then some (PyData.eqv p q) else none
  | _, _ => none
noncomputable def eqD (S : Sto) (a b : D) : Option Bool := match fastEq a b with
  | some c => some c
  | none => deepEq S a b
def eqFlat : D → D → Bool
  | .int i, .int j => i == j
  | .bl i, .int j => (if i then (1 : Int) else 0) == j
  | .int i, .bl j => i == (if j then (1 : Int) else 0)
  | .bl i, .bl j => i == j
  | .str x, .str y => x == y
  | .non, .non => true
  | _, _ => false
def inFlat (x : D) (ds : List D) : Bool := ds.any fun y => eqFlat y x
open Classical in
noncomputable def cmpop (op : COp) (a b : D) (S : Sto) : Res D := match op with
  | .eq => ofO ((eqD S a b).map .bl) S
  | .ne => ofO ((eqD S a b).map fun c => .bl (!c)) S
  | .lt => match a, b with
    | .int i, .int j => .ok (.bl (decide (i < j))) S
    | .str x, .str y => .ok (.bl (decide (x.cps.toList < y.cps.toList))) S
    | _, _ => .no
  | .le => match a, b with
    | .int i, .int j => .ok (.bl (decide (i ≤ j))) S
    | _, _ => .no
  | .gt => match a, b with
    | .int i, .int j => .ok (.bl (decide (j < i))) S
    | _, _ => .no
  | .ge => match a, b with
    | .int i, .int j => .ok (.bl (decide (j ≤ i))) S
    | _, _ => .no
  | .isN => match a, b with
    | .non, .non => .ok (.bl true) S
    | _, .non => .ok (.bl false) S
    | _, _ => .no
  | .notN => match a, b with
    | .non, .non => .ok (.bl false) S
    | _, .non => .ok (.bl true) S
    | _, _ => .no
  | .isin => match items S b with
    | some ds => if flatD a = true ∧ ds.all flatD = true then .ok (.bl (inFlat a ds)) S else .no
    | none => .no
  | .notin => match items S b with
    | some ds => if flatD a = true ∧ ds.all flatD = true then .ok (.bl (!inFlat a ds)) S else .no
    | none => .no
/-- a value's truth -/
def truth (S : Sto) : D → Option Bool
  | .non => some false
  | .bl b => some b
  | .int i => some (i != 0)
  | .str x => if x.length ≤ sizeLine then some ((x.length : Int) != 0) else none
  | .tup ds => some (!ds.isEmpty)
  | .loc l => match S[l]? with
    | some (.lst ds) => some (!ds.isEmpty)
    | some (.scr ds) => some (!ds.isEmpty)
    | some (.dK kvs) => some (!kvs.isEmpty)
    | _ => none

/-! ### built-ins -/
inductive Blt where | abs | len | int | bool | str | list | tuple | repr | sorted | sum | max2 | min2 | max1 | min1 | all | any
inductive Ty where | int | bool | str | tuple | list | dict
def isTy (S : Sto) (d : D) (t : Ty) : Option Bool := match d, t with
  | .non, _ => some false
  | .bl _, .int => some true
  | .bl _, .bool => some true
  | .bl _, _ => some false
  | .int _, .int => some true
  | .int _, _ => some false
  | .str _, .str => some true
  | .str _, _ => some false
  | .tup _, .tuple => some true
  | .tup _, _ => some false
  | .loc l, t => match S[l]? with
    | some (.lst _) => some (match t with | .list => true | _ => false)
    | some (.dK _) => some (match t with | .dict => true | _ => false)
    | _ => none
def alloc (S : Sto) (o : O) : Res D := .ok (.loc S.length) (S ++ [o])
open Classical in
noncomputable def reprD (S : Sto) (d : D) : Option Str := match dat S d with
  | some p => if SeqAt.shaped p = true ∧ p.showable = true ∧ p.shown.length ≤ sizeLine then some p.shown else none
  | none => none
def insI (x : Int) : List Int → List Int
  | [] => [x]
  | y :: r => if x ≤ y then x :: y :: r else y :: insI x r
def sortI : List Int → List Int
  | [] => []
  | x :: r => insI x (sortI r)
def maxI : List Int → Option Int
  | [] => none
  | x :: r => match maxI r with
    | none => some x
    | some y => some (if x < y then y else x)
def minI : List Int → Option Int
  | [] => none
  | x :: r => match minI r with
    | none => some x
    | some y => some (if y < x then y else x)
open Classical in
noncomputable def bltop (f : Blt) (as : List D) (S : Sto) : Res D := match f, as with
  | .abs, [.int i] => .ok (.int (if i < 0 then -i else i)) S
  | .len, [.str x] => if x.length ≤ sizeLine then .ok (.int x.length) S else .no
  | .len, [d] => ofO ((items S d).map fun ds => .int ds.length) S
  | .int, [.int i] => .ok (.int i) S
  | .int, [.bl k] => .ok (.int (if k then 1 else 0)) S
  | .bool, [.int i] => .ok (.bl (i != 0)) S
  | .bool, [.bl k] => .ok (.bl k) S
  | .str, [.int i] => if i.natAbs.log2 < 1920 then .ok (.str (toString i)) S else .no
  | .list, [d] => match items S d with
    | some ds => alloc S (.lst ds)
    | none => .no
  | .tuple, [d] => ofO ((items S d).map .tup) S
  | .repr, [.int i] => if i.natAbs.log2 < 1920 then .ok (.str (toString i)) S else .no
  | .repr, [d] => ofO ((reprD S d).map .str) S
  | .sorted, [.loc l] => match (items S (.loc l)).bind allInts with
    | some ns => if ns.length ≤ 1000000 then alloc S (.lst ((sortI ns).map .int)) else .no
    | none => .no
  | .sum, [.loc l] => ofO (((items S (.loc l)).bind allInts).map fun ns => .int ns.sum) S
  | .max1, [.loc l] => ofO ((((items S (.loc l)).bind allInts).bind maxI).map .int) S
  | .min1, [.loc l] => ofO ((((items S (.loc l)).bind allInts).bind minI).map .int) S
  | .max2, [.int i, .int j] => .ok (.int (if j > i then j else i)) S
  | .min2, [.int i, .int j] => .ok (.int (if j < i then j else i)) S
  | .all, [.loc l] => ofO (((items S (.loc l)).bind allBls).map fun bs => .bl (bs.all id)) S
  | .any, [.loc l] => ofO (((items S (.loc l)).bind allBls).map fun bs => .bl (bs.any id)) S
  | _, _ => .no

/-! ### methods -/
inductive Mth where | append | extend | pop0 | pop1 | reverse | clear | insert | lindex | join | split
def cutG {α : Type} (xs : List α) (lo hi : Option Int) : List α := (xs.drop (HT.sIx xs.length 0 lo)).take (HT.sIx xs.length xs.length hi - HT.sIx xs.length 0 lo)
def setO (S : Sto) (l : Nat) (o : O) : Sto := S.set l o
/-- the method's own kind of thing -/
def mthTy (m : Mth) (d : D) (S : Sto) : Bool := match m, d with
  | .join, .str _ => true
  | .split, .str _ => true
  | .join, _ => false
  | .split, _ => false
  | _, .loc l => (items S (.loc l)).isSome
  | _, _ => false
/-- the first place at which a flat thing stands -/
def firstAt (x : D) : List D → Option Nat
  | [] => none
  | y :: r => if eqFlat y x then some 0 else (firstAt x r).map (· + 1)
open Classical in
noncomputable def mthop (m : Mth) (o : D) (as : List D) (S : Sto) : Res D := match m, o, as with
  | .append, .loc l, [d] => match lstAt S l with
    | some ds => if ds.length < sizeLine then .ok .non (S.set l (.lst (ds ++ [d]))) else .no
    | none => .no
  | .extend, .loc l, [.loc k] => match lstAt S l, lstAt S k with
    | some ds, some es => if ds.length + es.length ≤ sizeLine then .ok .non (S.set l (.lst (ds ++ es))) else .no
    | _, _ => .no
  | .pop0, .loc l, [] => match lstAt S l with
    | some ds => match ds.getLast? with
      | some d => .ok d (S.set l (.lst ds.dropLast))
      | none => .no
    | none => .no
  | .pop1, .loc l, [.int i] => match lstAt S l with
    | some ds => if 0 ≤ i ∧ i < 2 ^ 63 then match ds[i.toNat]? with
      | some d => .ok d (S.set l (.lst (ds.eraseIdx i.toNat)))
      | none => .no
      else .no
    | none => .no
  | .reverse, .loc l, [] => match lstAt S l with
    | some ds => .ok .non (S.set l (.lst ds.reverse))
    | none => .no
  | .clear, .loc l, [] => match lstAt S l with
    | some _ => .ok .non (S.set l (.lst []))
    | none => .no
  | .insert, .loc l, [.int i, d] => match lstAt S l with
    | some ds => if ds.length < sizeLine ∧ 0 ≤ i ∧ i < 2 ^ 63 then .ok .non (S.set l (.lst (ds.take i.toNat ++ [d] ++ ds.drop i.toNat))) else .no
    | none => .no
  | .lindex, .loc l, [d] => match items S (.loc l) with
    | some ds => if flatD d = true ∧ ds.all flatD = true then ofO ((firstAt d ds).map fun j => .int j) S else .no
    | none => .no
  | .join, .str x, [d] => match (items S d).bind allStrs with
    | some ys => if (ys.map (·.length)).sum + ys.length * x.length ≤ 16777216 then .ok (.str (Txt.join x ys)) S else .no
    | none => .no
  | .split, .str x, [.str y] => if (y.length == 0) = false ∧ x.length + 2 ≤ sizeLine then alloc S (.lst ((Txt.split x y).map .str)) else .no
  | _, _, _ => .no

/-- a dict's value, a pair put into a dict -/
def valD (kvs : List (Key × D)) (k : Key) : Option D := (kvs.find? fun kv => decide (kv.1 = k)).map (·.2)
def putD (kvs : List (Key × D)) (k : Key) (v : D) : List (Key × D) :=
  if (kvs.any fun kv => decide (kv.1 = k)) = true then kvs.map (fun kv => if kv.1 = k then (kv.1, v) else kv) else kvs ++ [(k, v)]
/-- d[i] -/
noncomputable def ixop (a i : D) (S : Sto) : Res D := match a, i with
  | .str x, .int i => if x.length ≤ sizeLine then ofO ((atI x.cps.toList i).map fun c => .str ⟨#[c]⟩) S else .no
  | .tup ds, .int i => ofO (atI ds i) S
  | .loc l, .int i => match S[l]? with
    | some (.lst ds) => ofO (atI ds i) S
    | some (.scr ds) => ofO (atI ds i) S
    | some (.dK kvs) => ofO (valD kvs (.inl i)) S
    | _ => .no
  | .loc l, .str x => match S[l]? with
    | some (.dK kvs) => ofO (valD kvs (.inr x)) S
    | _ => .no
  | _, _ => .no
/-- list(range(i, j)), tuple(range(i, j)) -/
def rgD (i j : Int) : List D := (List.range (j - i).toNat).map fun k => .int (i + (k : Nat))
open Classical in
noncomputable def lrgop (tp : Bool) (x y : D) (S : Sto) : Res D := match x, y with
  | .int i, .int j => if RgOk i j then (if tp = true then .ok (.tup (rgD i j)) S else alloc S (.lst (rgD i j))) else .no
  | _, _ => .no
/-- a[lo:hi] -/
def slop (a : D) (lo hi : Option Int) (S : Sto) : Res D := match a with
  | .str x => if x.length ≤ sizeLine then .ok (.str (cutS x lo hi)) S else .no
  | .tup ds => .ok (.tup (cutG ds lo hi)) S
  | .loc l => match items S (.loc l) with
    | some ds => alloc S (.lst (cutG ds lo hi))
    | none => .no
  | _ => .no
/-- a[i] = d -/
def setop (a i d : D) (S : Sto) : Res Unit := match a, i with
  | .loc l, .int k => match S[l]? with
    | some (.lst ds) => match ixN ds.length k with
      | some j => .ok () (S.set l (.lst (ds.set j d)))
      | none => .no
    | some (.dK kvs) => if kvs.length < 10000 then .ok () (S.set l (.dK (putD kvs (.inl k) d))) else .no
    | _ => .no
  | .loc l, .str x => match S[l]? with
    | some (.dK kvs) => if kvs.length < 10000 then .ok () (S.set l (.dK (putD kvs (.inr x) d))) else .no
    | _ => .no
  | _, _ => .no

/-! ### the text -/
mutual
inductive E where
  | var (i : Nat) | int (i : Int) | str (x : Str) | bl (b : Bool) | non
  | glob (i : Nat)
  | tup (es : Es) | lst (es : Es) | dic (ks : List Str) (vs : Es)
  | bin (op : BOp) (a b : E) | neg (a : E) | not (a : E)
  | cmp (op : COp) (a b : E) | chain (o1 o2 : COp) (a b c : E)
  | and (es : Es) | or (es : Es)
  | ite (c a b : E)
  | call (f : Nat) (es : Es)
  | callK (f : Nat) (h : Nat) (es : Es) (ks : Es)
  | blt (f : Blt) (es : Es)
  | isi (a : E) (t : Ty)
  | idx (a i : E)
  | slc (a : E) (lo hi : Oe)
  | rev (a : E)
  | mth (m : Mth) (o : E) (es : Es)
  | lc (own : List Nat) (t : Tg) (it : It) (c : Oe) (e : E)
  | lrg1 (tp : Bool) (a : E) | lrg2 (tp : Bool) (a b : E)
inductive Es where | nil | cons (e : E) (es : Es)
inductive Oe where | none | some (e : E)
inductive It where
  | seq (e : E) | rng1 (a : E) | rng2 (a b : E) | rng3 (a b c : E) | enum (e : E) | zip (a b : E)
inductive Tg where | name (i : Nat) | tup (ts : Tgs) | sub (o i : E)
inductive Tgs where | nil | cons (t : Tg) (ts : Tgs)
end
mutual
inductive C where
  | asg (t : Tg) (e : E)
  | par (i j : Nat) (a b : E)
  | aug (i : Nat) (op : BOp) (e : E)
  | expr (e : E)
  | ret (e : E)
  | ife (c : E) (a b : Cs)
  | whl (c : E) (b : Cs)
  | for_ (t : Tg) (it : It) (b : Cs)
  | pass
inductive Cs where | nil | cons (c : C) (cs : Cs)
end

/-- a source of items: the items, and what must stay of the store while it is walked -/
structure Src where
  items : List D
  keep : Sto → Prop

def wipeE (e : Env) : List Nat → Env
  | [] => e
  | v :: vs => (wipeE e vs).set v none

/-- the oracle for the calls of the text's own defs: the def's number, the values of its parameters -/
abbrev Orc := Nat → List D → Sto → Res D
/-- how a call's written and named values become the parameters' values, by the call's shape; the module's constants -/
structure Shp where
  shp : Nat → List D → List D → List D
  cst : Nat → D

section
variable (F : Orc) (G : Shp)
open Classical in
/-- a comprehension's turns -/
noncomputable def lcGo (body : D → Sto → Res (Option D)) (keep : Sto → Prop) : List D → List D → Sto → Res (List D)
  | acc, [], S => if keep S then .ok acc S else .no
  | acc, x :: xs, S => if keep S then
      (body x S).bind fun o S1 => match o with
        | some y => if acc.length < sizeLine then lcGo body keep (acc ++ [y]) xs S1 else .no
        | none => lcGo body keep acc xs S1
    else .no

mutual
noncomputable def evE : E → Env → Sto → Res D
  | .var i, env, S => match env[i]? with
    | some (some d) => .ok d S
    | _ => .no
  | .int i, _, S => .ok (.int i) S
  | .str x, _, S => .ok (.str x) S
  | .bl b, _, S => .ok (.bl b) S
  | .non, _, S => .ok .non S
  | .glob i, _, S => .ok (G.cst i) S
  | .tup es, env, S => (evEs es env S).bind fun ds S1 => if ds.length ≤ 1000 then .ok (.tup ds) S1 else .no
  | .lst es, env, S => (evEs es env S).bind fun ds S1 => if ds.length ≤ 1000 then alloc S1 (.lst ds) else .no
  | .dic ks vs, env, S => (evEs vs env S).bind fun ds S1 => if ks.length = ds.length ∧ ks.length ≤ 15 ∧ ks.Nodup then alloc S1 (.dK ((ks.map Sum.inr).zip ds)) else .no
  | .bin op a b, env, S => (evE a env S).bind fun x S1 => (evE b env S1).bind fun y S2 => binop op x y S2
  | .neg a, env, S => (evE a env S).bind fun x S1 => match x with
    | .int i => .ok (.int (-i)) S1
    | _ => .no
  | .not a, env, S => (evE a env S).bind fun x S1 => ofO ((truth S1 x).map fun c => .bl (!c)) S1
  | .cmp op a b, env, S => (evE a env S).bind fun x S1 => (evE b env S1).bind fun y S2 => cmpop op x y S2
  | .chain o1 o2 a b c, env, S => (evE a env S).bind fun x S1 => (evE b env S1).bind fun y S2 => (cmpop o1 x y S2).bind fun r S3 => match r with
    | .bl true => (evE c env S3).bind fun z S4 => cmpop o2 y z S4
    | .bl false => .ok (.bl false) S3
    | _ => .no
  | .and es, env, S => evAnd es env S
  | .or es, env, S => evOr es env S
  | .ite c a b, env, S => (evE c env S).bind fun x S1 => match truth S1 x with
    | some true => evE a env S1
    | some false => evE b env S1
    | none => .no
  | .call f es, env, S => (evEs es env S).bind fun ds S1 => F f ds S1
  | .callK f h es ks, env, S => (evEs es env S).bind fun ds S1 => (evEs ks env S1).bind fun ws S2 => F f (G.shp h ds ws) S2
  | .blt f es, env, S => (evEs es env S).bind fun ds S1 => bltop f ds S1
  | .isi a t, env, S => (evE a env S).bind fun x S1 => ofO ((isTy S1 x t).map .bl) S1
  | .idx a i, env, S => (evE a env S).bind fun x S1 => (evE i env S1).bind fun y S2 => ixop x y S2
  | .slc a lo hi, env, S => (evE a env S).bind fun x S1 => (evO lo env S1).bind fun l S2 => (evO hi env S2).bind fun h S3 => slop x l h S3
  | .rev a, env, S => (evE a env S).bind fun x S1 => match x with
    | .tup ds => .ok (.tup ds.reverse) S1
    | .loc l => match items S1 (.loc l) with
      | some ds => alloc S1 (.lst ds.reverse)
      | none => .no
    | _ => .no
  | .mth m o es, env, S => (evE o env S).bind fun x S1 => if mthTy m x S1 then (evEs es env S1).bind fun ds S2 => mthop m x ds S2 else .no
  | .lc own t it c e, env, S => (evI it env S).bind fun src S1 =>
      (lcGo (fun x S2 => (asT t x (wipeE env own) S2).bind fun env2 S3 => (tsO c env2 S3).bind fun b S4 => if b then (evE e env2 S4).bind fun y S5 => .ok (some y) S5 else .ok none S4)
        src.keep [] src.items S1).bind fun ys S6 => alloc S6 (.lst ys)
  | .lrg1 tp a, env, S => (evE a env S).bind fun x S1 => lrgop tp (.int 0) x S1
  | .lrg2 tp a b, env, S => (evE a env S).bind fun x S1 => (evE b env S1).bind fun y S2 => lrgop tp x y S2
noncomputable def evAnd : Es → Env → Sto → Res D
  | .nil, _, _ => .no
  | .cons e .nil, env, S => evE e env S
  | .cons e (.cons e2 es), env, S => (evE e env S).bind fun x S1 => match x with
    | .bl true => evAnd (.cons e2 es) env S1
    | .bl false => .ok (.bl false) S1
    | _ => .no
noncomputable def evOr : Es → Env → Sto → Res D
  | .nil, _, _ => .no
  | .cons e .nil, env, S => evE e env S
  | .cons e (.cons e2 es), env, S => (evE e env S).bind fun x S1 => match x with
    | .bl true => .ok (.bl true) S1
    | .bl false => evOr (.cons e2 es) env S1
    | _ => .no
noncomputable def evEs : Es → Env → Sto → Res (List D)
  | .nil, _, S => .ok [] S
  | .cons e es, env, S => (evE e env S).bind fun x S1 => (evEs es env S1).bind fun xs S2 => .ok (x :: xs) S2
noncomputable def evO : Oe → Env → Sto → Res (Option Int)
  | .none, _, S => .ok none S
  | .some e, env, S => (evE e env S).bind fun x S1 => match x with
    | .int i => .ok (some i) S1
    | _ => .no
noncomputable def tsO : Oe → Env → Sto → Res Bool
  | .none, _, S => .ok true S
  | .some e, env, S => (evE e env S).bind fun x S1 => ofO (truth S1 x) S1
noncomputable def evI : It → Env → Sto → Res Src
  | .seq e, env, S => (evE e env S).bind fun x S1 => match x with
    | .str z => .ok ⟨z.cps.toList.map fun c => .str ⟨#[c]⟩, fun _ => True⟩ S1
    | .tup ds => .ok ⟨ds, fun _ => True⟩ S1
    | .loc l => match items S1 (.loc l) with
      | some ds => .ok ⟨ds, fun S => items S (.loc l) = some ds⟩ S1
      | none => .no
    | _ => .no
  | .rng1 a, env, S => (evE a env S).bind fun x S1 => match x with
    | .int j => if -(2 ^ 62) ≤ j ∧ j < 2 ^ 62 then .ok ⟨(List.range j.toNat).map fun k => .int (k : Nat), fun _ => True⟩ S1 else .no
    | _ => .no
  | .rng2 a b, env, S => (evE a env S).bind fun x S1 => (evE b env S1).bind fun y S2 => match x, y with
    | .int i, .int j => if -(2 ^ 62) ≤ i ∧ i < 2 ^ 62 ∧ -(2 ^ 62) ≤ j ∧ j < 2 ^ 62 then .ok ⟨(List.range (j - i).toNat).map fun k => .int (i + (k : Nat)), fun _ => True⟩ S2 else .no
    | _, _ => .no
  | .rng3 a b c, env, S => (evE a env S).bind fun x S1 => (evE b env S1).bind fun y S2 => (evE c env S2).bind fun z S3 => match x, y, z with
    | .int i, .int j, .int k => if -(2 ^ 62) ≤ i ∧ i < 2 ^ 62 ∧ -(2 ^ 62) ≤ j ∧ j < 2 ^ 62 ∧ k = -1 then .ok ⟨(List.range (i - j).toNat).map fun m => .int (i - (m : Nat)), fun _ => True⟩ S3 else .no
    | _, _, _ => .no
  | .enum e, env, S => (evE e env S).bind fun x S1 => match x with
    | .tup ds => .ok ⟨ds.zipIdx.map fun p => .tup [.int (p.2 : Nat), p.1], fun _ => True⟩ S1
    | .str z => .ok ⟨z.cps.toList.zipIdx.map fun p => .tup [.int (p.2 : Nat), .str ⟨#[p.1]⟩], fun _ => True⟩ S1
    | .loc l => match items S1 (.loc l) with
      | some ds => .ok ⟨ds.zipIdx.map fun p => .tup [.int (p.2 : Nat), p.1], fun S => items S (.loc l) = some ds⟩ S1
      | none => .no
    | _ => .no
  | .zip a b, env, S => (evE a env S).bind fun x S1 => (evE b env S1).bind fun y S2 => match x, y with
    | .tup ds, .tup es => .ok ⟨(ds.zip es).map fun p => .tup [p.1, p.2], fun _ => True⟩ S2
    | .loc l, .loc m => match items S2 (.loc l), items S2 (.loc m) with
      | some ds, some es => .ok ⟨(ds.zip es).map fun p => .tup [p.1, p.2], fun S => items S (.loc l) = some ds ∧ items S (.loc m) = some es⟩ S2
      | _, _ => .no
    | _, _ => .no
noncomputable def asT : Tg → D → Env → Sto → Res Env
  | .name i, d, env, S => .ok (env.set i (some d)) S
  | .tup ts, d, env, S => match d with
    | .tup ds => asTs ts ds env S
    | _ => .no
  | .sub o i, d, env, S => (evE o env S).bind fun x S1 => (evE i env S1).bind fun y S2 => (setop x y d S2).bind fun _ S3 => .ok env S3
noncomputable def asTs : Tgs → List D → Env → Sto → Res Env
  | .nil, ds, env, S => match ds with
    | [] => .ok env S
    | _ => .no
  | .cons t ts, ds, env, S => match ds with
    | d :: r => (asT t d env S).bind fun env1 S1 => asTs ts r env1 S1
    | [] => .no
end

/-- what an augmented store of a name serves -/
def augOk : BOp → D → Bool
  | .add, .int _ => true
  | .sub, .int _ => true
  | .add, .str _ => true
  | _, _ => false
inductive Fl where
  | nx (env : Env)
  | rt (d : D)
open Classical in
noncomputable def forGo (turn : D → Env → Sto → Res Fl) (keep : Sto → Prop) : List D → Env → Sto → Res Fl
  | [], env, S => if keep S then .ok (.nx env) S else .no
  | x :: xs, env, S => if keep S then (turn x env S).bind fun f S1 => match f with
      | .nx env1 => forGo turn keep xs env1 S1
      | .rt d => .ok (.rt d) S1
    else .no
noncomputable def whlGo (test : Env → Sto → Res Bool) (turn : Env → Sto → Res Fl) : Nat → Env → Sto → Res Fl
  | 0, _, _ => .no
  | n + 1, env, S => (test env S).bind fun b S1 => if b then (turn env S1).bind fun f S2 => match f with
      | .nx env1 => whlGo test turn n env1 S2
      | .rt d => .ok (.rt d) S2
    else .ok (.nx env) S1
/-- the most turns of a while -/
def whlMost : Nat := 1000000000000
mutual
noncomputable def exC : C → Env → Sto → Res Fl
  | .asg t e, env, S => (evE F G e env S).bind fun x S1 => (asT F G t x env S1).bind fun env1 S2 => .ok (.nx env1) S2
  | .par i j a b, env, S => (evE F G a env S).bind fun x S1 => (evE F G b env S1).bind fun y S2 => .ok (.nx ((env.set i (some x)).set j (some y))) S2
  | .aug i op e, env, S => match env[i]? with
    | some (some x) => (evE F G e env S).bind fun y S1 => if augOk op x then (binop op x y S1).bind fun z S2 => .ok (.nx (env.set i (some z))) S2 else .no
    | _ => .no
  | .expr e, env, S => (evE F G e env S).bind fun _ S1 => .ok (.nx env) S1
  | .ret e, env, S => (evE F G e env S).bind fun x S1 => .ok (.rt x) S1
  | .ife c a b, env, S => (evE F G c env S).bind fun x S1 => match truth S1 x with
    | some true => exCs a env S1
    | some false => exCs b env S1
    | none => .no
  | .whl c b, env, S => whlGo (fun env S => (evE F G c env S).bind fun x S1 => ofO (truth S1 x) S1) (fun env S => exCs b env S) whlMost env S
  | .for_ t it b, env, S => (evI F G it env S).bind fun src S1 => forGo (fun x env S => (asT F G t x env S).bind fun env1 S1 => exCs b env1 S1) src.keep src.items env S1
  | .pass, env, S => .ok (.nx env) S
noncomputable def exCs : Cs → Env → Sto → Res Fl
  | .nil, env, S => .ok (.nx env) S
  | .cons c cs, env, S => (exC c env S).bind fun f S1 => match f with
    | .nx env1 => exCs cs env1 S1
    | .rt d => .ok (.rt d) S1
end
end

/-- a def: how many names it has, its body -/
structure Dfn where
  name : Str
  slots : Nat
  pars : Nat
  body : Cs
def start0 (d : Dfn) (as : List D) : Env := as.map some ++ List.replicate (d.slots - as.length) none
def retOf : Fl → D
  | .nx _ => .non
  | .rt d => d
/-- the defs run, at most k calls one in another -/
noncomputable def run (tab : List Dfn) (G : Shp) : Nat → Orc
  | 0 => fun _ _ _ => .no
  | k + 1 => fun f as S => match tab[f]? with
    | some d => if as.length = d.pars then (exCs (run tab G k) G d.body (start0 d as) S).bind fun fl S1 => .ok (retOf fl) S1 else .no
    | none => .no
end Wk

set_option Elab.async false
set_option linter.all false
set_option maxRecDepth 100000
namespace Wk
open PySem PySem.Spec PyProof.Rows L2

/-! ### plain data and the heap -/
mutual
inductive RV (K : PySem.W.Frag) (φ : Nat → Addr) (n : Nat) (H : Hp) : D → V → Prop where
  | non : RV K φ n H .non .non
  | bl (b : Bool) : RV K φ n H (.bl b) (.bl b)
  | int (i : Int) : RV K φ n H (.int i) (.int i)
  | str (x : Str) : RV K φ n H (.str x) (.str x)
  | tup {ds : List D} {a : Addr} {vs : List V} : SqT K H a vs → RVs K φ n H ds vs → RV K φ n H (.tup ds) (.ref a)
  | loc {l : Nat} : l < n → RV K φ n H (.loc l) (.ref (φ l))
inductive RVs (K : PySem.W.Frag) (φ : Nat → Addr) (n : Nat) (H : Hp) : List D → List V → Prop where
  | nil : RVs K φ n H [] []
  | cons {d : D} {ds : List D} {v : V} {vs : List V} : RV K φ n H d v → RVs K φ n H ds vs → RVs K φ n H (d :: ds) (v :: vs)
end
def RKs (K : PySem.W.Frag) (φ : Nat → Addr) (n : Nat) (H : Hp) (kvs : List (Key × D)) (kws : List (Key × V)) : Prop :=
  kvs.map (·.1) = kws.map (·.1) ∧ RVs K φ n H (kvs.map (·.2)) (kws.map (·.2))
/-- a list that is read, never written -/
def RdL (K : PySem.W.Frag) (H : Hp) (a : Addr) (xs : List V) : Prop :=
  (∃ o, H a = some (.frz o (.lst xs))) ∨
    ∃ (o : Obj) (its : Array Value) (n : Nat), K.lookup a = some o ∧ o.cls = .type "list" ∧ o.dict = none ∧ o.data = .seq its n ∧ its.size ≤ sizeLine ∧ Vals xs its.toList
theorem RdL.seq {K : PySem.W.Frag} {H : Hp} {a : Addr} {xs : List V} (h : RdL K H a xs) : SqL K H a xs := h.elim (fun h => .inl (.inr h)) .inr
def RO (K : PySem.W.Frag) (φ : Nat → Addr) (n : Nat) (H : Hp) (a : Addr) : O → Prop
  | .lst ds => ∃ vs, H a = some (.lst vs) ∧ RVs K φ n H ds vs
  | .scr ds => ∃ vs, RdL K H a vs ∧ RVs K φ n H ds vs
  | .dK kvs => ∃ kws, H a = some (.dK kws) ∧ RKs K φ n H kvs kws
def Mu : O → Bool
  | .lst _ => true
  | .scr _ => false
  | .dK _ => true
structure Rel (K : PySem.W.Frag) (φ : Nat → Addr) (S : Sto) (H : Hp) : Prop where
  obj : ∀ l o, S[l]? = some o → RO K φ S.length H (φ l) o
  inj : ∀ l m o u, S[l]? = some o → S[m]? = some u → Mu o = true → Mu u = true → φ l = φ m → l = m
structure Ext (K : PySem.W.Frag) (φ : Nat → Addr) (S : Sto) (H : Hp) (φ' : Nat → Addr) (S' : Sto) (H' : Hp) : Prop where
  len : S.length ≤ S'.length
  agr : ∀ l, l < S.length → φ' l = φ l
  tup : ∀ a vs, SqT K H a vs → SqT K H' a vs
  kind : ∀ (l : Nat) (o : O), S[l]? = some o → ∃ o', S'[l]? = some o' ∧ Mu o' = Mu o
  there : ∀ a, H a ≠ none → H' a ≠ none
  frame : ∀ a o, H a = some o → (∀ (l : Nat) (u : O), S[l]? = some u → Mu u = true → φ l ≠ a) → H' a = some o
  new : ∀ (l : Nat) (u : O), S.length ≤ l → S'[l]? = some u → Mu u = true → H (φ' l) = none
def RE (K : PySem.W.Frag) (φ : Nat → Addr) (n : Nat) (H : Hp) (env : Env) (σ : L2.St) : Prop :=
  σ.length = env.length ∧ ∀ (i : Nat) (d : D), env[i]? = some (some d) → ∃ v, σ[i]? = some (some v) ∧ RV K φ n H d v

section
variable {K : PySem.W.Frag} {φ φ1 φ' : Nat → Addr} {S S1 S' : Sto} {H H1 H' : Hp}
theorem get_lt {l : Nat} {o : O} (h : S[l]? = some o) : l < S.length := (List.getElem?_eq_some_iff.mp h).1
theorem get_of_lt {l : Nat} (h : l < S.length) : ∃ o, S[l]? = some o := ⟨S[l], List.getElem?_eq_getElem h⟩
theorem Ext.refl : Ext K φ S H φ S H := ⟨Nat.le_refl _, fun _ _ => rfl, fun _ _ h => h, fun _ o h => ⟨o, h, rfl⟩, fun _ h => h, fun _ _ h _ => h, fun l u h e => absurd (get_lt e) (Nat.not_lt.mpr h)⟩
theorem Ext.trans (a : Ext K φ S H φ1 S1 H1) (b : Ext K φ1 S1 H1 φ' S' H') : Ext K φ S H φ' S' H' := by
  refine ⟨Nat.le_trans a.len b.len, fun l hl => (b.agr l (Nat.lt_of_lt_of_le hl a.len)).trans (a.agr l hl), fun x vs h => b.tup x vs (a.tup x vs h), fun l o h => ?_, fun x h => b.there x (a.there x h), fun x o h hx => ?_, fun l u hl e m => ?_⟩
  · obtain ⟨o1, e1, m1⟩ := a.kind l o h
    obtain ⟨o2, e2, m2⟩ := b.kind l o1 e1
    exact ⟨o2, e2, m2.trans m1⟩
  · refine b.frame x o (a.frame x o h hx) fun l u1 e1 m1 => ?_
    by_cases hl : l < S.length
    · obtain ⟨u, e⟩ := get_of_lt hl
      obtain ⟨u2, e2, m2⟩ := a.kind l u e
      rw [e1] at e2; cases e2
      rw [a.agr l hl]
      exact hx l u e (m2 ▸ m1)
    · intro z
      have := a.new l u1 (Nat.le_of_not_lt hl) e1 m1
      rw [z, h] at this
      cases this
  · by_cases h1 : l < S1.length
    · obtain ⟨u1, e1⟩ := get_of_lt h1
      obtain ⟨u2, e2, m2⟩ := b.kind l u1 e1
      rw [e] at e2; cases e2
      rw [b.agr l h1]
      exact a.new l u1 hl e1 (m2 ▸ m)
    · have h2 := b.new l u (Nat.le_of_not_lt h1) e m
      cases q : H (φ' l) with
      | none => rfl
      | some w => exact absurd h2 (a.there _ (by rw [q]; simp))
mutual
theorem RV.mono (e : Ext K φ S H φ' S' H') : ∀ {d : D} {v : V}, RV K φ S.length H d v → RV K φ' S'.length H' d v
  | _, _, .non => .non
  | _, _, .bl b => .bl b
  | _, _, .int i => .int i
  | _, _, .str x => .str x
  | _, _, .tup h r => .tup (e.tup _ _ h) (RVs.mono e r)
  | _, _, .loc (l := l) h => by
    have q := e.agr l h
    rw [← q]
    exact .loc (Nat.lt_of_lt_of_le h e.len)
theorem RVs.mono (e : Ext K φ S H φ' S' H') : ∀ {ds : List D} {vs : List V}, RVs K φ S.length H ds vs → RVs K φ' S'.length H' ds vs
  | _, _, .nil => .nil
  | _, _, .cons a b => .cons (RV.mono e a) (RVs.mono e b)
end
theorem RKs.mono {kvs : List (Key × D)} {kws : List (Key × V)} (e : Ext K φ S H φ' S' H') (h : RKs K φ S.length H kvs kws) : RKs K φ' S'.length H' kvs kws := ⟨h.1, h.2.mono e⟩
theorem RE.mono {env : Env} {σ : L2.St} (e : Ext K φ S H φ' S' H') (h : RE K φ S.length H env σ) : RE K φ' S'.length H' env σ :=
  ⟨h.1, fun i d hd => let ⟨v, h1, h2⟩ := h.2 i d hd; ⟨v, h1, h2.mono e⟩⟩

theorem sqtO {a b : Addr} {vs : List V} {o : HO} (h : SqT K H a vs) (hb : ∀ u, H b = some u → ∀ ws, u ≠ .tup ws ∧ ∀ o', u ≠ .frz o' (.tup ws)) : SqT K (upd H b o) a vs := by
  rcases h with (h | ⟨o', h⟩) | h
  · refine .inl (.inl ?_)
    rw [upd_ne (fun z => by subst z; exact (hb _ h vs).1 rfl)]
    exact h
  · refine .inl (.inr ⟨o', ?_⟩)
    rw [upd_ne (fun z => by subst z; exact (hb _ h vs).2 o' rfl)]
    exact h
  · exact .inr h
theorem rdlO {a b : Addr} {vs : List V} {o : HO} (h : RdL K H a vs) (hb : ∀ u, H b = some u → ∀ ws o', u ≠ .frz o' (.lst ws)) : RdL K (upd H b o) a vs := by
  rcases h with ⟨o', h⟩ | h
  · refine .inl ⟨o', ?_⟩
    rw [upd_ne (fun z => by subst z; exact hb _ h vs o' rfl)]
    exact h
  · exact .inr h
/-- a new object beside all others -/
theorem upd_there {p a : Addr} {o : HO} (h : H a ≠ none) : upd H p o a ≠ none := by
  by_cases e : a = p
  · subst e; rw [upd_same]; simp
  · rw [upd_ne e]; exact h
theorem Ext.fresh {p : Addr} {o : HO} (hp : H p = none) : Ext K φ S H φ S (upd H p o) :=
  ⟨Nat.le_refl _, fun _ _ => rfl, fun a vs h => sqtO h (fun u e => by rw [hp] at e; cases e), fun _ o h => ⟨o, h, rfl⟩, fun _ h => upd_there h, fun a u h _ => by rw [upd_ne (ne_of_none h hp)]; exact h,
    fun l u h e => absurd (get_lt e) (Nat.not_lt.mpr h)⟩
theorem Rel.at_new {p : Addr} {o : HO} (R : Rel K φ S H) (hp : H p = none) : Rel K φ S (upd H p o) := by
  refine ⟨fun l u e => ?_, R.inj⟩
  have ex : Ext K φ S H φ S (upd H p o) := Ext.fresh hp
  have q := R.obj l u e
  cases u with
  | lst ds => obtain ⟨vs, h, r⟩ := q; exact ⟨vs, by rw [upd_ne (ne_of_none h hp)]; exact h, r.mono ex⟩
  | scr ds => obtain ⟨vs, h, r⟩ := q; exact ⟨vs, rdlO h (fun u e => by rw [hp] at e; cases e), r.mono ex⟩
  | dK kvs => obtain ⟨vs, h, r⟩ := q; exact ⟨vs, by rw [upd_ne (ne_of_none h hp)]; exact h, r.mono ex⟩
def put (φ : Nat → Addr) (n : Nat) (p : Addr) : Nat → Addr := fun l => if l = n then p else φ l
theorem Ext.push {p : Addr} {o : HO} {u : O} (hp : H p = none) : Ext K φ S H (put φ S.length p) (S ++ [u]) (upd H p o) := by
  refine ⟨by simp, fun l hl => ?_, fun a vs h => sqtO h (fun u e => by rw [hp] at e; cases e), fun l o h => ⟨o, by rw [List.getElem?_append_left (get_lt h)]; exact h, rfl⟩, fun _ h => upd_there h, fun a u h _ => by rw [upd_ne (ne_of_none h hp)]; exact h, fun l w hl e m => ?_⟩
  · unfold put
    rw [if_neg (Nat.ne_of_lt hl)]
  · have h1 := (List.getElem?_eq_some_iff.mp e).1
    have h2 : l = S.length := by simp at h1; omega
    unfold put
    rw [if_pos h2]
    exact hp
theorem Rel.push {p : Addr} {o : HO} {u : O} (R : Rel K φ S H) (hp : H p = none) (ho : RO K (put φ S.length p) (S ++ [u]).length (upd H p o) p u) : Rel K (put φ S.length p) (S ++ [u]) (upd H p o) := by
  have ex : Ext K φ S H (put φ S.length p) (S ++ [u]) (upd H p o) := Ext.push hp
  have old : ∀ l w, l < S.length → (S ++ [u])[l]? = some w → S[l]? = some w := fun l w hl e => by rwa [List.getElem?_append_left hl] at e
  have pn : put φ S.length p S.length = p := by unfold put; rw [if_pos rfl]
  have po : ∀ l, l < S.length → put φ S.length p l = φ l := fun l hl => ex.agr l hl
  have last : ∀ l w, (S ++ [u])[l]? = some w → l < S.length ∨ (l = S.length ∧ w = u) := fun l w e => by
    by_cases hl : l < S.length
    · exact .inl hl
    · have h1 := (List.getElem?_eq_some_iff.mp e).1
      have h2 : l = S.length := by simp at h1; omega
      subst h2
      simp at e
      exact .inr ⟨rfl, e.symm⟩
  have there : ∀ l w, S[l]? = some w → Mu w = true → H (φ l) ≠ none := fun l w e m => by
    have q := R.obj l w e
    cases w with
    | lst ds => obtain ⟨vs, h, _⟩ := q; rw [h]; simp
    | scr ds => cases m
    | dK kvs => obtain ⟨vs, h, _⟩ := q; rw [h]; simp
  refine ⟨fun l w e => ?_, fun l m w w' e e' mw mw' q => ?_⟩
  · rcases last l w e with hl | ⟨rfl, rfl⟩
    · rw [po l hl]
      have q := R.obj l w (old l w hl e)
      cases w with
      | lst ds => obtain ⟨vs, h, r⟩ := q; exact ⟨vs, by rw [upd_ne (ne_of_none h hp)]; exact h, r.mono ex⟩
      | scr ds => obtain ⟨vs, h, r⟩ := q; exact ⟨vs, rdlO h (fun u e => by rw [hp] at e; cases e), r.mono ex⟩
      | dK kvs => obtain ⟨vs, h, r⟩ := q; exact ⟨vs, by rw [upd_ne (ne_of_none h hp)]; exact h, r.mono ex⟩
    · rw [pn]; exact ho
  · rcases last l w e with hl | ⟨rfl, rfl⟩
    · rcases last m w' e' with hm | ⟨rfl, rfl⟩
      · rw [po l hl, po m hm] at q
        exact R.inj l m w w' (old l w hl e) (old m w' hm e') mw mw' q
      · rw [po l hl, pn] at q
        exact absurd (q ▸ hp) (there l w (old l w hl e) mw)
    · rcases last m w' e' with hm | ⟨rfl, rfl⟩
      · rw [po m hm, pn] at q
        exact absurd (q.symm ▸ hp) (there m w' (old m w' hm e') mw')
      · rfl
/-- an object of ours is changed -/
theorem Ext.set {l : Nat} {u u' : O} {o' : HO} (R : Rel K φ S H) (e : S[l]? = some u) (m : Mu u = true) (m' : Mu u' = true) : Ext K φ S H φ (S.set l u') (upd H (φ l) o') := by
  refine ⟨by simp, fun _ _ => rfl, fun a vs h => sqtO h (fun w ew ws => ?_), fun k o h => ?_, fun _ h => upd_there h, fun a w h ha => ?_, fun k w hk ek _ => absurd (get_lt ek) (by rw [List.length_set]; exact Nat.not_lt.mpr hk)⟩
  · have q := R.obj l u e
    cases u with
    | lst ds => obtain ⟨vs, h, _⟩ := q; rw [h] at ew; cases ew; exact ⟨(fun z => nomatch z), fun _ z => nomatch z⟩
    | scr ds => cases m
    | dK kvs => obtain ⟨vs, h, _⟩ := q; rw [h] at ew; cases ew; exact ⟨(fun z => nomatch z), fun _ z => nomatch z⟩
  · by_cases hk : k = l
    · subst hk
      rw [e] at h; cases h
      exact ⟨u', List.getElem?_set_self (get_lt e), by rw [m, m']⟩
    · exact ⟨o, by rw [List.getElem?_set_ne (Ne.symm hk)]; exact h, rfl⟩
  · rw [upd_ne (fun z => ha l u e m z.symm)]
    exact h
theorem Rel.set {l : Nat} {u u' : O} {o' : HO} (R : Rel K φ S H) (e : S[l]? = some u) (m : Mu u = true) (m' : Mu u' = true) (ho : RO K φ (S.set l u').length (upd H (φ l) o') (φ l) u') : Rel K φ (S.set l u') (upd H (φ l) o') := by
  have ex : Ext K φ S H φ (S.set l u') (upd H (φ l) o') := Ext.set R e m m'
  have hl : l < S.length := (List.getElem?_eq_some_iff.mp e).1
  have nf : ∀ w, H (φ l) = some w → ∀ ws o'', w ≠ .frz o'' (.lst ws) := fun w ew ws o'' => by
    have q := R.obj l u e
    cases u with
    | lst ds => obtain ⟨vs, h, _⟩ := q; rw [h] at ew; cases ew; exact fun z => nomatch z
    | scr ds => cases m
    | dK kvs => obtain ⟨vs, h, _⟩ := q; rw [h] at ew; cases ew; exact fun z => nomatch z
  have look : ∀ k w, (S.set l u')[k]? = some w → (k = l ∧ w = u') ∨ (k ≠ l ∧ S[k]? = some w) := fun k w q => by
    by_cases hk : k = l
    · subst hk
      rw [List.getElem?_set_self hl] at q
      cases q
      exact .inl ⟨rfl, rfl⟩
    · rw [List.getElem?_set_ne (Ne.symm hk)] at q
      exact .inr ⟨hk, q⟩
  refine ⟨fun k w q => ?_, fun k k' w w' q q' mw mw' z => ?_⟩
  · rcases look k w q with ⟨rfl, rfl⟩ | ⟨hk, q⟩
    · exact ho
    · have x := R.obj k w q
      have ne : Mu w = true → φ k ≠ φ l := fun mw z => hk (R.inj k l w u q e mw m z)
      cases w with
      | lst ds => obtain ⟨vs, h, r⟩ := x; exact ⟨vs, by rw [upd_ne (ne rfl)]; exact h, r.mono ex⟩
      | scr ds => obtain ⟨vs, h, r⟩ := x; exact ⟨vs, rdlO h nf, r.mono ex⟩
      | dK kvs => obtain ⟨vs, h, r⟩ := x; exact ⟨vs, by rw [upd_ne (ne rfl)]; exact h, r.mono ex⟩
  · rcases look k w q with ⟨hk, hw⟩ | ⟨hk, q1⟩
    · rcases look k' w' q' with ⟨hk', hw'⟩ | ⟨hk', q2⟩
      · rw [hk, hk']
      · rw [hk] at z ⊢
        exact (R.inj k' l w' u q2 e mw' m z.symm).symm
    · rcases look k' w' q' with ⟨hk', hw'⟩ | ⟨hk', q2⟩
      · rw [hk'] at z ⊢
        exact R.inj k l w u q1 e mw m z
      · exact R.inj k k' w w' q1 q2 mw mw' z

/-! ### a result and what is wanted of it -/
def Out (K : PySem.W.Frag) (φ : Nat → Addr) (S : Sto) (H : Hp) (r : Res D) (Q : VK) : Prop :=
  r.wp fun d S' => ∀ φ' H' v, Ext K φ S H φ' S' H' → Rel K φ' S' H' → RV K φ' S'.length H' d v → Q v H'
theorem Out.pre {r : Res D} {Q : VK} (e : Ext K φ S H φ1 S1 H1) (h : Out K φ S H r Q) : Out K φ1 S1 H1 r Q :=
  wp_mono h fun _ _ q φ' H' v e' => q φ' H' v (e.trans e')
theorem Out.here {d : D} {v : V} {Q : VK} (h : Out K φ S H (.ok d S) Q) (R : Rel K φ S H) (r : RV K φ S.length H d v) : Q v H := h φ H v .refl R r
theorem Out.tup {ds : List D} {vs : List V} {Q : VK} (h : Out K φ S H (.ok (.tup ds) S) Q) (R : Rel K φ S H) (r : RVs K φ S.length H ds vs) : ∀ p, H p = none → Q (.ref p) (upd H p (.tup vs)) := fun p hp =>
  h φ _ _ (Ext.fresh hp) (R.at_new hp) (.tup (SqT.of upd_same) (r.mono (S' := S) (Ext.fresh hp)))
theorem Out.alloc {ds : List D} {vs : List V} {Q : VK} (h : Out K φ S H (alloc S (.lst ds)) Q) (R : Rel K φ S H) (r : RVs K φ S.length H ds vs) : ∀ p, H p = none → Q (.ref p) (upd H p (.lst vs)) := fun p hp => by
  have ex : Ext K φ S H (put φ S.length p) (S ++ [.lst ds]) (upd H p (.lst vs)) := Ext.push hp
  have q : RV K (put φ S.length p) (S ++ [O.lst ds]).length (upd H p (.lst vs)) (.loc S.length) (.ref (put φ S.length p S.length)) := .loc (by simp)
  have pn : put φ S.length p S.length = p := by unfold put; rw [if_pos rfl]
  rw [pn] at q
  exact h _ _ _ ex (R.push hp ⟨vs, upd_same, r.mono ex⟩) q
theorem Out.set {l : Nat} {u : O} {ds : List D} {vs : List V} {d : D} {v : V} {Q : VK} (h : Out K φ S H (.ok d (S.set l (.lst ds))) Q) (R : Rel K φ S H) (e : S[l]? = some u) (m : Mu u = true) (r : RVs K φ S.length H ds vs) (rd : RV K φ S.length H d v) :
    Q v (upd H (φ l) (.lst vs)) := by
  have ex : Ext K φ S H φ (S.set l (.lst ds)) (upd H (φ l) (.lst vs)) := Ext.set R e m rfl
  exact h _ _ _ ex (R.set e m rfl ⟨vs, upd_same, r.mono ex⟩) (rd.mono ex)

/-! ### reading values -/
theorem RVs.length : ∀ {ds : List D} {vs : List V} {n : Nat}, RVs K φ n H ds vs → ds.length = vs.length
  | _, _, _, .nil => rfl
  | _, _, _, .cons _ t => congrArg (· + 1) t.length
theorem RVs.get {n : Nat} : ∀ {ds : List D} {vs : List V} {i : Nat} {d : D}, RVs K φ n H ds vs → ds[i]? = some d → ∃ v, vs[i]? = some v ∧ RV K φ n H d v
  | _, _, _, _, .nil, e => by simp at e
  | _, _, 0, _, .cons r _, e => by simp at e; subst e; exact ⟨_, rfl, r⟩
  | _, _, i + 1, d, .cons _ t, e => by
    obtain ⟨v, h1, h2⟩ := RVs.get (i := i) (d := d) t (by simpa using e)
    exact ⟨v, by simpa using h1, h2⟩
theorem RVs.get' {n : Nat} : ∀ {ds : List D} {vs : List V} {i : Nat} {v : V}, RVs K φ n H ds vs → vs[i]? = some v → ∃ d, ds[i]? = some d ∧ RV K φ n H d v
  | _, _, _, _, .nil, e => by simp at e
  | _, _, 0, _, .cons r _, e => by simp at e; subst e; exact ⟨_, rfl, r⟩
  | _, _, i + 1, d, .cons _ t, e => by
    obtain ⟨v, h1, h2⟩ := RVs.get' (i := i) (v := d) t (by simpa using e)
    exact ⟨v, by simpa using h1, h2⟩
theorem RVs.append {n : Nat} : ∀ {ds es : List D} {vs ws : List V}, RVs K φ n H ds vs → RVs K φ n H es ws → RVs K φ n H (ds ++ es) (vs ++ ws)
  | _, _, _, _, .nil, s => s
  | _, _, _, _, .cons r t, s => .cons r (RVs.append t s)
theorem RVs.take {n : Nat} : ∀ {ds : List D} {vs : List V} (k : Nat), RVs K φ n H ds vs → RVs K φ n H (ds.take k) (vs.take k)
  | _, _, 0, _ => .nil
  | _, _, _ + 1, .nil => .nil
  | _, _, k + 1, .cons r t => .cons r (RVs.take k t)
theorem RVs.drop {n : Nat} : ∀ {ds : List D} {vs : List V} (k : Nat), RVs K φ n H ds vs → RVs K φ n H (ds.drop k) (vs.drop k)
  | _, _, 0, r => r
  | _, _, _ + 1, .nil => .nil
  | _, _, k + 1, .cons _ t => RVs.drop k t
theorem RVs.reverse {n : Nat} : ∀ {ds : List D} {vs : List V}, RVs K φ n H ds vs → RVs K φ n H ds.reverse vs.reverse
  | _, _, .nil => .nil
  | _, _, .cons r t => by
    rw [List.reverse_cons, List.reverse_cons]
    exact (RVs.reverse t).append (.cons r .nil)
theorem RVs.set {n : Nat} {d : D} {v : V} (r : RV K φ n H d v) : ∀ {ds : List D} {vs : List V} (i : Nat), RVs K φ n H ds vs → RVs K φ n H (ds.set i d) (vs.set i v)
  | _, _, _, .nil => .nil
  | _, _, 0, .cons _ t => .cons r t
  | _, _, i + 1, .cons q t => .cons q (RVs.set r i t)
theorem RVs.eraseIdx {n : Nat} : ∀ {ds : List D} {vs : List V} (i : Nat), RVs K φ n H ds vs → RVs K φ n H (ds.eraseIdx i) (vs.eraseIdx i)
  | _, _, _, .nil => .nil
  | _, _, 0, .cons _ t => t
  | _, _, i + 1, .cons q t => .cons q (RVs.eraseIdx i t)
theorem RVs.dropLast {n : Nat} {ds : List D} {vs : List V} (r : RVs K φ n H ds vs) : RVs K φ n H ds.dropLast vs.dropLast := by
  rw [List.dropLast_eq_take, List.dropLast_eq_take, r.length]
  exact r.take _
/-- what a list's or a tuple's items are -/
theorem items_of {d : D} {v : V} {ds : List D} (R : Rel K φ S H) (r : RV K φ S.length H d v) (h : items S d = some ds) : ∃ a vs, v = .ref a ∧ (SqL K H a vs ∨ SqT K H a vs) ∧ RVs K φ S.length H ds vs := by
  cases r with
  | tup h1 h2 => cases h; exact ⟨_, _, rfl, .inr h1, h2⟩
  | @loc l hl =>
    unfold items at h
    dsimp only at h
    cases e : S[l]? with
    | none => rw [e] at h; cases h
    | some o =>
      rw [e] at h
      have q := R.obj l o e
      cases o with
      | lst es => cases h; obtain ⟨vs, h1, h2⟩ := q; exact ⟨_, vs, rfl, .inl (SqL.of h1), h2⟩
      | scr es => cases h; obtain ⟨vs, h1, h2⟩ := q; exact ⟨_, vs, rfl, .inl h1.seq, h2⟩
      | dK kvs => cases h
  | _ => cases h
theorem items_loc {l : Nat} {v : V} {ds : List D} (R : Rel K φ S H) (r : RV K φ S.length H (.loc l) v) (h : items S (.loc l) = some ds) : v = .ref (φ l) ∧ ∃ vs, SqL K H (φ l) vs ∧ RVs K φ S.length H ds vs := by
  cases r with
  | loc hl =>
    unfold items at h
    dsimp only at h
    cases e : S[l]? with
    | none => rw [e] at h; cases h
    | some o =>
      rw [e] at h
      have q := R.obj l o e
      cases o with
      | lst es => cases h; obtain ⟨vs, h1, h2⟩ := q; exact ⟨rfl, vs, SqL.of h1, h2⟩
      | scr es => cases h; obtain ⟨vs, h1, h2⟩ := q; exact ⟨rfl, vs, h1.seq, h2⟩
      | dK kvs => cases h
theorem items_tup {ds es : List D} {v : V} (r : RV K φ S.length H (.tup ds) v) : ∃ a vs, v = .ref a ∧ SqT K H a vs ∧ RVs K φ S.length H ds vs := by
  cases r with
  | tup h1 h2 => exact ⟨_, _, rfl, h1, h2⟩
theorem lstAt_of {l : Nat} {v : V} {ds : List D} (R : Rel K φ S H) (r : RV K φ S.length H (.loc l) v) (h : lstAt S l = some ds) : v = .ref (φ l) ∧ S[l]? = some (.lst ds) ∧ ∃ vs, H (φ l) = some (.lst vs) ∧ RVs K φ S.length H ds vs := by
  cases r with
  | loc hl =>
    unfold lstAt at h
    cases e : S[l]? with
    | none => rw [e] at h; cases h
    | some o =>
      rw [e] at h
      have q := R.obj l o e
      cases o with
      | lst es => cases h; obtain ⟨vs, h1, h2⟩ := q; exact ⟨rfl, rfl, vs, h1, h2⟩
      | scr es => cases h
      | dK kvs => cases h
theorem RVs.ints {n : Nat} : ∀ {ds : List D} {vs : List V} {ns : List Int}, RVs K φ n H ds vs → allInts ds = some ns → vs = ns.map V.int ∧ ds = ns.map D.int
  | _, _, _, .nil, h => by cases h; exact ⟨rfl, rfl⟩
  | _, _, ns, .cons (d := d) (ds := ds) r t, h => by
    cases r with
    | int i =>
      have h' : (allInts ds).map (i :: ·) = some ns := h
      cases e : allInts ds with
      | none => rw [e] at h'; cases h'
      | some ms =>
        rw [e] at h'
        cases h'
        obtain ⟨h1, h2⟩ := RVs.ints t e
        exact ⟨by rw [h1]; rfl, by rw [h2]; rfl⟩
    | _ => cases h
theorem RVs.bls {n : Nat} : ∀ {ds : List D} {vs : List V} {ns : List Bool}, RVs K φ n H ds vs → allBls ds = some ns → vs = ns.map V.bl ∧ ds = ns.map D.bl
  | _, _, _, .nil, h => by cases h; exact ⟨rfl, rfl⟩
  | _, _, ns, .cons (d := d) (ds := ds) r t, h => by
    cases r with
    | bl i =>
      have h' : (allBls ds).map (i :: ·) = some ns := h
      cases e : allBls ds with
      | none => rw [e] at h'; cases h'
      | some ms =>
        rw [e] at h'
        cases h'
        obtain ⟨h1, h2⟩ := RVs.bls t e
        exact ⟨by rw [h1]; rfl, by rw [h2]; rfl⟩
    | _ => cases h
theorem RVs.strs {n : Nat} : ∀ {ds : List D} {vs : List V} {ns : List Str}, RVs K φ n H ds vs → allStrs ds = some ns → vs = ns.map V.str ∧ ds = ns.map D.str
  | _, _, _, .nil, h => by cases h; exact ⟨rfl, rfl⟩
  | _, _, ns, .cons (d := d) (ds := ds) r t, h => by
    cases r with
    | str i =>
      have h' : (allStrs ds).map (i :: ·) = some ns := h
      cases e : allStrs ds with
      | none => rw [e] at h'; cases h'
      | some ms =>
        rw [e] at h'
        cases h'
        obtain ⟨h1, h2⟩ := RVs.strs t e
        exact ⟨by rw [h1]; rfl, by rw [h2]; rfl⟩
    | _ => cases h
theorem RVs.of_ints {n : Nat} : ∀ ns : List Int, RVs K φ n H (ns.map D.int) (ns.map V.int)
  | [] => .nil
  | i :: r => .cons (.int i) (RVs.of_ints r)
theorem RVs.of_strs {n : Nat} : ∀ ns : List Str, RVs K φ n H (ns.map D.str) (ns.map V.str)
  | [] => .nil
  | i :: r => .cons (.str i) (RVs.of_strs r)
theorem flat_of {n : Nat} {d : D} {v : V} (r : RV K φ n H d v) (h : flatD d = true) : flatV v = true := by
  cases r <;> first | rfl | cases h
theorem flats_of {n : Nat} : ∀ {ds : List D} {vs : List V}, RVs K φ n H ds vs → ds.all flatD = true → vs.all flatV = true
  | _, _, .nil, _ => rfl
  | _, _, .cons r t, h => by
    rw [List.all_cons, Bool.and_eq_true] at h ⊢
    exact ⟨flat_of r h.1, flats_of t h.2⟩
theorem eqFlat_of {n : Nat} {d e : D} {v u : V} (r : RV K φ n H d v) (r' : RV K φ n H e u) (h : flatD d = true) (h' : flatD e = true) : eqV v u = eqFlat d e := by
  cases r <;> cases r' <;> first | rfl | cases h | cases h'
theorem inFlat_of {n : Nat} {d : D} {v : V} (r : RV K φ n H d v) (h : flatD d = true) : ∀ {ds : List D} {vs : List V}, RVs K φ n H ds vs → ds.all flatD = true → inV v vs = inFlat d ds
  | _, _, .nil, _ => rfl
  | _, _, .cons q t, h' => by
    rw [List.all_cons, Bool.and_eq_true] at h'
    have e1 := eqFlat_of q r h'.1 h
    have e2 := inFlat_of r h t h'.2
    unfold inV inFlat at e2 ⊢
    rw [List.any_cons, List.any_cons, e1, e2]

/-! ### data as a whole -/
mutual
theorem fz_dp {g : Nat → Option PyData} {n : Nat} (hg : ∀ l p, l < n → g l = some p → Dp K H (.ref (φ l)) p) : ∀ {d : D} {v : V} {p : PyData}, RV K φ n H d v → fz g d = some p → Dp K H v p
  | _, _, _, .non, h => by cases h; exact .non
  | _, _, _, .bl b, h => by cases h; exact .bl b
  | _, _, _, .int i, h => by cases h; exact .int i
  | _, _, _, .str x, h => by cases h; exact .str x
  | _, _, p, .tup (ds := ds) h1 h2, h => by
    have h' : (fzs g ds).map PyData.tuple = some p := h
    cases e : fzs g ds with
    | none => rw [e] at h'; cases h'
    | some ps => rw [e] at h'; cases h'; exact .tup h1 (fzs_dp hg h2 e)
  | _, _, _, .loc hl, h => hg _ _ hl h
theorem fzs_dp {g : Nat → Option PyData} {n : Nat} (hg : ∀ l p, l < n → g l = some p → Dp K H (.ref (φ l)) p) : ∀ {ds : List D} {vs : List V} {ps : List PyData}, RVs K φ n H ds vs → fzs g ds = some ps → DpAll K H vs ps
  | _, _, _, .nil, h => by cases h; exact .nil
  | _, _, ps, .cons (d := d) (ds := ds) r t, h => by
    have h' : (match fz g d with | some p => (fzs g ds).map (p :: ·) | none => none) = some ps := h
    cases e : fz g d with
    | none => rw [e] at h'; cases h'
    | some p =>
      rw [e] at h'
      have h'' : (fzs g ds).map (p :: ·) = some ps := h'
      cases e2 : fzs g ds with
      | none => rw [e2] at h''; cases h''
      | some qs => rw [e2] at h''; cases h''; exact .cons (fz_dp hg r e) (fzs_dp hg t e2)
end
theorem stoG_dp (R : Rel K φ S H) : ∀ (n : Nat) (l : Nat) (p : PyData), l < S.length → stoG S n l = some p → Dp K H (.ref (φ l)) p
  | 0, _, _, _, h => by cases h
  | n + 1, l, p, hl, h => by
    unfold stoG at h
    cases e : S[l]? with
    | none => rw [e] at h; cases h
    | some o =>
      rw [e] at h
      have q := R.obj l o e
      cases o with
      | lst ds =>
        have h' : (fzs (stoG S n) ds).map PyData.list = some p := h
        cases e2 : fzs (stoG S n) ds with
        | none => rw [e2] at h'; cases h'
        | some ps => rw [e2] at h'; cases h'; obtain ⟨vs, h1, h2⟩ := q; exact .lst (SqL.of h1) (fzs_dp (stoG_dp R n) h2 e2)
      | scr ds =>
        have h' : (fzs (stoG S n) ds).map PyData.list = some p := h
        cases e2 : fzs (stoG S n) ds with
        | none => rw [e2] at h'; cases h'
        | some ps => rw [e2] at h'; cases h'; obtain ⟨vs, h1, h2⟩ := q; exact .lst h1.seq (fzs_dp (stoG_dp R n) h2 e2)
      | dK kvs => cases h
theorem dat_dp {d : D} {v : V} {p : PyData} (R : Rel K φ S H) (r : RV K φ S.length H d v) (h : dat S d = some p) : Dp K H v p := fz_dp (fun l p hl e => stoG_dp R 12 l p hl e) r h
end
end Wk

set_option Elab.async false
set_option linter.all false
set_option maxRecDepth 100000
set_option maxHeartbeats 1000000
namespace Wk
open PySem PySem.Spec PyProof.Rows L2

/-! ### operators -/
def opOf : BOp → Operator
  | .add => .Add | .sub => .Sub | .mul => .Mult | .fdiv => .FloorDiv | .mod => .Mod | .pow => .Pow
def cmpOf : COp → CmpOp
  | .eq => .Eq | .ne => .NotEq | .lt => .Lt | .le => .LtE | .gt => .Gt | .ge => .GtE | .isN => .Is | .notN => .IsNot | .isin => .In | .notin => .NotIn
section
variable {X : Cx} {φ : Nat → Addr} {S : Sto} {H : Hp}
def rB (K : PySem.W.Frag) (op : BOp) : R2 := fun x y H Q => ∃ (φ : Nat → Addr) (S : Sto) (dx dy : D), Rel K φ S H ∧ RV K φ S.length H dx x ∧ RV K φ S.length H dy y ∧ Out K φ S H (binop op dx dy S) Q
theorem RVs.nil_iff {K : PySem.W.Frag} {n : Nat} {ds : List D} {vs : List V} (r : RVs K φ n H ds vs) : vs = [] ↔ ds = [] := by
  cases r with
  | nil => exact ⟨fun _ => rfl, fun _ => rfl⟩
  | cons _ _ => exact ⟨(fun z => nomatch z), fun z => nomatch z⟩
theorem op_bin (op : BOp) : OpR X (binaryOp (opOf op)) (rB X.K op) := by
  rintro pins s σ H x y v u Q I rx ry ⟨φ, S, dx, dy, R, hx, hy, h⟩
  cases op with
  | add =>
    cases hx with
    | int i =>
      cases hy with
      | int j => exact op_add pins s σ H _ _ v u Q I rx ry ⟨i, j, rfl, rfl, h.here R (.int _)⟩
      | _ => exact False.elim h
    | str i =>
      cases hy with
      | str j =>
        simp only [binop] at h
        split at h
        · rename_i hz
          exact op_add_str pins s σ H _ _ v u Q I rx ry ⟨i, j, rfl, rfl, hz, h.here R (.str _)⟩
        · exact False.elim h
      | _ => exact False.elim h
    | @tup ds a vs ha hv =>
      cases hy with
      | @tup es b ws hb hw =>
        simp only [binop] at h
        split at h
        · rename_i hz
          refine op_catA pins s σ H _ _ v u Q I rx ry ⟨a, b, vs, ws, rfl, rfl, ha, hb, by rw [← hv.length, ← hw.length]; exact hz, fun e => ?_, fun _ e => ?_, fun _ _ => ?_⟩
          · have e' := hv.nil_iff.mp e
            subst e'
            exact h.here R (.tup hb hw)
          · have e' := hw.nil_iff.mp e
            subst e'
            rw [List.append_nil] at h
            exact h.here R (.tup ha hv)
          · exact h.tup R (hv.append hw)
        · exact False.elim h
      | _ => exact False.elim h
    | @loc l hl =>
      cases hy with
      | @loc m hm =>
        simp only [binop] at h
        cases e1 : lstAt S l with
        | none => rw [e1] at h; exact False.elim h
        | some xs =>
          cases e2 : lstAt S m with
          | none => rw [e1, e2] at h; exact False.elim h
          | some ys =>
            rw [e1, e2] at h
            simp only at h
            split at h
            · rename_i hz
              obtain ⟨_, _, vs, h1, r1⟩ := lstAt_of R (.loc hl) e1
              obtain ⟨_, _, ws, h2, r2⟩ := lstAt_of R (.loc hm) e2
              exact op_cat pins s σ H _ _ v u Q I rx ry ⟨φ l, φ m, vs, ws, rfl, rfl, h1, h2, by rw [← r1.length, ← r2.length]; exact hz, Out.alloc h R (r1.append r2)⟩
            · exact False.elim h
      | _ => exact False.elim h
    | _ => exact False.elim h
  | sub =>
    cases hx with
    | int i =>
      cases hy with
      | int j => exact op_sub pins s σ H _ _ v u Q I rx ry ⟨i, j, rfl, rfl, h.here R (.int _)⟩
      | _ => exact False.elim h
    | _ => exact False.elim h
  | mul =>
    cases hx with
    | int i =>
      cases hy with
      | int j =>
        simp only [binop] at h
        split at h
        · rename_i hc
          rcases hc with hc | hc
          · exact op_mul pins s σ H _ _ v u Q I rx ry ⟨i, j, rfl, rfl, hc, h.here R (.int _)⟩
          · exact op_mulW pins s σ H _ _ v u Q I rx ry ⟨i, j, rfl, rfl, hc, h.here R (.int _)⟩
        · exact False.elim h
      | _ => exact False.elim h
    | _ => exact False.elim h
  | fdiv =>
    cases hx with
    | int i =>
      cases hy with
      | int j =>
        simp only [binop] at h
        split at h
        · rename_i hc
          rcases hc with hc | hc
          · exact op_fdiv pins s σ H _ _ v u Q I rx ry ⟨i, j, rfl, rfl, hc, h.here R (.int _)⟩
          · exact op_fdivW pins s σ H _ _ v u Q I rx ry ⟨i, j, rfl, rfl, hc, h.here R (.int _)⟩
        · exact False.elim h
      | _ => exact False.elim h
    | _ => exact False.elim h
  | mod =>
    cases hx with
    | int i =>
      cases hy with
      | int j =>
        simp only [binop] at h
        split at h
        · rename_i hc
          exact op_mod pins s σ H _ _ v u Q I rx ry ⟨i, j, rfl, rfl, hc, h.here R (.int _)⟩
        · exact False.elim h
      | _ => exact False.elim h
    | _ => exact False.elim h
  | pow =>
    cases hx with
    | int i =>
      cases hy with
      | int j =>
        simp only [binop] at h
        split at h
        · rename_i hc
          exact op_pow pins s σ H _ _ v u Q I rx ry ⟨i, j, rfl, rfl, hc, h.here R (.int _)⟩
        · exact False.elim h
      | _ => exact False.elim h
    | _ => exact False.elim h
/-- a op= b at a name: ints and texts -/
theorem op_aug (op : BOp) (hop : op = .add ∨ op = .sub) : OpR X (inplaceOp (opOf op)) (fun x y H Q => ∃ (φ : Nat → Addr) (S : Sto) (dx dy : D), Rel X.K φ S H ∧ RV X.K φ S.length H dx x ∧ RV X.K φ S.length H dy y ∧ (match dx with | .int _ => True | .str _ => True | _ => False) ∧ Out X.K φ S H (binop op dx dy S) Q) := by
  rintro pins s σ H x y v u Q I rx ry ⟨φ, S, dx, dy, R, hx, hy, hk, h⟩
  rcases hop with rfl | rfl
  · cases hx with
    | int i =>
      cases hy with
      | int j => exact iop_add pins s σ H _ _ v u Q I rx ry ⟨i, j, rfl, rfl, h.here R (.int _)⟩
      | _ => exact False.elim h
    | str i =>
      cases hy with
      | str j =>
        simp only [binop] at h
        split at h
        · rename_i hz
          exact iop_add_str pins s σ H _ _ v u Q I rx ry ⟨i, j, rfl, rfl, hz, h.here R (.str _)⟩
        · exact False.elim h
      | _ => exact False.elim h
    | _ => exact False.elim hk
  · cases hx with
    | int i =>
      cases hy with
      | int j => exact iop_sub pins s σ H _ _ v u Q I rx ry ⟨i, j, rfl, rfl, h.here R (.int _)⟩
      | _ => exact False.elim h
    | str i => exact False.elim h
    | _ => exact False.elim hk

/-! ### comparisons -/
def rC (K : PySem.W.Frag) (op : COp) : R2 := fun x y H Q => ∃ (φ : Nat → Addr) (S : Sto) (dx dy : D), Rel K φ S H ∧ RV K φ S.length H dx x ∧ RV K φ S.length H dy y ∧ Out K φ S H (cmpop op dx dy S) Q
theorem eqD_of {K : PySem.W.Frag} {a b : D} {x y : V} {c : Bool} (R : Rel K φ S H) (hx : RV K φ S.length H a x) (hy : RV K φ S.length H b y) (h : deepEq S a b = some c) :
    ∃ d e, Dp K H x d ∧ Dp K H y e ∧ SeqAt.shaped d = true ∧ SeqAt.shaped e = true ∧ c = PyData.eqv d e := by
  unfold deepEq at h
  cases e1 : dat S a with
  | none => rw [e1] at h; cases h
  | some p =>
    cases e2 : dat S b with
    | none => rw [e1, e2] at h; cases h
    | some q =>
      rw [e1, e2] at h
      simp only at h
      split at h
      · rename_i hs
        cases h
        exact ⟨p, q, dat_dp R hx e1, dat_dp R hy e2, hs.1, hs.2, rfl⟩
      · cases h
theorem fast_of {K : PySem.W.Frag} {a b : D} {x y : V} {c : Bool} (hx : RV K φ S.length H a x) (hy : RV K φ S.length H b y) (h : fastEq a b = some c) : scal x y = true ∧ decide (x = y) = c := by
  cases hx <;> cases hy <;> cases h <;> refine ⟨rfl, ?_⟩ <;> first | exact dec_int | exact dec_bl | exact dec_str | simp
theorem op_cmp (op : COp) (hu : X.A.units + 64 < cLine) : OpR X (compareOp (cmpOf op)) (rC X.K op) := by
  rintro pins s σ H x y v u Q I rx ry ⟨φ, S, dx, dy, R, hx, hy, h⟩
  cases op with
  | eq =>
    simp only [cmpop] at h
    cases e : eqD S dx dy with
    | none => rw [e] at h; exact False.elim h
    | some c =>
      rw [e] at h
      unfold eqD at e
      cases ef : fastEq dx dy with
      | some c' =>
        rw [ef] at e; cases e
        obtain ⟨f1, f2⟩ := fast_of hx hy ef
        exact op_eq pins s σ H _ _ v u Q I rx ry ⟨f1, by rw [f2]; exact Out.here h R (.bl _)⟩
      | none =>
      rw [ef] at e
      obtain ⟨p, q, h1, h2, h3, h4, rfl⟩ := eqD_of R hx hy e
      exact op_eqD hu pins s σ H _ _ v u Q I rx ry ⟨p, q, h1, h2, h3, h4, Out.here h R (.bl _)⟩
  | ne =>
    simp only [cmpop] at h
    cases e : eqD S dx dy with
    | none => rw [e] at h; exact False.elim h
    | some c =>
      rw [e] at h
      unfold eqD at e
      cases ef : fastEq dx dy with
      | some c' =>
        rw [ef] at e; cases e
        obtain ⟨f1, f2⟩ := fast_of hx hy ef
        exact op_ne pins s σ H _ _ v u Q I rx ry ⟨f1, by rw [f2]; exact Out.here h R (.bl _)⟩
      | none =>
      rw [ef] at e
      obtain ⟨p, q, h1, h2, h3, h4, rfl⟩ := eqD_of R hx hy e
      exact op_neD hu pins s σ H _ _ v u Q I rx ry ⟨p, q, h1, h2, h3, h4, Out.here h R (.bl _)⟩
  | lt =>
    cases hx with
    | int i =>
      cases hy with
      | int j => exact op_lt pins s σ H _ _ v u Q I rx ry ⟨i, j, rfl, rfl, h.here R (.bl _)⟩
      | _ => exact False.elim h
    | str i =>
      cases hy with
      | str j => exact op_lt_str pins s σ H _ _ v u Q I rx ry ⟨i, j, rfl, rfl, h.here R (.bl _)⟩
      | _ => exact False.elim h
    | _ => exact False.elim h
  | le =>
    cases hx with
    | int i =>
      cases hy with
      | int j => exact op_le pins s σ H _ _ v u Q I rx ry ⟨i, j, rfl, rfl, h.here R (.bl _)⟩
      | _ => exact False.elim h
    | _ => exact False.elim h
  | gt =>
    cases hx with
    | int i =>
      cases hy with
      | int j => exact op_gt pins s σ H _ _ v u Q I rx ry ⟨i, j, rfl, rfl, h.here R (.bl _)⟩
      | _ => exact False.elim h
    | _ => exact False.elim h
  | ge =>
    cases hx with
    | int i =>
      cases hy with
      | int j => exact op_ge pins s σ H _ _ v u Q I rx ry ⟨i, j, rfl, rfl, h.here R (.bl _)⟩
      | _ => exact False.elim h
    | _ => exact False.elim h
  | isN =>
    cases hy with
    | non =>
      refine op_isN pins s σ H _ _ v u Q I rx ry ⟨rfl, ?_⟩
      cases hx <;> exact Out.here h R (.bl _)
    | _ => cases hx <;> exact False.elim h
  | notN =>
    cases hy with
    | non =>
      refine op_notN pins s σ H _ _ v u Q I rx ry ⟨rfl, ?_⟩
      cases hx <;> exact Out.here h R (.bl _)
    | _ => cases hx <;> exact False.elim h
  | isin =>
    simp only [cmpop] at h
    cases e : items S dy with
    | none => rw [e] at h; exact False.elim h
    | some ds =>
      rw [e] at h
      simp only at h
      split at h
      · rename_i hf
        obtain ⟨a, vs, rfl, hs, r⟩ := items_of R hy e
        refine op_in_seq pins s σ H _ _ v u Q I rx ry ⟨a, vs, rfl, hs, flat_of hx hf.1, flats_of r hf.2, ?_⟩
        rw [inFlat_of hx hf.1 r hf.2]
        exact Out.here h R (.bl _)
      · exact False.elim h
  | notin =>
    simp only [cmpop] at h
    cases e : items S dy with
    | none => rw [e] at h; exact False.elim h
    | some ds =>
      rw [e] at h
      simp only at h
      split at h
      · rename_i hf
        obtain ⟨a, vs, rfl, hs, r⟩ := items_of R hy e
        refine op_notIn_seq pins s σ H _ _ v u Q I rx ry ⟨a, vs, rfl, hs, flat_of hx hf.1, flats_of r hf.2, ?_⟩
        rw [inFlat_of hx hf.1 r hf.2]
        exact Out.here h R (.bl _)
      · exact False.elim h

/-! ### truth -/
theorem truth_of {K : PySem.W.Frag} {d : D} {x : V} {c : Bool} (R : Rel K φ S H) (r : RV K φ S.length H d x) (h : truth S d = some c) : TruV K x H c := by
  cases r with
  | non => cases h; rfl
  | bl b => cases h; rfl
  | int i => cases h; rfl
  | str y =>
    simp only [truth] at h
    split at h
    · rename_i hz; cases h; exact ⟨hz, rfl⟩
    · cases h
  | @tup ds a vs ha hv =>
    cases h
    refine .inr (.inl ⟨vs, ha, ?_⟩)
    cases hv <;> rfl
  | @loc l hl =>
    simp only [truth] at h
    cases e : S[l]? with
    | none => rw [e] at h; cases h
    | some o =>
      rw [e] at h
      have q := R.obj l o e
      cases o with
      | lst ds => cases h; obtain ⟨vs, h1, h2⟩ := q; exact .inl ⟨vs, SqL.of h1, by cases h2 <;> rfl⟩
      | scr ds => cases h; obtain ⟨vs, h1, h2⟩ := q; exact .inl ⟨vs, h1.seq, by cases h2 <;> rfl⟩
      | dK kvs =>
        cases h
        obtain ⟨kws, h1, h2⟩ := q
        refine .inr (.inr ⟨kws, h1, ?_⟩)
        have e' := congrArg List.isEmpty h2.1
        simp only [List.isEmpty_map] at e'
        rw [e']
end
end Wk

set_option Elab.async false
set_option linter.all false
set_option maxRecDepth 100000
set_option maxHeartbeats 1000000
namespace Wk
open PySem PySem.Spec PyProof.Rows L2

/-! ### built-ins -/
def bltVal : Blt → Value
  | .abs => .builtin "abs" | .len => .builtin "len" | .int => .type "int" | .bool => .type "bool" | .str => .type "str" | .list => .type "list" | .tuple => .type "tuple"
  | .repr => .builtin "repr" | .sorted => .builtin "sorted" | .sum => .builtin "sum" | .max2 => .builtin "max" | .min2 => .builtin "min" | .max1 => .builtin "max" | .min1 => .builtin "min"
  | .all => .builtin "all" | .any => .builtin "any"
def bltName : Blt → Str
  | .abs => "abs" | .len => "len" | .int => "int" | .bool => "bool" | .str => "str" | .list => "list" | .tuple => "tuple"
  | .repr => "repr" | .sorted => "sorted" | .sum => "sum" | .max2 => "max" | .min2 => "min" | .max1 => "max" | .min1 => "min"
  | .all => "all" | .any => "any"
theorem bltBoot : ∀ f : Blt, bootBuiltins (bltName f) = some (bltVal f) := by
  intro f
  cases f <;> decide +kernel

/-! sorting ints: the one sorted list -/
theorem insI_perm (x : Int) : ∀ l, (insI x l).Perm (x :: l)
  | [] => .refl _
  | y :: r => by
    unfold insI
    split
    · exact .refl _
    · exact ((insI_perm x r).cons y).trans (.swap x y r)
theorem sortI_perm : ∀ l, (sortI l).Perm l
  | [] => .refl _
  | x :: r => (insI_perm x (sortI r)).trans ((sortI_perm r).cons x)
theorem insI_pw (x : Int) : ∀ l, l.Pairwise (· ≤ ·) → (insI x l).Pairwise (· ≤ ·)
  | [], _ => by simp [insI]
  | y :: r, h => by
    unfold insI
    have h' := List.pairwise_cons.mp h
    split
    · rename_i hx
      refine List.pairwise_cons.mpr ⟨fun z hz => ?_, h⟩
      rcases List.mem_cons.mp hz with rfl | hz
      · exact hx
      · exact Int.le_trans hx (h'.1 z hz)
    · rename_i hx
      refine List.pairwise_cons.mpr ⟨fun z hz => ?_, insI_pw x r h'.2⟩
      rcases List.mem_cons.mp ((insI_perm x r).mem_iff.mp hz) with rfl | hz
      · omega
      · exact h'.1 z hz
theorem sortI_pw : ∀ l, (sortI l).Pairwise (· ≤ ·)
  | [] => .nil
  | x :: r => insI_pw x _ (sortI_pw r)
theorem sorted_one : ∀ {l m : List Int}, l.Perm m → l.Pairwise (· ≤ ·) → m.Pairwise (· ≤ ·) → l = m
  | [], m, p, _, _ => p.nil_eq
  | a :: l, [], p, _, _ => by have := p.length_eq; simp at this
  | a :: l, b :: m, p, h1, h2 => by
    have h1' := List.pairwise_cons.mp h1
    have h2' := List.pairwise_cons.mp h2
    have hb : b ∈ a :: l := p.mem_iff.mpr List.mem_cons_self
    have ha : a ∈ b :: m := p.mem_iff.mp List.mem_cons_self
    have e : a = b := by
      rcases List.mem_cons.mp hb with e | hb
      · exact e.symm
      · rcases List.mem_cons.mp ha with e | ha
        · exact e
        · exact Int.le_antisymm (h1'.1 b hb) (h2'.1 a ha)
    subst e
    rw [sorted_one (List.Perm.cons_inv p) h1'.2 h2'.2]
theorem maxI_is : ∀ {ns : List Int} {m : Int}, maxI ns = some m → m ∈ ns ∧ ∀ y ∈ ns, y ≤ m
  | [], _, h => by cases h
  | x :: r, m, h => by
    unfold maxI at h
    cases e : maxI r with
    | none =>
      rw [e] at h; cases h
      cases r with
      | nil => exact ⟨List.mem_cons_self, fun y hy => by simp at hy; omega⟩
      | cons z t => unfold maxI at e; cases e2 : maxI t <;> rw [e2] at e <;> cases e
    | some y =>
      rw [e] at h
      obtain ⟨h1, h2⟩ := maxI_is e
      have h' : (if x < y then y else x) = m := Option.some.inj h
      subst h'
      split
      · rename_i hx
        exact ⟨List.mem_cons_of_mem _ h1, fun z hz => by rcases List.mem_cons.mp hz with rfl | hz; omega; exact h2 z hz⟩
      · rename_i hx
        exact ⟨List.mem_cons_self, fun z hz => by rcases List.mem_cons.mp hz with rfl | hz; omega; have := h2 z hz; omega⟩
theorem minI_is : ∀ {ns : List Int} {m : Int}, minI ns = some m → m ∈ ns ∧ ∀ y ∈ ns, m ≤ y
  | [], _, h => by cases h
  | x :: r, m, h => by
    unfold minI at h
    cases e : minI r with
    | none =>
      rw [e] at h; cases h
      cases r with
      | nil => exact ⟨List.mem_cons_self, fun y hy => by simp at hy; omega⟩
      | cons z t => unfold minI at e; cases e2 : minI t <;> rw [e2] at e <;> cases e
    | some y =>
      rw [e] at h
      obtain ⟨h1, h2⟩ := minI_is e
      have h' : (if y < x then y else x) = m := Option.some.inj h
      subst h'
      split
      · rename_i hx
        exact ⟨List.mem_cons_of_mem _ h1, fun z hz => by rcases List.mem_cons.mp hz with rfl | hz; omega; exact h2 z hz⟩
      · rename_i hx
        exact ⟨List.mem_cons_self, fun z hz => by rcases List.mem_cons.mp hz with rfl | hz; omega; have := h2 z hz; omega⟩

section
variable {X : Cx} {φ : Nat → Addr} {S : Sto} {H : Hp}
/-- repr of data -/
theorem call_reprD (hg : X.A.guards = some []) (hu : X.A.units + 100 < cLine) : CallR X (.builtin "repr") (fun xs H Q => ∃ x d, xs = [x] ∧ Dp X.K H x d ∧ SeqAt.shaped d = true ∧ d.showable = true ∧ d.shown.length ≤ sizeLine ∧ Q (.str d.shown) H) := by
  intro pins s σ H xs us Q I r h
  obtain ⟨x, d, rfl, hd, hs, hw, hz, q⟩ := h
  obtain ⟨u, rfl, rx⟩ := vals1 r
  obtain ⟨as, rd⟩ := Dp.reads I d x u hd rx
  have hs' : d.canLay0 = true ∧ d.depth ≤ 64 := by
    unfold SeqAt.shaped at hs
    rw [Bool.and_eq_true, decide_eq_true_eq] at hs
    exact hs
  have hnd := PyData.hasDict_of_canLay d hs'.1
  have ref : ∀ a, u = .ref a → wpAny (model X.prog X.w) X.A (call (.builtin "repr") [u]) (EP X pins σ Q) X.xe s := fun a e => by
    subst e
    refine repr_of_reads' rd hw (PyData.noDict_hsm hnd) hg (by omega) (fun _ _ z => z) (fun h' t tk k => ?_) hz
    exact ⟨.str _, H, I.kept k, ⟨_, rfl⟩, q⟩
  cases hd with
  | non => cases rx; exact PySem.P.repr_of_none ⟨.str _, H, I.tok _, ⟨_, rfl⟩, q⟩
  | bl b => cases rx; exact PySem.P.repr_of_bool ⟨.str _, H, I.tok _, ⟨_, rfl⟩, q⟩
  | int i =>
    obtain ⟨t, rfl⟩ := rx
    have hi : i.natAbs.log2 < 1920 := of_decide_eq_true hw
    exact PySem.P.repr_of_int hi ⟨.str _, H, I.tok _, ⟨_, rfl⟩, q⟩
  | str y =>
    obtain ⟨t, rfl⟩ := rx
    exact PySem.P.repr_of_str ⟨.str _, H, I.tok _, ⟨_, rfl⟩, q⟩ hz
  | lst h1 h2 => cases rx; exact ref _ rfl
  | tup h1 h2 => cases rx; exact ref _ rfl

theorem items_map {K : PySem.W.Frag} {d : D} {x : V} {f : List D → D} {Q : VK} (R : Rel K φ S H) (r : RV K φ S.length H d x) (h : Out K φ S H (ofO ((items S d).map f) S) Q) :
    ∃ a vs ds, x = .ref a ∧ items S d = some ds ∧ (SqL K H a vs ∨ SqT K H a vs) ∧ RVs K φ S.length H ds vs ∧ Out K φ S H (.ok (f ds) S) Q := by
  cases e : items S d with
  | none => rw [e] at h; exact False.elim h
  | some ds =>
    rw [e] at h
    obtain ⟨a, vs, ex, hs, rr⟩ := items_of R r e
    exact ⟨a, vs, ds, ex, rfl, hs, rr, h⟩
theorem ints_at {K : PySem.W.Frag} {l : Nat} {x : V} {ns : List Int} (R : Rel K φ S H) (r : RV K φ S.length H (.loc l) x) (h : (items S (.loc l)).bind allInts = some ns) : x = .ref (φ l) ∧ SqL K H (φ l) (ns.map V.int) := by
  cases e : items S (.loc l) with
  | none => rw [e] at h; cases h
  | some ds =>
    rw [e] at h
    obtain ⟨ex, vs, hs, rr⟩ := items_loc R r e
    obtain ⟨e1, _⟩ := rr.ints h
    subst e1
    exact ⟨ex, hs⟩
theorem bls_at {K : PySem.W.Frag} {l : Nat} {x : V} {ns : List Bool} (R : Rel K φ S H) (r : RV K φ S.length H (.loc l) x) (h : (items S (.loc l)).bind allBls = some ns) : x = .ref (φ l) ∧ SqL K H (φ l) (ns.map V.bl) := by
  cases e : items S (.loc l) with
  | none => rw [e] at h; cases h
  | some ds =>
    rw [e] at h
    obtain ⟨ex, vs, hs, rr⟩ := items_loc R r e
    obtain ⟨e1, _⟩ := rr.bls h
    subst e1
    exact ⟨ex, hs⟩
def rBl (K : PySem.W.Frag) (f : Blt) : List V → Hp → VK → Prop := fun xs H Q => ∃ (φ : Nat → Addr) (S : Sto) (ds : List D), Rel K φ S H ∧ RVs K φ S.length H ds xs ∧ Out K φ S H (bltop f ds S) Q
theorem RVs.one {K : PySem.W.Frag} {n : Nat} {d : D} {vs : List V} (r : RVs K φ n H [d] vs) : ∃ v, vs = [v] ∧ RV K φ n H d v := by
  cases r with
  | cons a b => cases b; exact ⟨_, rfl, a⟩
theorem RVs.two {K : PySem.W.Frag} {n : Nat} {d e : D} {vs : List V} (r : RVs K φ n H [d, e] vs) : ∃ v u, vs = [v, u] ∧ RV K φ n H d v ∧ RV K φ n H e u := by
  cases r with
  | cons a b =>
    obtain ⟨u, rfl, c⟩ := b.one
    exact ⟨_, u, rfl, a, c⟩
theorem call_blt (f : Blt) (hc : X.calm = true) (hg : X.A.guards = some []) (hu : X.A.units + 100 < cLine) : CallR X (bltVal f) (rBl X.K f) := by
  rintro pins s σ H xs us Q I r ⟨φ, S, ds, R, rr, h⟩
  -- one argument, two arguments
  rcases ds with _ | ⟨d, _ | ⟨e, _ | ⟨e2, ds⟩⟩⟩
  · cases f <;> exact False.elim h
  · obtain ⟨x, rfl, rx⟩ := rr.one
    cases f with
    | abs =>
      cases rx with
      | int i => exact call_abs pins s σ H _ us Q I r ⟨i, rfl, h.here R (.int _)⟩
      | _ => exact False.elim h
    | len =>
      cases rx with
      | str y =>
        simp only [bltop] at h
        split at h
        · rename_i hz
          exact call_len pins s σ H _ us Q I r ⟨_, y.length, rfl, ⟨hz, rfl⟩, h.here R (.int _)⟩
        · exact False.elim h
      | tup h1 h2 =>
        simp only [bltop, items, Option.map_some, ofO_some] at h
        refine call_len_seq pins s σ H _ us Q I r ⟨_, _, rfl, .inr h1, ?_⟩
        rw [← h2.length]
        exact h.here R (.int _)
      | loc hl =>
        simp only [bltop] at h
        obtain ⟨a, vs, ds, ex, _, hs, r2, h⟩ := items_map R (.loc hl) h
        refine call_len_seq pins s σ H _ us Q I r ⟨a, vs, by rw [ex], hs, ?_⟩
        rw [← r2.length]
        exact h.here R (.int _)
      | _ => exact False.elim h
    | int =>
      cases rx with
      | int i => exact call_int1 pins s σ H _ us Q I r (.inl ⟨i, rfl, h.here R (.int _)⟩)
      | bl k => exact call_int1 pins s σ H _ us Q I r (.inr ⟨k, rfl, h.here R (.int _)⟩)
      | _ => exact False.elim h
    | bool =>
      cases rx with
      | int i => exact call_bool1 pins s σ H _ us Q I r (.inl ⟨i, rfl, h.here R (.bl _)⟩)
      | bl k => exact call_bool1 pins s σ H _ us Q I r (.inr ⟨k, rfl, h.here R (.bl _)⟩)
      | _ => exact False.elim h
    | str =>
      cases rx with
      | int i =>
        simp only [bltop] at h
        split at h
        · rename_i hz
          exact call_str_int pins s σ H _ us Q I r ⟨i, rfl, hz, h.here R (.str _)⟩
        · exact False.elim h
      | _ => exact False.elim h
    | list =>
      simp only [bltop] at h
      cases e : items S d with
      | none => rw [e] at h; exact False.elim h
      | some es =>
        rw [e] at h
        obtain ⟨a, vs, ex, hs, r2⟩ := items_of R rx e
        exact call_list_of pins s σ H _ us Q I r ⟨a, vs, by rw [ex], hs, Out.alloc h R r2⟩
    | tuple =>
      simp only [bltop] at h
      obtain ⟨a, vs, ds, ex, ei, hs, r2, h⟩ := items_map R rx h
      refine call_tuple_of pins s σ H _ us Q I r ⟨a, vs, by rw [ex], ?_⟩
      rcases hs with hs | hs
      · exact .inl ⟨hs, Out.tup h R r2⟩
      · exact .inr ⟨hs, h.here R (.tup hs r2)⟩
    | repr =>
      have gen : ∀ {y : Str}, reprD S d = some y → wpAny (model X.prog X.w) X.A (call (bltVal .repr) us) (EP X pins σ Q) X.xe s := fun {y} e => by
        have h' : Out X.K φ S H (.ok (.str y) S) Q := by
          have : bltop .repr [d] S = .ok (.str y) S ∨ (∃ i, d = .int i) := by
            cases d with
            | int i => exact .inr ⟨i, rfl⟩
            | _ => exact .inl (by simp only [bltop, e]; rfl)
          rcases this with e2 | ⟨i, rfl⟩
          · rw [e2] at h; exact h
          · simp only [bltop] at h
            split at h
            · unfold reprD at e
              have ed : dat S (.int i) = some (.int i) := rfl
              rw [ed] at e
              simp only at e
              split at e
              · cases e
                exact h
              · cases e
            · exact False.elim h
        unfold reprD at e
        cases ed : dat S d with
        | none => rw [ed] at e; cases e
        | some p =>
          rw [ed] at e
          simp only at e
          split at e
          · rename_i hp
            cases e
            exact call_reprD hg hu pins s σ H _ us Q I r ⟨x, p, rfl, dat_dp R rx ed, hp.1, hp.2.1, hp.2.2, h'.here R (.str _)⟩
          · cases e
      cases d with
      | int i =>
        simp only [bltop] at h
        split at h
        · rename_i hz
          cases rx
          exact SkE.call_repr_int pins s σ H _ us Q I r ⟨i, rfl, hz, h.here R (.str _)⟩
        · exact False.elim h
      | non => cases e : reprD S .non with | none => simp only [bltop, e] at h; exact False.elim h | some y => exact gen e
      | bl b => cases e : reprD S (.bl b) with | none => simp only [bltop, e] at h; exact False.elim h | some y => exact gen e
      | str z => cases e : reprD S (.str z) with | none => simp only [bltop, e] at h; exact False.elim h | some y => exact gen e
      | tup z => cases e : reprD S (.tup z) with | none => simp only [bltop, e] at h; exact False.elim h | some y => exact gen e
      | loc z => cases e : reprD S (.loc z) with | none => simp only [bltop, e] at h; exact False.elim h | some y => exact gen e
    | sorted =>
      cases d with
      | loc l =>
        simp only [bltop] at h
        cases e : (items S (.loc l)).bind allInts with
        | none => rw [e] at h; exact False.elim h
        | some ns =>
          rw [e] at h
          simp only at h
          split at h
          · rename_i hz
            obtain ⟨ex, hs⟩ := ints_at R rx e
            refine cr_sortedI pins s σ H _ us Q I r ⟨_, ns, by rw [ex], hs, fun ns' p hp hw hn => ?_⟩
            have e2 : ns' = sortI ns := sorted_one (hp.trans (sortI_perm ns).symm) hw (sortI_pw ns)
            subst e2
            exact Out.alloc h R (.of_ints _) p hn
          · exact False.elim h
      | _ => exact False.elim h
    | sum =>
      cases d with
      | loc l =>
        simp only [bltop] at h
        cases e : (items S (.loc l)).bind allInts with
        | none => rw [e] at h; exact False.elim h
        | some ns =>
          rw [e] at h
          obtain ⟨ex, hs⟩ := ints_at R rx e
          exact cr_sum hc pins s σ H _ us Q I r ⟨_, ns, by rw [ex], hs, Out.here h R (.int _)⟩
      | _ => exact False.elim h
    | max1 =>
      cases d with
      | loc l =>
        simp only [bltop] at h
        cases e : (items S (.loc l)).bind allInts with
        | none => rw [e] at h; exact False.elim h
        | some ns =>
          rw [e] at h
          cases em : maxI ns with
          | none => simp only [Option.bind_some, em] at h; exact False.elim h
          | some m =>
            simp only [Option.bind_some, em] at h
            obtain ⟨ex, hs⟩ := ints_at R rx e
            obtain ⟨h1, h2⟩ := maxI_is em
            refine cr_max hc pins s σ H _ us Q I r ⟨_, ns, by rw [ex], hs, List.length_pos_of_mem h1, fun m' k1 k2 => ?_⟩
            have e2 : m' = m := Int.le_antisymm (h2 m' k1) (k2 m h1)
            subst e2
            exact Out.here h R (.int _)
      | _ => exact False.elim h
    | min1 =>
      cases d with
      | loc l =>
        simp only [bltop] at h
        cases e : (items S (.loc l)).bind allInts with
        | none => rw [e] at h; exact False.elim h
        | some ns =>
          rw [e] at h
          cases em : minI ns with
          | none => simp only [Option.bind_some, em] at h; exact False.elim h
          | some m =>
            simp only [Option.bind_some, em] at h
            obtain ⟨ex, hs⟩ := ints_at R rx e
            obtain ⟨h1, h2⟩ := minI_is em
            refine cr_min hc pins s σ H _ us Q I r ⟨_, ns, by rw [ex], hs, List.length_pos_of_mem h1, fun m' k1 k2 => ?_⟩
            have e2 : m' = m := Int.le_antisymm (k2 m h1) (h2 m' k1)
            subst e2
            exact Out.here h R (.int _)
      | _ => exact False.elim h
    | all =>
      cases d with
      | loc l =>
        simp only [bltop] at h
        cases e : (items S (.loc l)).bind allBls with
        | none => rw [e] at h; exact False.elim h
        | some ns =>
          rw [e] at h
          obtain ⟨ex, hs⟩ := bls_at R rx e
          exact cr_all hc pins s σ H _ us Q I r ⟨_, ns, by rw [ex], hs, Out.here h R (.bl _)⟩
      | _ => exact False.elim h
    | any =>
      cases d with
      | loc l =>
        simp only [bltop] at h
        cases e : (items S (.loc l)).bind allBls with
        | none => rw [e] at h; exact False.elim h
        | some ns =>
          rw [e] at h
          obtain ⟨ex, hs⟩ := bls_at R rx e
          exact cr_any hc pins s σ H _ us Q I r ⟨_, ns, by rw [ex], hs, Out.here h R (.bl _)⟩
      | _ => exact False.elim h
    | _ => cases d <;> exact False.elim h
  · obtain ⟨x, y, rfl, rx, ry⟩ := rr.two
    cases f with
    | max2 =>
      cases rx with
      | int i => cases ry with
        | int j => exact call_max2 hc pins s σ H _ us Q I r ⟨i, j, rfl, h.here R (.int _)⟩
        | _ => exact False.elim h
      | _ => exact False.elim h
    | min2 =>
      cases rx with
      | int i => cases ry with
        | int j => exact call_min2 hc pins s σ H _ us Q I r ⟨i, j, rfl, h.here R (.int _)⟩
        | _ => exact False.elim h
      | _ => exact False.elim h
    | _ => cases d <;> exact False.elim h
  · cases f <;> cases d <;> first | exact False.elim h | (cases e <;> exact False.elim h)
end
end Wk

set_option Elab.async false
set_option linter.all false
set_option maxRecDepth 100000
set_option maxHeartbeats 2000000
namespace HT
open PySem PySem.Calls PyProof.Rows PySem.SeqAt
section
variable {prog : Program} {w : World} {A : Around} {E : Value → Shared → Prop} {s : Shared}
theorem sliceApplied_rev {sl : Addr} {vs : Value} {n : Nat} {Q : Int × Int × Nat → Shared → Prop} (hs : s.heap.IsSliceOf sl .none .none vs) (ps : IsPart vs (some (-1)))
    (h : Q ((n : Int) - 1, -1, n) s) : wpAny (model prog w) A (Builtin.Slice.sliceApplied (.ref sl) (pure (n : Int))) Q E s := by
  obtain ⟨os, hos, hcs, hds⟩ := id hs
  unfold Builtin.Slice.sliceApplied Builtin.Slice.sliceFields
  refine wpAny_bind (wpAny_bind (wpAny_field hos hds (x := .none) rfl (wpAny_bind (wpAny_field hos hds (x := .none) rfl (wpAny_bind (wpAny_field hos hds (x := vs) rfl (wpAny_pure ?_)))))))
  refine wpAny_bind (slicePart_ ps ?_)
  show wpAny _ _ (if ((-1 : Int) == 0) = true then _ else _) _ _ s
  rw [if_neg (by decide)]
  refine wpAny_bind (slicePart_none (wpAny_bind (slicePart_none (wpAny_bind (wpAny_pure ?_)))))
  show wpAny _ _ (pure ((n : Int) - 1, (-1 : Int), Builtin.Slice.slicePlaces ((n : Int) - 1) (-1) (-1))) _ _ s
  have e : Builtin.Slice.slicePlaces ((n : Int) - 1) (-1) (-1) = n := by
    unfold Builtin.Slice.slicePlaces
    rw [if_neg (by decide)]
    by_cases hn : (n : Int) - 1 > -1
    · rw [if_pos hn]
      have : ((n : Int) - 1 - -1 - 1) / (- -1) = (n : Int) - 1 := by
        rw [show (- -1 : Int) = 1 by decide, Int.ediv_one]; omega
      rw [this]; omega
    · rw [if_neg hn]; omega
  rw [e]
  exact wpAny_pure h
theorem pick_rev (xs : Array Value) : ((List.range xs.size).filterMap fun (m : Nat) => xs[(((xs.size : Int) - 1) + (m : Int) * (-1)).toNat]?).toArray = xs.toList.reverse.toArray := by
  have e : ((List.range xs.size).filterMap fun (m : Nat) => xs[(((xs.size : Int) - 1) + (m : Int) * (-1)).toNat]?) = ((List.range xs.size).map fun k => xs.size - 1 - k).filterMap (xs[·]?) := by
    rw [List.filterMap_map]
    have fc : ∀ (l : List Nat) (f g : Nat → Option Value), (∀ x ∈ l, f x = g x) → l.filterMap f = l.filterMap g := by
      intro l f g hfg
      induction l with
      | nil => rfl
      | cons a l ih =>
        rw [List.filterMap_cons, List.filterMap_cons, hfg a List.mem_cons_self, ih fun x hx => hfg x (List.mem_cons_of_mem _ hx)]
    apply fc
    intro m hm
    have hm' := List.mem_range.mp hm
    have : (((xs.size : Int) - 1) + (m : Int) * (-1)).toNat = xs.size - 1 - m := by omega
    show xs[(((xs.size : Int) - 1) + (m : Int) * (-1)).toNat]? = _
    rw [this]
    rfl
  rw [e, PySem.W.krv_range, List.filterMap_reverse, PySem.W.krv_all]
theorem getItem_tuple_rev {t sl : Addr} {items : Array Value} {vs : Value} {Q : Value → Shared → Prop} (ht : IsTup s.heap t items) (hs : s.heap.IsSliceOf sl .none .none vs) (ps : IsPart vs (some (-1)))
    (h : Q (.ref s.heap.objs.size) { s with heap := s.heap.push { cls := .type "tuple", data := .seq items.toList.reverse.toArray } })
    (hsz : items.size ≤ sizeLine) : wpAny (model prog w) A (getItem (.ref t) (.ref sl)) Q E s := by
  have htake : sizeOk (.seq items.toList.reverse.toArray) := by
    show items.toList.reverse.toArray.size ≤ sizeLine
    rw [List.size_toArray, List.length_reverse, Array.length_toList]
    exact hsz
  obtain ⟨os, hos, hcs, hds⟩ := id hs
  have hTs : s.TypeIs (.ref sl) "slice" := ⟨os, hos, hcs⟩
  unfold getItem
  try with_reducible refine wpAny_holding ?_
  first | refine wpAny_bind (wpAny_pure ?_) | skip
  refine wpAny_bind (wpAny_sequenceKey ht.typeIs (by decide) ?_)
  refine wpAny_bind (wpAny_callSpecial?_slot (name := Str.ofString "__getitem__") ht.typeIs PyProof.Rows.slot_tuple_getitem
    (wpAny_call_entry PyProof.Rows.slot_tuple_getitem ht.typeIs entry_tuple_getitem ?_ (args_tuple_getitem _ _)))
  show wpAny _ _ (Builtin.Tuple.tupleItemsOf (.ref t) >>= _) _ _ s
  refine wpAny_bind (tupleItemsOf_ ht ?_)
  refine wpAny_bind (wpAny_typeOf hTs ?_)
  rw [if_pos (by decide)]
  refine wpAny_bind (sliceApplied_rev hs ps ?_)
  have hno : ¬ ((((items.size : Int) - 1) == 0 && (-1 : Int) == 1 && (items.size) == items.size) = true) := by
    intro q
    rw [Bool.and_eq_true, Bool.and_eq_true] at q
    exact absurd (eq_of_beq q.1.2) (by decide)
  show wpAny _ _ (if (((items.size : Int) - 1) == 0 && (-1 : Int) == 1 && (items.size) == items.size) = true then _ else _) _ _ s
  rw [if_neg hno, pick_rev]
  first
    | exact wpAny_bind (m := Builtin.Tuple.tupleExact _) (wpAny_newObj_type (wpAny_pure ⟨_, rfl, wpAny_pure h⟩) htake)
    | exact wpAny_bind (m := Builtin.Tuple.tupleExact _) (wpAny_newObj_type (wpAny_bind (wpAny_pure (wpAny_pure ⟨_, rfl, wpAny_pure h⟩))) htake)
    | exact wpAny_bind (wpAny_bind (m := Builtin.Tuple.tupleExact _) (wpAny_newObj_type (wpAny_pure (wpAny_pure ⟨_, rfl, wpAny_pure h⟩)) htake))
    | exact wpAny_bind (wpAny_bind (m := Builtin.Tuple.tupleExact _) (wpAny_newObj_type (wpAny_pure ⟨_, rfl, wpAny_pure h⟩) htake))
end
end HT
namespace Wk
open PySem PySem.Spec PyProof.Rows L2
section
variable {X : Cx} {φ : Nat → Addr} {S : Sto} {H : Hp}

/-! ### a[i], a[lo:hi], a[::-1], a[i] = d -/
theorem atI_rv {K : PySem.W.Frag} {n : Nat} {ds : List D} {vs : List V} {i : Int} {d : D} (r : RVs K φ n H ds vs) (h : atI ds i = some d) : ∃ v, atI vs i = some v ∧ RV K φ n H d v := by
  unfold atI at h ⊢
  rw [← r.length]
  cases e : ixN ds.length i with
  | none => rw [e] at h; cases h
  | some j =>
    rw [e] at h
    obtain ⟨v, h1, h2⟩ := r.get (i := j) h
    exact ⟨v, h1, h2⟩
theorem valD_of {K : PySem.W.Frag} {n : Nat} {k : Key} : ∀ {kvs : List (Key × D)} {kws : List (Key × V)} {d : D}, RKs K φ n H kvs kws → valD kvs k = some d → ∃ v, valV kws k = some v ∧ RV K φ n H d v
  | [], kws, d, _, h => by cases h
  | (a, x) :: r, [], d, e, h => by cases e.1
  | (a, x) :: r, (b, y) :: q, d, ⟨e1, e2⟩, h => by
    have e1' : a :: r.map (·.1) = b :: q.map (·.1) := e1
    injection e1' with eab er
    subst eab
    cases e2 with
    | cons rx rr =>
      by_cases hk : a = k
      · have : valD ((a, x) :: r) k = some x := by simp [valD, List.find?_cons, hk]
        rw [this] at h; cases h
        exact ⟨y, valV_pos hk, rx⟩
      · have : valD ((a, x) :: r) k = valD r k := by simp [valD, List.find?_cons, hk]
        rw [this] at h
        obtain ⟨v, h1, h2⟩ := valD_of (kvs := r) (kws := q) ⟨er, rr⟩ h
        exact ⟨v, by rw [valV_neg hk]; exact h1, h2⟩
theorem putD_of {K : PySem.W.Frag} {n : Nat} {k : Key} {d : D} {v : V} (rd : RV K φ n H d v) {kvs : List (Key × D)} {kws : List (Key × V)} (r : RKs K φ n H kvs kws) : RKs K φ n H (putD kvs k d) (putK kws k v) := by
  obtain ⟨e1, e2⟩ := r
  have ea : (kvs.any fun kv => decide (kv.1 = k)) = (kws.any fun kv => decide (kv.1 = k)) := by
    have h1 : (kvs.any fun kv => decide (kv.1 = k)) = (kvs.map (·.1)).any fun z => decide (z = k) := by rw [List.any_map]; rfl
    have h2 : (kws.any fun kv => decide (kv.1 = k)) = (kws.map (·.1)).any fun z => decide (z = k) := by rw [List.any_map]; rfl
    rw [h1, h2, e1]
  unfold putD putK
  rw [← ea]
  split
  · refine ⟨?_, ?_⟩
    · rw [List.map_map, List.map_map]
      have f1 : ∀ l : List (Key × D), l.map ((·.1) ∘ fun kv => if kv.1 = k then (kv.1, d) else kv) = l.map (·.1) := fun l => List.map_congr_left fun z _ => by
        show (if z.1 = k then (z.1, d) else z).1 = z.1
        split <;> rfl
      have f2 : ∀ l : List (Key × V), l.map ((·.1) ∘ fun kv => if kv.1 = k then (kv.1, v) else kv) = l.map (·.1) := fun l => List.map_congr_left fun z _ => by
        show (if z.1 = k then (z.1, v) else z).1 = z.1
        split <;> rfl
      rw [f1, f2, e1]
    · rename_i hany; clear hany ea
      induction kvs generalizing kws with
      | nil =>
        cases kws with
        | nil => exact .nil
        | cons _ _ => cases e1
      | cons a r ih =>
        cases kws with
        | nil => cases e1
        | cons b q =>
          obtain ⟨a1, a2⟩ := a
          obtain ⟨b1, b2⟩ := b
          have e1' : a1 :: r.map (·.1) = b1 :: q.map (·.1) := e1
          injection e1' with eab er
          subst eab
          cases e2 with
          | cons rx rr =>
            refine .cons ?_ (ih er rr)
            show RV K φ n H (if a1 = k then (a1, d) else (a1, a2)).2 (if a1 = k then (a1, v) else (a1, b2)).2
            split
            · exact rd
            · exact rx
  · refine ⟨?_, ?_⟩
    · rw [List.map_append, List.map_append, e1]; rfl
    · rw [List.map_append, List.map_append]
      exact e2.append (.cons rd .nil)
/-- d[k], by values -/
theorem ix_dict (hu : X.A.units + 1 < cLine) : IxR X (fun x y H Q => ∃ a v, x = .ref a ∧ DGet H a y (some v) ∧ Q v H) := by
  rintro value slice pins s σ H x y v u Q I rx ry ⟨a, z, rfl, g, q⟩ hs
  cases rx
  exact tail_any (dict_typeIs I g) PySem.F.slot_dict_getitem.lookup (d_getItem hu I g ry fun w' s3 I3 rw' => ⟨z, H, I3, rw', q⟩) hs
def rIxD (K : PySem.W.Frag) : R2 := fun x y H Q => ∃ (φ : Nat → Addr) (S : Sto) (dx dy : D), Rel K φ S H ∧ RV K φ S.length H dx x ∧ RV K φ S.length H dy y ∧ Out K φ S H (ixop dx dy S) Q
theorem ix_seqD (hu : X.A.units + 1 < cLine) : IxR X (rIxD X.K) := by
  rintro value slice pins s σ H x y v u Q I rx ry ⟨φ, S, dx, dy, R, hx, hy, h⟩ hs
  cases hx with
  | str z =>
    cases hy with
    | int i =>
      simp only [ixop] at h
      split at h
      · rename_i hz
        cases e : atI z.cps.toList i with
        | none => rw [e] at h; exact False.elim h
        | some c =>
          rw [e] at h
          exact ix_str value slice pins s σ H _ _ v u Q I rx ry ⟨z, i, c, rfl, rfl, hz, e, Out.here h R (.str _)⟩ hs
      · exact False.elim h
    | _ => exact False.elim h
  | @tup ds a vs ha hv =>
    cases hy with
    | int i =>
      simp only [ixop] at h
      cases e : atI ds i with
      | none => rw [e] at h; exact False.elim h
      | some d =>
        rw [e] at h
        obtain ⟨v', h1, h2⟩ := atI_rv hv e
        exact ix_tup value slice pins s σ H _ _ v u Q I rx ry ⟨a, vs, i, v', rfl, rfl, ha, h1, Out.here h R h2⟩ hs
    | _ => exact False.elim h
  | @loc l hl =>
    cases e : S[l]? with
    | none => cases hy <;> simp only [ixop, e] at h <;> exact False.elim h
    | some o =>
      cases o with
      | dK kvs =>
        obtain ⟨kws, h1, r⟩ := R.obj l _ e
        have go : ∀ k : Key, RelV (kV k) u → Out X.K φ S H (ofO (valD kvs k) S) Q → wpAny (model X.prog X.w) X.A (subscriptTail value slice v u) (EP X pins σ Q) X.xe s := fun k rk o => by
          cases ev : valD kvs k with
          | none => rw [ev] at o; exact False.elim o
          | some d =>
            rw [ev] at o
            obtain ⟨z, h2, h3⟩ := valD_of r ev
            exact ix_dict hu value slice pins s σ H (.ref (φ l)) (kV k) v u Q I rx rk ⟨_, z, rfl, by rw [← h2]; exact DGet.k h1, Out.here o R h3⟩ hs
        cases hy with
        | int i => simp only [ixop, e] at h; exact go (.inl i) ry h
        | str z => simp only [ixop, e] at h; exact go (.inr z) ry h
        | _ => exact False.elim h
      | lst ds =>
        cases hy with
        | int i =>
          simp only [ixop, e] at h
          cases e2 : atI ds i with
          | none => rw [e2] at h; exact False.elim h
          | some d =>
            rw [e2] at h
            obtain ⟨vs, h1, r⟩ := R.obj l _ e
            obtain ⟨v', h3, h4⟩ := atI_rv r e2
            exact ix_list value slice pins s σ H _ _ v u Q I rx ry ⟨_, vs, i, v', rfl, rfl, SqL.of h1, h3, Out.here h R h4⟩ hs
        | str z => simp only [ixop, e] at h; exact False.elim h
        | _ => exact False.elim h
      | scr ds =>
        cases hy with
        | int i =>
          simp only [ixop, e] at h
          cases e2 : atI ds i with
          | none => rw [e2] at h; exact False.elim h
          | some d =>
            rw [e2] at h
            obtain ⟨vs, h1, r⟩ := R.obj l _ e
            obtain ⟨v', h3, h4⟩ := atI_rv r e2
            exact ix_list value slice pins s σ H _ _ v u Q I rx ry ⟨_, vs, i, v', rfl, rfl, h1.seq, h3, Out.here h R h4⟩ hs
        | str z => simp only [ixop, e] at h; exact False.elim h
        | _ => exact False.elim h
  | _ => exact False.elim h
theorem cut_rv {K : PySem.W.Frag} {n : Nat} {ds : List D} {vs : List V} (r : RVs K φ n H ds vs) (lo hi : Option Int) : RVs K φ n H (cutG ds lo hi) (cutV vs lo hi) := by
  unfold cutG cutV
  rw [← r.length]
  exact (r.drop _).take _
def rSlD (K : PySem.W.Frag) : V → Option Int → Option Int → Hp → VK → Prop := fun x lo hi H Q => ∃ (φ : Nat → Addr) (S : Sto) (dx : D), Rel K φ S H ∧ RV K φ S.length H dx x ∧ Out K φ S H (slop dx lo hi S) Q
theorem sl_seqD : SlR X (rSlD X.K) := by
  rintro pins s σ H x v vl vu lo hi sl Q I rx hs pl pu ⟨φ, S, dx, R, hx, h⟩
  cases hx with
  | str z =>
    simp only [slop] at h
    split at h
    · rename_i hz
      exact sl_str pins s σ H _ v vl vu lo hi sl Q I rx hs pl pu ⟨z, rfl, hz, h.here R (.str _)⟩
    · exact False.elim h
  | @tup ds a vs ha hv =>
    simp only [slop] at h
    refine sl_tupA pins s σ H _ v vl vu lo hi sl Q I rx hs pl pu ⟨a, vs, rfl, ha, fun e => ?_, fun e => Out.tup h R (cut_rv hv lo hi)⟩
    have e' : cutG ds lo hi = ds := by
      unfold cutG
      rw [hv.length, e.1, e.2, List.drop_zero, Nat.sub_zero, List.take_of_length_le (Nat.le_of_eq hv.length)]
    rw [e'] at h
    exact h.here R (.tup ha hv)
  | @loc l hl =>
    simp only [slop] at h
    cases e : items S (.loc l) with
    | none => rw [e] at h; exact False.elim h
    | some ds =>
      rw [e] at h
      obtain ⟨_, vs, hq, r⟩ := items_loc R (.loc hl) e
      exact sl_list pins s σ H _ v vl vu lo hi sl Q I rx hs pl pu ⟨_, vs, rfl, hq, Out.alloc h R (cut_rv r lo hi)⟩
  | _ => exact False.elim h
/-- t[::-1] of a tuple -/
def tRevT (K : PySem.W.Frag) (te : TE) : TE := fun σ H Q => te σ H fun x H1 => ∃ a xs, x = .ref a ∧ SqT K H1 a xs ∧ ∀ p, H1 p = none → Q (.ref p) (upd H1 p (.tup xs.reverse))
def tRevA (K : PySem.W.Frag) (te : TE) : TE := fun σ H Q => te σ H fun x H1 => ∃ a xs, x = .ref a ∧ ((SqL K H1 a xs ∧ ∀ p, H1 p = none → Q (.ref p) (upd H1 p (.lst xs.reverse))) ∨ (SqT K H1 a xs ∧ ∀ p, H1 p = none → Q (.ref p) (upd H1 p (.tup xs.reverse))))
theorem pe_revA {e : Expr} {te : TE} {k : Nat} {p1 p2 p3 pos : Pos} (he : PE X e te) : PE X (.Subscript e (.Slice none none (some (.UnaryOp .USub (.Constant (.int 1) k p1) p2)) p3) pos) (tRevA X.K te) := by
  refine ⟨fun pins s σ H Q I h => ?_⟩
  refine Subscript_ (thn (he.run pins s σ H _ I h) fun v s1 ⟨x, H1, I1, r1, q1⟩ => ?_)
  obtain ⟨a, xs, ex, q⟩ := q1
  subst ex
  cases r1
  have hst : PO X (some (.UnaryOp .USub (.Constant (.int 1) k p1) p2)) (tPart (tUn (rU fun i => .int (-i)) (tC (.int 1)))) := po_some (pe_un un_neg pe_int)
  refine wpAny_Slice (thn (po_none.run pins s1 σ H1 (fun o H2 => o = none ∧ H2 = H1) I1 ⟨rfl, rfl⟩) fun vl s2 ⟨l, H2, I2, pl, el, e2⟩ => ?_)
  subst el e2
  refine thn (po_none.run pins s2 σ H2 (fun o H3 => o = none ∧ H3 = H2) I2 ⟨rfl, rfl⟩) fun vu s3 ⟨u, H3, I3, pu, eu, e3⟩ => ?_
  subst eu e3
  refine thn (hst.run pins s3 σ H3 (fun o H4 => o = some (-1) ∧ H4 = H3) I3 ⟨1, rfl, -1, rfl, rfl, rfl⟩) fun vs s4 ⟨o, H4, I4, ps, eo, e4⟩ => ?_
  subst eo e4
  have I5 : Inv X pins σ H4 { s4 with heap := s4.heap.push { cls := .type "slice", data := .fields #[vl, vu, vs] } } := I4.kept (t' := s4.toks) fun b ob q => Heap.get?_push_of_some _ q
  show wpAny (model X.prog X.w) X.A (subscriptTail e (.Slice none none (some (.UnaryOp .USub (.Constant (.int 1) k p1) p2)) p3) (.ref a) (.ref s4.heap.objs.size)) (EP X pins σ Q) X.xe { s4 with heap := s4.heap.push { cls := .type "slice", data := .fields #[vl, vu, vs] } }
  rcases q with ⟨hx, q⟩ | ⟨hx, q⟩
  · obtain ⟨its, r, ht, hz⟩ := I5.list hx
    have hlen := r.length
    refine tail_any (ops := [.ref a, .ref s4.heap.objs.size]) ht.isList.typeIs (PySem.slot_list_getitem.lookup) ?_ (by with_unfolding_all rfl)
    refine wpAny_getItem_list_slice ht.isList (Heap.IsSliceOf.new _ vl vu vs) pl pu ps (by decide) ?_ (by rw [List.size_toArray]; omega)
    rw [PySem.W.krv_pick]
    refine ⟨.ref _, _, I5.laid (t' := s4.toks) (o := .lst xs.reverse) (fun b ob q => Heap.get?_push_of_some _ q) (Nat.le_refl _) ?_, rfl, q _ (I5.hok.fresh (Nat.le_refl _))⟩
    exact ⟨by rw [List.length_reverse]; exact hz, _, 0, r.reverse, Heap.get?_push_size _ rfl⟩
  · obtain ⟨its, r, ht, hz⟩ := I5.tuple hx
    have hlen := r.length
    cases pl
    cases pu
    refine tail_any (ops := [.ref a, .ref s4.heap.objs.size]) ht.typeIs (PyProof.Rows.slot_tuple_getitem.lookup) ?_ (by with_unfolding_all rfl)
    refine HT.getItem_tuple_rev ht (Heap.IsSliceOf.new _ .none .none vs) ps ?_ (by rw [List.size_toArray]; omega)
    refine ⟨.ref _, _, I5.laid (t' := s4.toks) (o := .tup xs.reverse) (fun b ob q => Heap.get?_push_of_some _ q) (Nat.le_refl _) ?_, rfl, q _ (I5.hok.fresh (Nat.le_refl _))⟩
    exact ⟨by rw [List.length_reverse]; exact hz, _, by simpa using r.reverse, ⟨_, Heap.get?_push_size _ rfl, rfl, _, rfl⟩⟩
def rSetD (K : PySem.W.Frag) : V → V → V → Hp → (Hp → Prop) → Prop := fun o i v H Q => ∃ (φ : Nat → Addr) (S : Sto) (a b d : D), Rel K φ S H ∧ RV K φ S.length H a o ∧ RV K φ S.length H b i ∧ RV K φ S.length H d v ∧
  (setop a b d S).wp fun _ S' => ∀ φ' H', Ext K φ S H φ' S' H' → Rel K φ' S' H' → Q H'
theorem set_seqD (hu : X.A.units + 1 < cLine) : PSet X (rSetD X.K) := by
  rintro pins s σ H o i v ov iv u Q I ro ri rv ⟨φ, S, a, b, d, R, ha, hb, hd, h⟩
  cases ha with
  | @loc l hl =>
    have dict : ∀ (kvs : List (Key × D)) (k : Key), S[l]? = some (.dK kvs) → RelV (kV k) iv → ((if kvs.length < 10000 then Res.ok () (S.set l (.dK (putD kvs k d))) else .no).wp fun _ S' => ∀ φ' H', Ext X.K φ S H φ' S' H' → Rel X.K φ' S' H' → Q H') →
        wpAny (model X.prog X.w) X.A (setItem ov iv u) (fun _ s' => ∃ H', Inv X pins σ H' s' ∧ Q H') X.xe s := fun kvs k e rk h => by
      split at h
      · rename_i hz
        obtain ⟨kws, h1, r⟩ := R.obj l _ e
        have hl2 : kws.length = kvs.length := by have := congrArg List.length r.1; simpa using this.symm
        cases ro
        have ex : Ext X.K φ S H φ (S.set l (.dK (putD kvs k d))) (upd H (φ l) (.dK (putK kws k v))) := Ext.set R e rfl rfl
        refine d_setItem hu I (DPut.k (k := k) h1 (by rw [hl2, sizeLine_eq]; omega)) rk rv fun s4 I4 => ⟨_, I4, ?_⟩
        exact h φ _ ex (R.set e rfl rfl ⟨_, upd_same, (putD_of hd r).mono ex⟩)
      · exact False.elim h
    cases hb with
    | int k =>
      simp only [setop] at h
      cases e : S[l]? with
      | none => rw [e] at h; exact False.elim h
      | some o =>
        rw [e] at h
        cases o with
        | scr ds => exact False.elim h
        | dK kvs => exact dict kvs (.inl k) e ri h
        | lst ds =>
          simp only at h
          cases e2 : ixN ds.length k with
          | none => rw [e2] at h; exact False.elim h
          | some j =>
            rw [e2] at h
            obtain ⟨vs, h1, r⟩ := R.obj l _ e
            refine set_list pins s σ H _ _ v ov iv u Q I ro ri rv ⟨_, vs, k, j, rfl, rfl, h1, by rw [← r.length]; exact e2, ?_⟩
            have ex : Ext X.K φ S H φ (S.set l (.lst (ds.set j d))) (upd H (φ l) (.lst (vs.set j v))) := Ext.set R e rfl rfl
            exact h φ _ ex (R.set e rfl rfl ⟨_, upd_same, (RVs.set hd j r).mono ex⟩)
    | str z =>
      simp only [setop] at h
      cases e : S[l]? with
      | none => rw [e] at h; exact False.elim h
      | some o =>
        rw [e] at h
        cases o with
        | dK kvs => exact dict kvs (.inr z) e ri h
        | _ => exact False.elim h
    | _ => exact False.elim h
  | _ => exact False.elim h

/-! ### methods -/
def mthT : Mth → String
  | .join => "str" | .split => "str" | _ => "list"
def mthName : Mth → Str
  | .append => "append" | .extend => "extend" | .pop0 => "pop" | .pop1 => "pop" | .reverse => "reverse" | .clear => "clear" | .insert => "insert" | .lindex => "index" | .join => "join" | .split => "split"
def mthId : Mth → String
  | .append => "list.append" | .extend => "list.extend" | .pop0 => "list.pop" | .pop1 => "list.pop" | .reverse => "list.reverse" | .clear => "list.clear" | .insert => "list.insert" | .lindex => "list.index" | .join => "str.join" | .split => "str.split"
theorem mthAttrs : ∀ m, PlainAttrs (mthT m)
  | .join => PySem.F.plainAttrs_str | .split => PySem.F.plainAttrs_str
  | .append => PySem.F.plainAttrs_list | .extend => PySem.F.plainAttrs_list | .pop0 => PySem.F.plainAttrs_list | .pop1 => PySem.F.plainAttrs_list | .reverse => PySem.F.plainAttrs_list | .clear => PySem.F.plainAttrs_list | .insert => PySem.F.plainAttrs_list | .lindex => PySem.F.plainAttrs_list
theorem mthSlot : ∀ m, Slot (mthT m) (mthName m) (mthId m)
  | .join => PySem.F.slot_str_join | .split => PySem.F.slot_str_split
  | .append => PySem.F.slot_list_append | .extend => PySem.F.slot_list_extend | .pop0 => PySem.F.slot_list_pop | .pop1 => PySem.F.slot_list_pop | .reverse => PySem.F.slot_list_reverse | .clear => PySem.F.slot_list_clear | .insert => PySem.F.slot_list_insert | .lindex => PySem.F.slot_list_index
theorem mthType : ∀ m, typeOf (.builtin (mthId m)) = pure (.type "method_descriptor")
  | .join => PySem.F.type_str_join | .split => PySem.F.type_str_split
  | .append => PySem.F.type_list_append | .extend => PySem.F.type_list_extend | .pop0 => PySem.F.type_list_pop | .pop1 => PySem.F.type_list_pop | .reverse => PySem.F.type_list_reverse | .clear => PySem.F.type_list_clear | .insert => PySem.F.type_list_insert | .lindex => PySem.F.type_list_index
def rMt (K : PySem.W.Frag) (m : Mth) : V → List V → Hp → VK → Prop := fun x xs H Q => ∃ (φ : Nat → Addr) (S : Sto) (d : D) (ds : List D), Rel K φ S H ∧ RV K φ S.length H d x ∧ RVs K φ S.length H ds xs ∧ Out K φ S H (mthop m d ds S) Q
theorem firstAt_is {x : D} : ∀ {ds : List D} {j : Nat}, firstAt x ds = some j → (∃ y, ds[j]? = some y ∧ eqFlat y x = true) ∧ ∀ (m : Nat) (z : D), m < j → ds[m]? = some z → eqFlat z x = false
  | [], _, h => by cases h
  | y :: r, j, h => by
    unfold firstAt at h
    by_cases hy : eqFlat y x = true
    · rw [if_pos hy] at h
      cases h
      exact ⟨⟨y, rfl, hy⟩, fun m z hm => absurd hm (Nat.not_lt_zero _)⟩
    · rw [if_neg hy] at h
      cases e : firstAt x r with
      | none => rw [e] at h; cases h
      | some k =>
        rw [e] at h
        cases h
        obtain ⟨⟨z, h1, h2⟩, h3⟩ := firstAt_is e
        refine ⟨⟨z, h1, h2⟩, fun m z hm hz => ?_⟩
        cases m with
        | zero =>
          have : y = z := by simpa using hz
          subst this
          exact Bool.eq_false_iff.mpr hy
        | succ m => exact h3 m z (Nat.lt_of_succ_lt_succ hm) (by simpa using hz)
theorem mt_all (m : Mth) : MtR X (mthId m) (rMt X.K m) := by
  rintro pins s σ H x xs v us Q I rx rs ⟨φ, S, d, ds, R, hx, hs, h⟩
  cases m with
  | append =>
    cases hx with
    | @loc l hl =>
      rcases ds with _ | ⟨a, _ | ⟨b, ds⟩⟩
      · exact False.elim h
      · obtain ⟨va, rfl, ra⟩ := hs.one
        simp only [mthop] at h
        cases e : lstAt S l with
        | none => rw [e] at h; exact False.elim h
        | some es =>
          rw [e] at h
          simp only at h
          split at h
          · rename_i hz
            obtain ⟨_, el, vs, h1, r⟩ := lstAt_of R (.loc hl) e
            exact mt_append pins s σ H _ _ v us Q I rx rs ⟨_, vs, va, rfl, rfl, h1, by rw [← r.length]; exact hz, Out.set h R el rfl (r.append (.cons ra .nil)) .non⟩
          · exact False.elim h
      · exact False.elim h
    | _ => exact False.elim h
  | extend =>
    cases hx with
    | @loc l hl =>
      rcases ds with _ | ⟨a, _ | ⟨b, ds⟩⟩
      · exact False.elim h
      · obtain ⟨va, rfl, ra⟩ := hs.one
        cases ra with
        | @loc k hk =>
          simp only [mthop] at h
          cases e : lstAt S l with
          | none => rw [e] at h; exact False.elim h
          | some es =>
            cases e2 : lstAt S k with
            | none => rw [e, e2] at h; exact False.elim h
            | some fs =>
              rw [e, e2] at h
              simp only at h
              split at h
              · rename_i hz
                obtain ⟨_, el, vs, h1, r⟩ := lstAt_of R (.loc hl) e
                obtain ⟨_, _, ws, h2, r2⟩ := lstAt_of R (.loc hk) e2
                exact mt_extend pins s σ H _ _ v us Q I rx rs ⟨_, _, vs, ws, rfl, rfl, h1, h2, by rw [← r.length, ← r2.length]; exact hz, Out.set h R el rfl (r.append r2) .non⟩
              · exact False.elim h
        | _ => exact False.elim h
      · cases a <;> exact False.elim h
    | _ => exact False.elim h
  | pop0 =>
    cases hx with
    | @loc l hl =>
      rcases ds with _ | ⟨a, ds⟩
      · cases hs
        simp only [mthop] at h
        cases e : lstAt S l with
        | none => rw [e] at h; exact False.elim h
        | some es =>
          rw [e] at h
          simp only at h
          cases e2 : es.getLast? with
          | none => rw [e2] at h; exact False.elim h
          | some y =>
            rw [e2] at h
            obtain ⟨_, el, vs, h1, r⟩ := lstAt_of R (.loc hl) e
            rw [List.getLast?_eq_getElem?] at e2
            obtain ⟨vy, h3, h4⟩ := r.get e2
            exact mt_pop pins s σ H _ _ v us Q I rx rs ⟨_, vs, vy, rfl, rfl, h1, by rw [← r.length]; exact h3, Out.set h R el rfl r.dropLast h4⟩
      · exact False.elim h
    | _ => exact False.elim h
  | pop1 =>
    cases hx with
    | @loc l hl =>
      rcases ds with _ | ⟨a, _ | ⟨b, ds⟩⟩
      · exact False.elim h
      · obtain ⟨va, rfl, ra⟩ := hs.one
        cases ra with
        | int i =>
          simp only [mthop] at h
          cases e : lstAt S l with
          | none => rw [e] at h; exact False.elim h
          | some es =>
            rw [e] at h
            simp only at h
            split at h
            · rename_i hi
              cases e2 : es[i.toNat]? with
              | none => rw [e2] at h; exact False.elim h
              | some y =>
                rw [e2] at h
                obtain ⟨_, el, vs, h1, r⟩ := lstAt_of R (.loc hl) e
                obtain ⟨vy, h3, h4⟩ := r.get e2
                have hlt := (List.getElem?_eq_some_iff.mp h3).1
                have hsq : seqIndex? i vs.length = some i.toNat := PySem.StrLaws.seqIndex_nonneg hi.1 (by omega)
                exact mt_popAt pins s σ H _ _ v us Q I rx rs ⟨_, vs, i, i.toNat, vy, rfl, rfl, h1, by omega, hi.2, hsq, h3, Out.set h R el rfl (r.eraseIdx _) h4⟩
            · exact False.elim h
        | _ => exact False.elim h
      · cases a <;> exact False.elim h
    | _ => exact False.elim h
  | reverse =>
    cases hx with
    | @loc l hl =>
      rcases ds with _ | ⟨a, ds⟩
      · cases hs
        simp only [mthop] at h
        cases e : lstAt S l with
        | none => rw [e] at h; exact False.elim h
        | some es =>
          rw [e] at h
          obtain ⟨_, el, vs, h1, r⟩ := lstAt_of R (.loc hl) e
          exact mt_reverse pins s σ H _ _ v us Q I rx rs ⟨_, vs, rfl, rfl, h1, Out.set h R el rfl r.reverse .non⟩
      · exact False.elim h
    | _ => exact False.elim h
  | clear =>
    cases hx with
    | @loc l hl =>
      rcases ds with _ | ⟨a, ds⟩
      · cases hs
        simp only [mthop] at h
        cases e : lstAt S l with
        | none => rw [e] at h; exact False.elim h
        | some es =>
          rw [e] at h
          obtain ⟨_, el, vs, h1, r⟩ := lstAt_of R (.loc hl) e
          exact mt_clear pins s σ H _ _ v us Q I rx rs ⟨_, vs, rfl, rfl, h1, Out.set h R el rfl .nil .non⟩
      · exact False.elim h
    | _ => exact False.elim h
  | insert =>
    cases hx with
    | @loc l hl =>
      rcases ds with _ | ⟨a, _ | ⟨b, _ | ⟨c, ds⟩⟩⟩
      · exact False.elim h
      · cases a <;> exact False.elim h
      · obtain ⟨va, vb, rfl, ra, rb⟩ := hs.two
        cases ra with
        | int i =>
          simp only [mthop] at h
          cases e : lstAt S l with
          | none => rw [e] at h; exact False.elim h
          | some es =>
            rw [e] at h
            simp only at h
            split at h
            · rename_i hi
              obtain ⟨_, el, vs, h1, r⟩ := lstAt_of R (.loc hl) e
              exact mt_insert pins s σ H _ _ v us Q I rx rs ⟨_, vs, i, vb, rfl, rfl, h1, by rw [← r.length]; exact hi.1, hi.2.1, hi.2.2, Out.set h R el rfl (((r.take _).append (.cons rb .nil)).append (r.drop _)) .non⟩
            · exact False.elim h
        | _ => exact False.elim h
      · cases a <;> exact False.elim h
    | _ => exact False.elim h
  | lindex =>
    cases hx with
    | @loc l hl =>
      rcases ds with _ | ⟨a, _ | ⟨b, ds⟩⟩
      · exact False.elim h
      · obtain ⟨va, rfl, ra⟩ := hs.one
        simp only [mthop] at h
        cases e : items S (.loc l) with
        | none => rw [e] at h; exact False.elim h
        | some es =>
          rw [e] at h
          simp only at h
          split at h
          · rename_i hf
            cases e2 : firstAt a es with
            | none => rw [e2] at h; exact False.elim h
            | some j =>
              rw [e2] at h
              obtain ⟨_, vs, hq, r⟩ := items_loc R (.loc hl) e
              obtain ⟨⟨y, h1, h2⟩, h3⟩ := firstAt_is e2
              obtain ⟨vy, h4, h5⟩ := r.get h1
              have fy := List.all_eq_true.mp hf.2 y (List.mem_of_getElem? h1)
              refine mt_index pins s σ H _ _ v us Q I rx rs ⟨_, vs, va, j, vy, rfl, rfl, hq, flat_of ra hf.1, flats_of r hf.2, h4, by rw [eqFlat_of h5 ra fy hf.1]; exact h2, fun m z' hm hz' => ?_, Out.here h R (.int _)⟩
              obtain ⟨dz, h6, h7⟩ := r.get' hz'
              have fz := List.all_eq_true.mp hf.2 dz (List.mem_of_getElem? h6)
              rw [eqFlat_of h7 ra fz hf.1]
              exact h3 m dz hm h6
          · exact False.elim h
      · exact False.elim h
    | _ => exact False.elim h
  | join =>
    cases hx with
    | str z =>
      rcases ds with _ | ⟨a, _ | ⟨b, ds⟩⟩
      · exact False.elim h
      · obtain ⟨va, rfl, ra⟩ := hs.one
        simp only [mthop] at h
        cases e : items S a with
        | none => rw [e] at h; exact False.elim h
        | some es =>
          rw [e] at h
          simp only [Option.bind_some] at h
          cases e2 : allStrs es with
          | none => rw [e2] at h; exact False.elim h
          | some ys =>
            rw [e2] at h
            simp only at h
            split at h
            · rename_i hz
              obtain ⟨p, vs, ex, hq, r⟩ := items_of R ra e
              obtain ⟨e3, _⟩ := r.strs e2
              subst e3
              exact mt_join pins s σ H _ _ v us Q I rx rs ⟨z, p, ys, rfl, by rw [ex], hq, hz, Out.here h R (.str _)⟩
            · exact False.elim h
      · exact False.elim h
    | _ => exact False.elim h
  | split =>
    cases hx with
    | str z =>
      rcases ds with _ | ⟨a, _ | ⟨b, ds⟩⟩
      · exact False.elim h
      · obtain ⟨va, rfl, ra⟩ := hs.one
        cases ra with
        | str y =>
          simp only [mthop] at h
          split at h
          · rename_i hz
            have e1 := RVs.of_strs (K := X.K) (φ := φ) (H := H) (n := S.length) (Txt.split z y)
            exact mt_split pins s σ H _ _ v us Q I rx rs ⟨z, y, rfl, rfl, hz.1, hz.2, Out.alloc h R e1⟩
          · exact False.elim h
        | _ => exact False.elim h
      · cases a <;> exact False.elim h
    | _ => exact False.elim h
theorem mthTy_of {K : PySem.W.Frag} {m : Mth} {d : D} {x : V} (R : Rel K φ S H) (r : RV K φ S.length H d x) (h : mthTy m d S = true) : tyV K (mthT m) x H := by
  cases r with
  | str z => cases m <;> first | rfl | cases h
  | @loc l hl =>
    have h' : (items S (.loc l)).isSome = true ∧ mthT m = "list" := by cases m <;> first | exact ⟨h, rfl⟩ | cases h
    obtain ⟨h1, h2⟩ := h'
    rw [h2]
    obtain ⟨ds, e⟩ := Option.isSome_iff_exists.mp h1
    obtain ⟨_, vs, hq, _⟩ := items_loc R (.loc hl) e
    exact .inl ⟨rfl, vs, hq⟩
  | _ => cases m <;> cases h
end
end Wk

set_option Elab.async false
set_option linter.all false
set_option maxRecDepth 100000
set_option maxHeartbeats 2000000
namespace Wk
open PySem PySem.Spec PyProof.Rows L2

/-! ### a def's promise where no repr is under way -/
structure FnG (P : Program) (w : World) (K : PySem.W.Frag) (mg : Str → Option Value) (base : Heap) (k : Nat) (f : Addr) (fd : FuncData) (ps : List Str) (sp : Sp) : Prop where
  len : ∀ vs H Q E, sp vs H Q E → vs.length = ps.length
  run : ∀ (A : Around) (outer : List PySem.Env) (s : Shared) (H : Hp) (args : Args) (us : List Value) (vs : List V) (Q : VK) (E : XK), A.guards = some [] → Room k A → Env0 P w K mg base A outer s H → BindsTo s fd args (ps.zip us) → Vals vs us → sp vs H Q E →
    codeAny (model P w) A (.call (.ref f) args) (CR CX0 outer P w H s Q E) s
theorem FnG.mono {P : Program} {w : World} {K : PySem.W.Frag} {mg : Str → Option Value} {base : Heap} {j k : Nat} {f : Addr} {fd : FuncData} {ps : List Str} {sp : Sp} (F : FnG P w K mg base j f fd ps sp) (h : j ≤ k) :
    FnG P w K mg base k f fd ps sp := ⟨F.len, fun A outer s H args us vs Q E hg hr => F.run A outer s H args us vs Q E hg (hr.mono h)⟩
section
variable {X : Cx} {k n : Nat} {f : Addr} {fd : FuncData} {ps ks : List Str} {sp : Sp} {E : XK} {x : Str} {p pos : Pos} {e : Expr} {es : List Expr} {kws : List Keyword} {t tk : TA}
theorem run_fnG {pins : List (Addr × Obj)} {σ : L2.St} {H : Hp} {s : Shared} {Q : VK} {us : List Value} {vs : List V} {as : List Value} {kw : List (Str × Value)} (F : FnG X.prog X.w X.K X.mg X.base k f fd ps sp) (hg : X.A.guards = some []) (hr : Room k X.A)
    (I : Inv X pins σ H s) (hb : BindsTo s fd ⟨as, kw⟩ (ps.zip us)) (r : Vals vs us) (h : sp vs H Q E0) : wpAny (model X.prog X.w) X.A (call (.ref f) as kw) (EP X pins σ Q) X.xe s := by
  refine wpAny_call (codeAny_mono (F.run X.A X.stack s H ⟨as, kw⟩ us vs Q E0 hg hr I.env0 hb r h) fun r s' hq => ?_)
  cases r with
  | error e => exact (pass0 (X := X) pins σ H s e s' I hq)
  | ok fl =>
    cases fl with
    | ret u => exact I.after hq
    | next => exact False.elim hq
    | brk => exact False.elim hq
    | cont => exact False.elim hq

def notStar : Expr → Bool
  | .Starred _ _ => false
  | _ => true
theorem star_cons {env : PySem.Env} (h : notStar e = true) : starEach (e :: es) env = (false, eval e env) :: starEach es env := by
  cases e <;> first | rfl | cases h
theorem star_any {env : PySem.Env} : ∀ {es : List Expr}, es.all notStar = true → (backTo pos (starEach es env)).any (·.1) = false
  | [], _ => rfl
  | e :: es, h => by
    rw [List.all_cons, Bool.and_eq_true] at h
    rw [star_cons h.1]
    show (false || (backTo pos (starEach es env)).any (·.1)) = false
    rw [star_any h.2]
    rfl
def kwNamed (kws : List Keyword) : Bool := kws.all fun k => k.arg.isSome
theorem kw_all {env : PySem.Env} : ∀ {kws : List Keyword}, kwNamed kws = true → (backToKw pos (keywordEach kws env)).all (·.1.isSome) = true ∧ (backToKw pos (keywordEach kws env)).any (·.1.isNone) = false ∧ (backToKw pos (keywordEach kws env)).filterMap (·.1) = kws.filterMap (·.arg)
  | [], _ => ⟨rfl, rfl, rfl⟩
  | ⟨a, v, q⟩ :: kws, h => by
    unfold kwNamed at h
    rw [List.all_cons, Bool.and_eq_true] at h
    obtain ⟨h1, h2, h3⟩ := kw_all (env := env) (kws := kws) h.2
    cases a with
    | none => exact absurd h.1 (by simp)
    | some n =>
      refine ⟨?_, ?_, ?_⟩
      · show (true && (backToKw pos (keywordEach kws env)).all (·.1.isSome)) = true
        rw [h1]; rfl
      · show (false || (backToKw pos (keywordEach kws env)).any (·.1.isNone)) = false
        rw [h2]; rfl
      · show n :: (backToKw pos (keywordEach kws env)).filterMap (·.1) = n :: kws.filterMap (·.arg)
        rw [h3]

/-- f(e, ..) -/
theorem pe_callG (F : FnG X.prog X.w X.K X.mg X.base k f fd ps sp) (hgd : X.A.guards = some []) (hr : Room k X.A) (hg : Gl X x) (hm : X.mg x = some (.ref f)) (hk : PySem.W.keepIn X.K (.ref f) = true) (hb : Binds X.K fd ps [])
    (ha : PA X (e :: es) t) (hns : (e :: es).all notStar = true) (hdb : (x == ("__debug__" : Str)) = false) :
    PE X (.Call (.Name x p) (e :: es) [] pos) (tCall sp [] E0 t) := by
  refine ⟨fun pins s σ H Q I h => ?_⟩
  refine wpAny_Call_Name_kw (ld_glob I hg hm ?_ hdb)
  rw [List.all_cons, Bool.and_eq_true] at hns
  refine PySem.W.callWith_K (h₀ := X.base) I.ok.mod.kin hk (thn (ha.run pos pins s σ H _ I h) fun us s1 ⟨vs, H1, I1, r, q⟩ => ⟨I1.kIn, ?_⟩) (star_cons hns.1) (star_any hns.2)
  have q : sp (vs ++ []) H1 Q E0 := q
  rw [List.append_nil] at q
  have hl : us.length = ps.length := by rw [← r.length]; exact F.len _ _ _ _ q
  have := hb s1 us I1.kIn (by rw [List.append_nil]; exact hl)
  rw [List.append_nil] at this
  exact run_fnG F hgd hr I1 this r q
theorem pe_callG0 (F : FnG X.prog X.w X.K X.mg X.base k f fd ps sp) (hgd : X.A.guards = some []) (hr : Room k X.A) (hg : Gl X x) (hm : X.mg x = some (.ref f)) (hk : PySem.W.keepIn X.K (.ref f) = true) (hb : Binds X.K fd ps [])
    (hdb : (x == ("__debug__" : Str)) = false) : PE X (.Call (.Name x p) [] [] pos) (tCall sp [] E0 tNil) := by
  refine ⟨fun pins s σ H Q I h => ?_⟩
  refine wpAny_Call_Name_kw (ld_glob I hg hm ?_ hdb)
  have h : sp [] H Q E0 := h
  have hl := F.len _ _ _ _ h
  have hb' := hb s [] I.kIn hl
  exact PySem.W.callWith_K0 I.kIn hk (run_fnG F hgd hr I hb' .nil h)
/-- how a call with keywords binds -/
structure KBg (K : PySem.W.Frag) (fd : FuncData) (ps : List Str) (n : Nat) (ks : List Str) (g : List Value → List Value → List Value) (gV : List V → List V → List V) : Prop where
  to : ∀ (s : Shared) (us ws : List Value), K.In s.heap → us.length = n → ws.length = ks.length → BindsTo s fd ⟨us, ks.zip ws⟩ (ps.zip (g us ws))
  rel : ∀ {vs : List V} {us : List Value} {zs : List V} {ws : List Value}, vs.length = n → zs.length = ks.length → Vals vs us → Vals zs ws → Vals (gV vs zs) (g us ws)
variable {g : List Value → List Value → List Value} {gV : List V → List V → List V}
theorem pe_callKG (F : FnG X.prog X.w X.K X.mg X.base k f fd ps sp) (hgd : X.A.guards = some []) (hr : Room k X.A) (hg : Gl X x) (hm : X.mg x = some (.ref f)) (hk : PySem.W.keepIn X.K (.ref f) = true) (hb : KBg X.K fd ps n ks g gV)
    (ha : PA X (e :: es) t) (hkw : PK X kws tk) (hns : (e :: es).all notStar = true) (hnm : kwNamed kws = true) (hks : kws.filterMap (·.arg) = ks) (hdb : (x == ("__debug__" : Str)) = false) :
    PE X (.Call (.Name x p) (e :: es) kws pos) (tCallN n ks.length sp gV E0 t tk) := by
  refine ⟨fun pins s σ H Q I h => ?_⟩
  refine wpAny_Call_Name_kw (ld_glob I hg hm ?_ hdb)
  obtain ⟨k1, k2, k3⟩ := kw_all (pos := pos) (env := X.env) hnm
  have hst := star_any (pos := pos) (env := X.env) hns
  rw [List.all_cons, Bool.and_eq_true] at hns
  refine PySem.W.callWith_KW (h₀ := X.base) I.ok.mod.kin hk k1 (thn (ha.run pos pins s σ H _ I h) fun us s1 ⟨vs, H1, I1, r, q⟩ => ?_) (by rw [hst, k2]; rfl) (star_cons hns.1)
  refine thn (hkw.run pos pins s1 σ H1 _ I1 q) fun ws s2 ⟨zs, H2, I2, rz, l1, l2, q2⟩ => ⟨I2.kIn, ?_⟩
  rw [k3, hks]
  exact run_fnG F hgd hr I2 (hb.to s2 us ws I2.kIn (r.length.symm.trans l1) (rz.length.symm.trans l2)) (hb.rel l1 l2 r rz) q2
theorem pe_callKG0 (F : FnG X.prog X.w X.K X.mg X.base k f fd ps sp) (hgd : X.A.guards = some []) (hr : Room k X.A) (hg : Gl X x) (hm : X.mg x = some (.ref f)) (hk : PySem.W.keepIn X.K (.ref f) = true) (hb : KBg X.K fd ps n ks g gV)
    (hkw : PK X kws tk) (hnm : kwNamed kws = true) (hks : kws.filterMap (·.arg) = ks) (hdb : (x == ("__debug__" : Str)) = false) :
    PE X (.Call (.Name x p) [] kws pos) (tCallN n ks.length sp gV E0 tNil tk) := by
  refine ⟨fun pins s σ H Q I h => ?_⟩
  refine wpAny_Call_Name_kw (ld_glob I hg hm ?_ hdb)
  obtain ⟨k1, k2, k3⟩ := kw_all (pos := pos) (env := X.env) hnm
  refine PySem.W.callWith_KW0 (h₀ := X.base) I.ok.mod.kin hk k1 (thn (hkw.run pos pins s σ H _ I h) fun ws s2 ⟨zs, H2, I2, rz, l1, l2, q2⟩ => ⟨I2.kIn, ?_⟩) (by rw [k2]; rfl)
  rw [k3, hks]
  exact run_fnG F hgd hr I2 (hb.to s2 [] ws I2.kIn l1 (rz.length.symm.trans l2)) (hb.rel l1 l2 .nil rz) q2

/-- a built-in called with arguments -/
theorem pe_callBG {id : String} {r : List V → Hp → VK → Prop} (hc : CallR X (.builtin id) r) (hg : Gl X x) (hm : X.mg x = none) (hv : bootBuiltins x = some (.builtin id)) (ha : PA X (e :: es) t) (hn : x ≠ "__name__") (hdb : (x == ("__debug__" : Str)) = false)
    (hns : (e :: es).all notStar = true) : PE X (.Call (.Name x p) (e :: es) [] pos) (tCB r t) := by
  rw [List.all_cons, Bool.and_eq_true] at hns
  exact pe_callB hc hg hm hv ha hn hdb (star_cons hns.1) (star_any hns.2)
theorem pe_callTyG {T : String} {r : List V → Hp → VK → Prop} (hc : CallR X (.type T) r) (hg : Gl X x) (hm : X.mg x = none) (hv : bootBuiltins x = some (.type T)) (ha : PA X (e :: es) t) (hn : x ≠ "__name__") (hdb : (x == ("__debug__" : Str)) = false)
    (hns : (e :: es).all notStar = true) : PE X (.Call (.Name x p) (e :: es) [] pos) (tCB r t) := by
  rw [List.all_cons, Bool.and_eq_true] at hns
  exact pe_callTy hc hg hm hv ha hn hdb (star_cons hns.1) (star_any hns.2)
end

/-! ### the text's defs, as told -/
structure Fi where
  name : Str
  st : Stmt
  N : List Str
  ps : List Str
  plain : Bool
  body : Cs
def Fi.dfn (f : Fi) : Dfn := ⟨f.name, f.N.length, f.ps.length, f.body⟩
/-- where a parameter's value comes from -/
inductive Pk where | pos (i : Nat) | kw (j : Nat) | con (i : Nat)
structure ShI where
  f : Nat
  n : Nat
  ks : List Str
  pk : List Pk
def pickG {α : Type} (d : α) (us ws cs : List α) : List Pk → List α
  | [] => []
  | .pos i :: r => us.getD i d :: pickG d us ws cs r
  | .kw j :: r => ws.getD j d :: pickG d us ws cs r
  | .con i :: r => cs.getD i d :: pickG d us ws cs r
def Pk.ok (n m c : Nat) : Pk → Bool
  | .pos i => decide (i < n)
  | .kw j => decide (j < m)
  | .con i => decide (i < c)
/-- all that is told of the text: its defs, the shapes of its calls with keywords or defaults, its constants -/
structure Txt where
  tab : List Fi
  shs : List ShI
  cs : List (Str × D)
  /-- the values of defaults -/
  dfl : List D
def Txt.shp (T : Txt) : Shp where
  shp := fun h ds ws => match T.shs[h]? with
    | some s => if ds.length = s.n ∧ ws.length = s.ks.length then pickG .non ds ws T.dfl s.pk else List.replicate (s.pk.length + 1) .non
    | none => []
  cst := fun i => match T.cs[i]? with
    | some c => c.2
    | none => .non
noncomputable def Txt.run (T : Txt) (k : Nat) : Orc := Wk.run (T.tab.map Fi.dfn) T.shp k
def spF (T : Txt) (K : PySem.W.Frag) (k i : Nat) (np : Nat) : Sp := fun vs H Q _ => ∃ (φ : Nat → Addr) (S : Sto) (ds : List D), Rel K φ S H ∧ RVs K φ S.length H ds vs ∧ ds.length = np ∧ Out K φ S H (T.run k i ds S) Q
/-- a constant's value -/
def ConV (K : PySem.W.Frag) (d : D) (v : V) : Prop := ∀ φ n H, RV K φ n H d v
/-- a call's shape binds so -/
structure ShOk (T : Txt) (K : PySem.W.Frag) (fd : FuncData) (ps : List Str) (s : ShI) : Prop where
  np : s.pk.length = ps.length
  ex : ∃ (cu : List Value) (cv : List V), Vals cv cu ∧ cv.length = T.dfl.length ∧ (∀ (i : Nat) (d : D) (v : V), T.dfl[i]? = some d → cv[i]? = some v → (Pk.con i) ∈ s.pk → ConV K d v) ∧ s.pk.all (Pk.ok s.n s.ks.length T.dfl.length) = true ∧
    ∀ (st : Shared) (us ws : List Value), K.In st.heap → us.length = s.n → ws.length = s.ks.length → BindsTo st fd ⟨us, s.ks.zip ws⟩ (ps.zip (pickG .none us ws cu s.pk))
structure DefOk (T : Txt) (k : Nat) (P : Program) (w : World) (K : PySem.W.Frag) (mg : Str → Option Value) (base : Heap) (i : Nat) (fi : Fi) (f : Addr) (fd : FuncData) : Prop where
  at_ : mg fi.name = some (.ref f)
  kp : PySem.W.keepIn K (.ref f) = true
  fn : FnG P w K mg base k f fd fi.ps (spF T K k i fi.ps.length)
  bd : fi.plain = true → Binds K fd fi.ps []
  sh : ∀ (h : Nat) (s : ShI), T.shs[h]? = some s → s.f = i → ShOk T K fd fi.ps s
/-- what stands behind the text's names -/
structure Names (T : Txt) (K : PySem.W.Frag) (mg : Str → Option Value) : Prop where
  blt : ∀ f, mg (bltName f) = none
  isi : mg "isinstance" = none
  rng : mg "range" = none
  enm : mg "enumerate" = none
  zip : mg "zip" = none
  dict : mg "dict" = none
  cst : ∀ (i : Nat) (x : Str) (d : D), T.cs[i]? = some (x, d) → ∃ v u, mg x = some u ∧ RelV v u ∧ ConV K d v
/-- a context in which the text runs: sc its names' kinds, so: the names that may be stored -/
structure XOk (T : Txt) (k : Nat) (N : List Str) (sc : Scope) (so : Str → Bool) (X : Cx) : Prop where
  eN : X.N = N
  eS : X.env.scope = sc
  nd : N.Nodup
  calm : X.calm = true
  xe : X.xe = fun _ _ => False
  room : Room k X.A
  grd : X.A.guards = some []
  so : ∀ x, so x = true → Loc X.env.scope x ∧ (X.fn x = true ∨ X.env.scope.names.lookup x = some .local)
  fns : ∀ (i : Nat) (fi : Fi), T.tab[i]? = some fi → ∃ f fd, DefOk T k X.prog X.w X.K X.mg X.base i fi f fd
  nms : Names T X.K X.mg
end Wk

set_option Elab.async false
set_option linter.all false
set_option maxRecDepth 100000
set_option maxHeartbeats 2000000
namespace Wk
open PySem PySem.Spec PyProof.Rows L2

/-! ### results and readings of any kind -/
abbrev RR (α β : Type) := (Nat → Addr) → Nat → Hp → α → β → Prop
def OutG {α β : Type} (K : PySem.W.Frag) (R1 : RR α β) (φ : Nat → Addr) (S : Sto) (H : Hp) (r : Res α) (Q : β → Hp → Prop) : Prop :=
  r.wp fun a S' => ∀ φ' H' b, Ext K φ S H φ' S' H' → Rel K φ' S' H' → R1 φ' S'.length H' a b → Q b H'
def Mono {α β : Type} (K : PySem.W.Frag) (R1 : RR α β) : Prop := ∀ {φ φ' : Nat → Addr} {S S' : Sto} {H H' : Hp} {a : α} {b : β}, Ext K φ S H φ' S' H' → R1 φ S.length H a b → R1 φ' S'.length H' a b
abbrev rEq {α : Type} : RR α α := fun _ _ _ a b => b = a
theorem mono_eq {α : Type} {K : PySem.W.Frag} : Mono K (rEq (α := α)) := fun _ h => h
theorem mono_rv {K : PySem.W.Frag} : Mono K (RV K) := fun e h => h.mono e
theorem mono_rvs {K : PySem.W.Frag} : Mono K (RVs K) := fun e h => h.mono e
section
variable {K : PySem.W.Frag} {α β γ δ ε ζ : Type} {R1 : RR α β} {R2 : RR γ δ} {R3 : RR ε ζ} {φ φ1 : Nat → Addr} {S S1 : Sto} {H H1 : Hp}
theorem OutG.pre {r : Res α} {Q : β → Hp → Prop} (e : Ext K φ S H φ1 S1 H1) (h : OutG K R1 φ S H r Q) : OutG K R1 φ1 S1 H1 r Q := wp_mono h fun _ _ q φ' H' v e' => q φ' H' v (e.trans e')
theorem OutG.here {a : α} {b : β} {Q : β → Hp → Prop} (h : OutG K R1 φ S H (.ok a S) Q) (R : Rel K φ S H) (r : R1 φ S.length H a b) : Q b H := h φ H b .refl R r
theorem OutG.bind {r : Res α} {k : α → Sto → Res γ} {Q : δ → Hp → Prop} (h : OutG K R2 φ S H (r.bind k) Q) :
    OutG K R1 φ S H r fun b H1 => ∃ φ1 S1 a, Ext K φ S H φ1 S1 H1 ∧ Rel K φ1 S1 H1 ∧ R1 φ1 S1.length H1 a b ∧ OutG K R2 φ1 S1 H1 (k a S1) Q := by
  cases r with
  | no => exact h
  | ok a S1 => exact fun φ1 H1 b e R rr => ⟨φ1, S1, a, e, R, rr, OutG.pre e (h : OutG K R2 φ S H (k a S1) Q)⟩
def L (K : PySem.W.Frag) (R1 : RR α β) (f : Env → Sto → Res α) : L2.St → Hp → (β → Hp → Prop) → Prop := fun σ H Q => ∃ φ S env, Rel K φ S H ∧ RE K φ S.length H env σ ∧ OutG K R1 φ S H (f env S) Q
theorem L.step {f : Env → Sto → Res α} {k : Env → α → Sto → Res γ} {σ : L2.St} {H : Hp} {Q : δ → Hp → Prop} (h : L K R2 (fun env S => (f env S).bind (k env)) σ H Q) :
    L K R1 f σ H fun b H1 => ∃ φ1 S1 env a, Rel K φ1 S1 H1 ∧ RE K φ1 S1.length H1 env σ ∧ R1 φ1 S1.length H1 a b ∧ OutG K R2 φ1 S1 H1 (k env a S1) Q := by
  obtain ⟨φ, S, env, R, re, o⟩ := h
  refine ⟨φ, S, env, R, re, wp_mono (OutG.bind (R1 := R1) o) fun a S1 q φ1 H1 b e R' rr => ?_⟩
  obtain ⟨φ2, S2, a2, e2, R2', r2, o2⟩ := q φ1 H1 b e R' rr
  exact ⟨φ2, S2, env, a2, R2', re.mono e2, r2, o2⟩
theorem L.step2 {f : Env → Sto → Res α} {g : Env → α → Sto → Res γ} {k : Env → α → γ → Sto → Res ε} {σ : L2.St} {H : Hp} {Q : ζ → Hp → Prop} (m1 : Mono K R1)
    (h : L K R3 (fun env S => (f env S).bind fun a S1 => (g env a S1).bind fun c S2 => k env a c S2) σ H Q) :
    L K R1 f σ H fun b H1 => ∃ φ1 S1 env a, Rel K φ1 S1 H1 ∧ RE K φ1 S1.length H1 env σ ∧ R1 φ1 S1.length H1 a b ∧ OutG K R2 φ1 S1 H1 (g env a S1) fun d H2 =>
      ∃ φ2 S2 c, Rel K φ2 S2 H2 ∧ RE K φ2 S2.length H2 env σ ∧ R1 φ2 S2.length H2 a b ∧ R2 φ2 S2.length H2 c d ∧ OutG K R3 φ2 S2 H2 (k env a c S2) Q := by
  obtain ⟨φ, S, env, R, re, o⟩ := L.step (R1 := R1) (k := fun env a S1 => (g env a S1).bind fun c S2 => k env a c S2) h
  refine ⟨φ, S, env, R, re, wp_mono o fun a S1 q φ1 H1 b e R' rr => ?_⟩
  obtain ⟨φ2, S2, env2, a2, R2', re2, r2, o2⟩ := q φ1 H1 b e R' rr
  refine ⟨φ2, S2, env2, a2, R2', re2, r2, wp_mono (OutG.bind (R1 := R2) o2) fun c S3 q3 φ3 H3 d e3 R3' rr3 => ?_⟩
  obtain ⟨φ4, S4, c4, e4, R4, r4, o4⟩ := q3 φ3 H3 d e3 R3' rr3
  exact ⟨φ4, S4, c4, R4, re2.mono e4, m1 e4 r2, r4, o4⟩
end
theorem _root_.L2.PE.imp {X : Cx} {e : Expr} {t t' : TE} (h : PE X e t) (i : ∀ σ H Q, t' σ H Q → t σ H Q) : PE X e t' := ⟨fun pins s σ H Q I q => h.run pins s σ H Q I (i _ _ _ q)⟩
theorem _root_.L2.PT.imp {X : Cx} {e : Expr} {t t' : TT} (h : PT X e t) (i : ∀ σ H Q, t' σ H Q → t σ H Q) : PT X e t' := ⟨fun pins s σ H Q I q => h.run pins s σ H Q I (i _ _ _ q)⟩
theorem _root_.L2.PW.imp {X : Cx} {e : Expr} {t t' : TT} (h : PW X e t) (i : ∀ σ H Q, t' σ H Q → t σ H Q) : PW X e t' := ⟨fun wh pins s σ H Q I q => h.run wh pins s σ H Q I (i _ _ _ q)⟩
theorem _root_.L2.PA.imp {X : Cx} {es : List Expr} {t t' : TA} (h : PA X es t) (i : ∀ σ H Q, t' σ H Q → t σ H Q) : PA X es t' := ⟨fun pos pins s σ H Q I q => h.run pos pins s σ H Q I (i _ _ _ q)⟩
theorem _root_.L2.PK.imp {X : Cx} {ks : List Keyword} {t t' : TA} (h : PK X ks t) (i : ∀ σ H Q, t' σ H Q → t σ H Q) : PK X ks t' := ⟨fun pos pins s σ H Q I q => h.run pos pins s σ H Q I (i _ _ _ q)⟩
theorem _root_.L2.PO.imp {X : Cx} {e : Option Expr} {t t' : TO} (h : PO X e t) (i : ∀ σ H Q, t' σ H Q → t σ H Q) : PO X e t' := ⟨fun pins s σ H Q I q => h.run pins s σ H Q I (i _ _ _ q)⟩
theorem _root_.L2.PTs.imp {X : Cx} {e : List Expr} {t t' : TT} (h : PTs X e t) (i : ∀ σ H Q, t' σ H Q → t σ H Q) : PTs X e t' := ⟨fun pins s σ H Q I q => h.run pins s σ H Q I (i _ _ _ q)⟩
theorem _root_.L2.PI.imp {X : Cx} {tg e : Expr} {t t' : TI} (h : PI X tg e t) (i : ∀ σ H Q, t' σ H Q → t σ H Q) : PI X tg e t' := ⟨fun pins s σ H Q I q => h.run pins s σ H Q I (i _ _ _ q)⟩
theorem _root_.L2.PG.imp {X : Cx} {tg : Expr} {t t' : TG} (h : PG X tg t) (i : ∀ v σ H Q, t' v σ H Q → t v σ H Q) : PG X tg t' := ⟨fun pins s σ H v u Q I r q => h.run pins s σ H v u Q I r (i _ _ _ _ q)⟩
theorem _root_.L2.PGs.imp {X : Cx} {tg : List Expr} {t t' : TGs} (h : PGs X tg t) (i : ∀ v σ H Q, t' v σ H Q → t v σ H Q) : PGs X tg t' := ⟨fun pins s σ H v u Q I r q => h.run pins s σ H v u Q I r (i _ _ _ _ q)⟩
theorem _root_.L2.PS.imp {X : Cx} {st : Stmt} {t t' : TS} (h : PS X st t) (i : ∀ D σ H, t' D σ H → t D σ H) : PS X st t' := ⟨fun pins s σ H D I q => h.run pins s σ H D I (i _ _ _ q)⟩
theorem _root_.L2.PSs.imp {X : Cx} {st : List Stmt} {t t' : TS} (h : PSs X st t) (i : ∀ D σ H, t' D σ H → t D σ H) : PSs X st t' := ⟨fun pins s σ H D I q => h.run pins s σ H D I (i _ _ _ q)⟩

/-! ### the look at the text -/
structure Ck where
  N : List Str
  sc : Scope
  so : Str → Bool
def visB (sc : Scope) (x : Str) : Bool := match sc.names.lookup x with
  | some .local => true | some .cell => true | some .free => true | _ => false
def gloB (sc : Scope) (x : Str) : Bool := match sc.names.lookup x with
  | some .globalImplicit => true | _ => false
def nmB (x : Str) : Bool := !(x == ("__debug__" : Str)) && !(x == ("__classdict__" : Str)) && decide (x ≠ ("__name__" : Str))
def tyName : Ty → Str
  | .int => "int" | .bool => "bool" | .str => "str" | .tuple => "tuple" | .list => "list" | .dict => "dict"
/-- the kinds of expressions whose test is their value's truth -/
def plainB : Expr → Bool
  | .Name _ _ => true | .Call _ _ _ _ => true | .Subscript _ _ _ => true | _ => false
/-- an index that is no slice -/
def ixB : Expr → Bool
  | .Slice _ _ _ _ => false | _ => true
def notSet : Expr → Bool
  | .Set _ _ _ => false | _ => true
def notCall : Expr → Bool
  | .Call (.Name x _) _ _ _ => !(x == ("super" : Str)) | _ => true
/-- the context of a comprehension's block -/
def Ck.blk (c : Ck) (scope : Scope) : Ck := ⟨c.N, relS scope c.sc, fun x => match scope.names.lookup x with | some .local => true | some .cell => true | _ => false⟩
def ownB (N : List Str) (own : List Nat) : List (Str × Nat) := own.map fun i => (N.getD i "", i)

/-- a display's keys, where they are written texts -/
def keysOf : List (Option Expr) → Option (List Str)
  | [] => some []
  | some (.Constant (.str x) _ _) :: r => (keysOf r).map (x :: ·)
  | _ :: _ => none
/-! the slots that a target sets -/
mutual
def slT : Tg → List Nat
  | .name i => [i]
  | .tup ts => slTs ts
  | .sub _ _ => []
def slTs : Tgs → List Nat
  | .nil => []
  | .cons t ts => slT t ++ slTs ts
end
section
variable (T : Txt)
mutual
def chkE (c : Ck) : E → Expr → Bool
  | .var i, x => match x with
    | .Name y _ => decide (c.N[i]? = some y) && visB c.sc y && nmB y
    | _ => false
  | .int i, x => match x with
    | .Constant (.int j) _ _ => decide (i = j)
    | _ => false
  | .str z, x => match x with
    | .Constant (.str y) _ _ => decide (z = y)
    | _ => false
  | .bl b, x => match x with
    | .Constant (.bool d) _ _ => decide (b = d)
    | _ => false
  | .non, x => match x with
    | .Constant .none _ _ => true
    | _ => false
  | .glob i, x => match x with
    | .Name y _ => (match T.cs[i]? with | some p => decide (p.1 = y) | none => false) && gloB c.sc y && nmB y
    | _ => false
  | .tup es, x => match x with
    | .Tuple xs _ _ => chkEs c es xs
    | _ => false
  | .lst es, x => match x with
    | .List xs _ => chkEs c es xs
    | _ => false
  | .dic ks vs, x => match x with
    | .Dict keys values _ => decide (keysOf keys = some ks) && chkEs c vs values
    | _ => false
  | .bin op a b, x => match x with
    | .BinOp y o z _ => decide (o = opOf op) && chkE c a y && chkE c b z
    | _ => false
  | .neg a, x => match x with
    | .UnaryOp .USub y _ => chkE c a y
    | _ => false
  | .not a, x => match x with
    | .UnaryOp .Not y _ => chkE c a y
    | _ => false
  | .cmp op a b, x => match x with
    | .Compare y [o] [z] _ => decide (o = cmpOf op) && !(behindInMarks o z) && chkE c a y && chkE c b z
    | _ => false
  | .chain o1 o2 a b d, x => match x with
    | .Compare y [p, q] [z, w] _ => decide (p = cmpOf o1) && decide (q = cmpOf o2) && !(lastMarks [p, q] [z, w]) && chkE c a y && chkE c b z && chkE c d w
    | _ => false
  | .and es, x => match x with
    | .BoolOp .And xs _ => chkEs c es xs
    | _ => false
  | .or es, x => match x with
    | .BoolOp .Or xs _ => chkEs c es xs
    | _ => false
  | .ite t a b, x => match x with
    | .IfExp w y z _ => chkE c t w && chkE c a y && chkE c b z
    | _ => false
  | .call f es, x => match x with
    | .Call (.Name y _) xs [] _ => (match T.tab[f]? with | some fi => decide (fi.name = y) && fi.plain | none => false) && gloB c.sc y && nmB y && chkEs c es xs
    | _ => false
  | .callK f h es ks, x => match x with
    | .Call (.Name y _) xs kws _ => (match T.tab[f]? with | some fi => decide (fi.name = y) | none => false) && gloB c.sc y && nmB y && kwNamed kws &&
        (match T.shs[h]? with | some s => decide (s.f = f) && decide (s.n = xs.length) && decide (kws.filterMap (·.arg) = s.ks) | none => false) && chkEs c es xs && chkKs c ks kws
    | _ => false
  | .blt f es, x => match x with
    | .Call (.Name y _) xs [] _ => decide (bltName f = y) && gloB c.sc y && nmB y && chkEs c es xs && !xs.isEmpty
    | _ => false
  | .isi a t, x => match x with
    | .Call (.Name y _) [z, .Name w _] [] _ => decide (("isinstance" : Str) = y) && decide (tyName t = w) && gloB c.sc y && gloB c.sc w && nmB y && nmB w && chkE c a z
    | _ => false
  | .idx a i, x => match x with
    | .Subscript y z _ => ixB z && chkE c a y && chkE c i z
    | _ => false
  | .slc a lo hi, x => match x with
    | .Subscript y (.Slice l h none _) _ => chkE c a y && chkO c lo l && chkO c hi h
    | _ => false
  | .rev a, x => match x with
    | .Subscript y (.Slice none none (some (.UnaryOp .USub (.Constant (.int j) _ _) _)) _) _ => decide (j = 1) && chkE c a y
    | _ => false
  | .mth m o es, x => match x with
    | .Call (.Attribute y n apos) xs [] cpos => decide (n = mthName m) && (apos.endLine == cpos.line) && notCall y && decide (xs.length < 29) && chkE c o y && chkEs c es xs
    | _ => false
  | .lc own t it cond e, x => match x with
    | .ListComp elt [⟨tg, iter, ifs, 0⟩] scope _ => blkC c.N c.sc scope (ownB c.N own) && notSet iter && ((slT t).all fun i => decide (i ∈ own)) && chkI c it iter tg && chkT (c.blk scope) t tg && (match ifs with
        | [] => (match cond with | .none => true | .some _ => false)
        | [w] => (match cond with | .none => false | .some d => chkE (c.blk scope) d w)
        | _ => false) && chkE (c.blk scope) e elt
    | _ => false
  | .lrg1 tp a, x => match x with
    | .Call (.Name y _) [.Call (.Name r _) [z] [] _] [] _ => decide ((if tp = true then "tuple" else "list" : Str) = y) && decide (r = ("range" : Str)) && gloB c.sc y && gloB c.sc r && notStar z && chkE c a z
    | _ => false
  | .lrg2 tp a b, x => match x with
    | .Call (.Name y _) [.Call (.Name r _) [z, w] [] _] [] _ => decide ((if tp = true then "tuple" else "list" : Str) = y) && decide (r = ("range" : Str)) && gloB c.sc y && gloB c.sc r && notStar z && notStar w && chkE c a z && chkE c b w
    | _ => false
def chkEs (c : Ck) : Es → List Expr → Bool
  | .nil, xs => xs.isEmpty
  | .cons e es, xs => match xs with
    | x :: r => notStar x && chkE c e x && chkEs c es r
    | [] => false
def chkKs (c : Ck) : Es → List Keyword → Bool
  | .nil, ks => ks.isEmpty
  | .cons e es, ks => match ks with
    | ⟨_, x, _⟩ :: r => chkE c e x && chkKs c es r
    | [] => false
def chkO (c : Ck) : Oe → Option Expr → Bool
  | .none, x => match x with
    | none => true
    | some _ => false
  | .some e, x => match x with
    | some y => chkE c e y
    | none => false
def chkI (c : Ck) : It → Expr → Expr → Bool
  | .seq e, x, _ => chkE c e x
  | .rng1 a, x, _ => match x with
    | .Call (.Name y _) [z] [] _ => decide (y = ("range" : Str)) && gloB c.sc y && notStar z && chkE c a z
    | _ => false
  | .rng2 a b, x, _ => match x with
    | .Call (.Name y _) [z, w] [] _ => decide (y = ("range" : Str)) && gloB c.sc y && notStar z && notStar w && chkE c a z && chkE c b w
    | _ => false
  | .rng3 a b d, x, _ => match x with
    | .Call (.Name y _) [z, w, v] [] _ => decide (y = ("range" : Str)) && gloB c.sc y && notStar z && notStar w && notStar v && chkE c a z && chkE c b w && chkE c d v
    | _ => false
  | .enum e, x, tg => match x, tg with
    | .Call (.Name y _) [z] [] _, .Tuple _ _ _ => decide (y = ("enumerate" : Str)) && gloB c.sc y && notStar z && chkE c e z
    | _, _ => false
  | .zip a b, x, tg => match x, tg with
    | .Call (.Name y _) [z, w] [] _, .Tuple _ _ _ => decide (y = ("zip" : Str)) && gloB c.sc y && notStar z && notStar w && chkE c a z && chkE c b w
    | _, _ => false
def chkT (c : Ck) : Tg → Expr → Bool
  | .name i, x => match x with
    | .Name y _ => decide (c.N[i]? = some y) && c.so y
    | _ => false
  | .tup ts, x => match x with
    | .Tuple xs _ _ => chkTs c ts xs
    | _ => false
  | .sub o i, x => match x with
    | .Subscript y z _ => ixB z && chkE c o y && chkE c i z
    | _ => false
def chkTs (c : Ck) : Tgs → List Expr → Bool
  | .nil, xs => xs.isEmpty
  | .cons t ts, xs => match xs with
    | x :: r => notStar x && chkT c t x && chkTs c ts r
    | [] => false
end
end
end Wk

set_option Elab.async false
set_option linter.all false
set_option maxRecDepth 100000
set_option maxHeartbeats 2000000
/-! enumerate of a tuple, of a text -/
namespace Wk
open PySem PySem.Spec PyProof.Rows L2

set_option maxHeartbeats 1000000 in
theorem meets_enum1 {v : Value} {o : Obj} {H : Heap → Prop} (B : Begins v o H) :
    Meets (Builtin.«enumerate.__new__» ⟨[.type "enumerate", v], []⟩) (fun _ R s => H s.heap ∧
      R (.ok (.ret (.ref (s.heap.push o).objs.size))) { s with heap := (s.heap.push o).push { cls := .type "enumerate", data := .fields #[.none, .bool false, .ref s.heap.objs.size, rawInt 0, .none, .none] } }) :=
  .of_wp fun prog w A R s h => by
    obtain ⟨hp, g, d, tk, os⟩ := s; obtain ⟨h1, h⟩ := h
    have hsub := sub_enumerate
    have q1 : ∀ {A' : Around} {E : Value → Shared → Prop} {Q : Value → Shared → Prop}, Q (.ref hp.objs.size) ⟨hp.push o, g, d, tk, os⟩ → wpAny (model prog w) A' (pyIter v) Q E ⟨hp, g, d, tk, os⟩ :=
      fun q => B.iter prog w _ _ ⟨hp, g, d, tk, os⟩ _ h1 q
    wp_walk using q1
    refine wpAny_stack_any fun st => wpAny_pure ?_
    split
    · rename_i c _ _ _ _ _
      cases (c == Value.type "enumerate")
      · wp_walk using q1
        exact ⟨_, rfl, h⟩
      · wp_walk using q1
        exact ⟨_, rfl, h⟩
    · wp_walk using q1
      exact ⟨_, rfl, h⟩
theorem enum1 {prog : Program} {w : World} {A : Around} {E : Value → Shared → Prop} {s : Shared} {v : Value} {o : Obj} {H : Heap → Prop} {Q : Value → Shared → Prop} (B : Begins v o H) (h1 : H s.heap)
    (h : ∀ h', IsEnum h' (s.heap.objs.size + 1) s.heap.objs.size 0 .none → h'.get? s.heap.objs.size = some o → h'.objs.size = s.heap.objs.size + 2 →
      (∀ b o, s.heap.get? b = some o → h'.get? b = some o) → Q (.ref (s.heap.objs.size + 1)) { s with heap := h' }) :
    wpAny (model prog w) A (call (.type "enumerate") [v]) Q E s := by
  refine callType_new F.called_enumerate (by decide) (F.typeCall_enumerate_1 _) (F.newCall_enumerate_1 _) (fun obj => F.args_object_init_2 obj _) F.entry_enumerate_new
    (meets_enum1 B) ⟨h1, ?_⟩
  have hz : (s.heap.push o).objs.size = s.heap.objs.size + 1 := Heap.size_push ..
  show _ ∧ _
  rw [hz]
  have he : IsEnum ((s.heap.push o).push { cls := .type "enumerate", data := .fields #[.none, .bool false, .ref s.heap.objs.size, rawInt 0, .none, .none] }) (s.heap.objs.size + 1) s.heap.objs.size 0 .none := by
    have := Heap.get?_push_size (s.heap.push o) (o := { cls := .type "enumerate", data := .fields #[.none, .bool false, .ref s.heap.objs.size, rawInt 0, .none, .none] }) rfl
    rw [hz] at this; exact this
  refine ⟨⟨_, he, rfl⟩, h _ he (Heap.get?_push_of_some _ (Heap.get?_push_size _ B.free)) (by rw [Heap.size_push, hz]) fun b o x => Heap.get?_push_of_some _ (Heap.get?_push_of_some _ x)⟩

theorem enum_end {prog : Program} {w : World} {A : Around} {E : Value → Shared → Prop} {s : Shared} {e it : Addr} {i : Int} {old : Value} {Q : Option Value → Shared → Prop} (he : IsEnum s.heap e it i old)
    (hd : ∀ (Q' : Value → Shared → Prop) (E' : Value → Shared → Prop), (∀ h' e, Heap.ExtBut it s.heap h' → (∃ o, h'.get? e = some o ∧ o.cls = .type "StopIteration") → E' (.ref e) { s with heap := h' }) → wpAny (model prog w) A.in1 (Builtin.SmallTypes.nextOf (.ref it)) Q' E' s)
    (hQ : ∀ h', Heap.ExtBut it s.heap h' → Q none { s with heap := h' }) : wpAny (model prog w) A (pyNext (.ref e)) Q E s := by
  have hT : s.TypeIs (.ref e) "enumerate" := ⟨_, he, rfl⟩
  unfold pyNext
  refine wpAny_bind (wpAny_attempt (wpAny_callSpecial?_slot (name := Str.ofString "__next__") hT F.slot_enumerate_next
    (wpAny_call_entry F.slot_enumerate_next hT F.entry_enumerate_next ?_ (F.args_enumerate_next_1 _))))
  show wpAny _ _ (field (.ref e) 2 >>= _) _ _ _
  refine wpAny_bind (wpAny_field he rfl (x := .ref it) rfl ?_)
  refine wpAny_bind (hd _ _ fun h' x he' hx' => ?_)
  obtain ⟨o, ho, hc⟩ := hx'
  refine wpAny_bind (wpAny_isInstance (T := "StopIteration") (b := true) ⟨o, ho, hc⟩ isSubtype_stop ?_)
  exact wpAny_pure (hQ _ he')

/-- the tuple at a, each item in a new pair -/
def IteT (K : PySem.W.Frag) (a : Addr) : L2.It :=
  ⟨fun i H => ∃ (xs : List V) (x : V), SqT K H a xs ∧ xs[i]? = some x, fun i H v H' => ∃ T x, v = .ref T ∧ H T = none ∧ H' = upd H T (.tup [.int (i : Nat), x]) ∧ ∀ xs, SqT K H a xs → xs[i]? = some x, fun i H => ∃ xs : List V, SqT K H a xs ∧ xs.length ≤ i⟩
theorem turn_enumT {P : Program} {w : World} {K : PySem.W.Frag} {elts : List Expr} {kk : Nat} {tpos : Pos} (a e it : Addr) :
    Turn P w K (.Tuple elts kk tpos) (IteT K a) [e, it] e (fun i h => (∃ old, IsEnum h e it ((i : Nat) : Int) old) ∧ h.IsTupleIter it a i ∧ e ≠ it) where
  mem := by simp
  obj := fun i h st b hb => by
    obtain ⟨⟨old, he⟩, ⟨o, ho, hc, hd⟩, _⟩ := st
    have e' : b = e ∨ b = it := by simpa using hb
    rcases e' with z | z
    · rw [z]; exact ⟨_, he, fun v q => nomatch q⟩
    · rw [z]; exact ⟨o, ho, fun v q => by rw [hd] at q; cases q⟩
  keep := fun i h h' st k => let ⟨⟨old, he⟩, hi, hne⟩ := st; ⟨⟨old, k e (by simp) _ he⟩, hi.at fun o q => k it (by simp) o q, hne⟩
  item := by
    intro X hP hw hK hc i pins s σ H E I hf st hg
    subst hP hw hK
    obtain ⟨⟨old, he⟩, hit, hne⟩ := st
    obtain ⟨xs, x, hq, hx⟩ := hg
    obtain ⟨its, rv, p, hz⟩ := I.tuple hq
    obtain ⟨u, hu, ru⟩ := rv.get hx
    have hel : e < s.heap.objs.size := Heap.lt_size he
    have hil : it < s.heap.objs.size := by obtain ⟨_, q, _⟩ := hit; exact Heap.lt_size q
    have ht : s.heap.IsTuple a its.toArray := p
    have hai : a ≠ it := by
      intro z
      obtain ⟨o1, e1, c1, _⟩ := hit
      obtain ⟨o2, e2, c2, _⟩ := p
      rw [z, e1] at e2; cases e2
      rw [c1] at c2
      exact absurd c2 (by decide +kernel)
    have hae : a ≠ e := by
      intro z
      obtain ⟨o2, e2, c2, _⟩ := p
      rw [z, show s.heap.get? e = _ from he] at e2; cases e2
      exact absurd (show Value.type "enumerate" = Value.type "tuple" from c2) (by decide +kernel)
    have hlt : i < its.toArray.size := by
      have := (List.getElem?_eq_some_iff.mp hu).1
      simpa using this
    refine wpAny_pyNext_enum_itemD (Draws.tuple (prog := X.prog) (w := X.w) (A := X.A.in1) (I.ok.hd hc) it a hai its.toArray) he ⟨hit, ht⟩ hlt hne (by simp [hne, Ne.symm hae]) fun y h' tk hP ho hst' hT hsz hk => ?_
    have ey : y = u := by
      have : its[i]? = some y := by simpa using hP
      rw [hu] at this; exact (Option.some.inj this).symm
    subst ey
    refine ⟨_, rfl, wpAny_letOwnedTupleGo_enum (s := { s with heap := h', toks := tk + 1 }) ho fun h'' he' sb => ?_⟩
    have hT2 : h''.get? s.heap.objs.size = some { cls := .type "tuple", data := .seq #[.int i tk, y] } := (sb.2 _ (Nat.ne_of_gt hel)).trans hT
    have new : ObjOk X.prog X.w (upd H s.heap.objs.size (.tup [.int (i : Nat), x])) h'' s.heap.objs.size (.tup [.int (i : Nat), x]) :=
      ⟨by show 2 ≤ sizeLine; decide, [.int i tk, y], .cons ⟨_, rfl⟩ (.cons ru .nil), ⟨_, hT2, rfl, _, rfl⟩⟩
    have I1 : Inv X pins σ (upd H s.heap.objs.size (.tup [.int (i : Nat), x])) { s with heap := h'', toks := tk + 1 } :=
      I.turnedNew (ch := [e, it]) (fun b ob hb q => (sb.2 b (fun z => hb (by simp [z]))).trans (hk b ob (fun z => hb (by simp [z])) (fun z => hb (by simp [z])) q)) hf (Nat.le_refl _) new
    refine ⟨.ref s.heap.objs.size, _, I1, rfl, ⟨_, x, rfl, I.hok.fresh (Nat.le_refl _), rfl, fun ys hy => by rw [I.tuple_inj hy hq]; exact hx⟩, ⟨⟨y, ?_⟩, hst'.1.at fun o q => (sb.2 it (Ne.symm hne)).trans q, hne⟩, fun b hb => ?_⟩
    · have e1 : ((i + 1 : Nat) : Int) = (i : Int) + 1 := by omega
      rw [e1]; exact he'
    · have hb' : b < s.heap.objs.size := by
        have e' : b = e ∨ b = it := by simpa using hb
        rcases e' with z | z
        · rw [z]; exact hel
        · rw [z]; exact hil
      rw [upd_ne (Nat.ne_of_lt hb')]
      exact (hf b hb).1
  done := by
    intro X hP hw hK hc i pins s σ H E I hf st hg
    subst hP hw hK
    obtain ⟨⟨old, he⟩, hit, hne⟩ := st
    obtain ⟨xs, hq, hx⟩ := hg
    obtain ⟨its, rv, p, hz⟩ := I.tuple hq
    obtain ⟨f0, f1, f2, f3, f4, f5⟩ := hf it (by simp)
    have hl := rv.length
    have ht : s.heap.IsTuple a its.toArray := p
    exact enum_end he (fun Q' E' hE => wpAny_nextOf_tuple_end (I.ok.hd hc) hit ht (by simp; omega) hE) fun h' eb => ⟨rfl, I.turned (t' := s.toks) (fun b o hb q => eb b o hb q) f0 f1 f3 f4 f5⟩
  self := fun A i s Q E st h => let ⟨⟨_, he⟩, _⟩ := st; wpAny_pyIter_enum he h
/-- a text, each sign in a new pair -/
def IteS (x : Str) : L2.It :=
  ⟨fun i _ => i < x.cps.size, fun i H v H' => ∃ T c, v = .ref T ∧ H T = none ∧ x.cps[i]? = some c ∧ H' = upd H T (.tup [.int (i : Nat), .str ⟨#[c]⟩]), fun i _ => x.cps.size ≤ i⟩
theorem turn_enumS {P : Program} {w : World} {K : PySem.W.Frag} {elts : List Expr} {kk : Nat} {tpos : Pos} (x : Str) (t : Tok) (e it : Addr) :
    Turn P w K (.Tuple elts kk tpos) (IteS x) [e, it] e (fun i h => (∃ old, IsEnum h e it ((i : Nat) : Int) old) ∧ h.IsStrIter it (strIterType x) x t i ∧ e ≠ it) where
  mem := by simp
  obj := fun i h st b hb => by
    obtain ⟨⟨old, he⟩, ⟨o, ho, hc, hd⟩, _⟩ := st
    have e' : b = e ∨ b = it := by simpa using hb
    rcases e' with z | z
    · rw [z]; exact ⟨_, he, fun v q => nomatch q⟩
    · rw [z]; exact ⟨o, ho, fun v q => by rw [hd] at q; cases q⟩
  keep := fun i h h' st k => let ⟨⟨old, he⟩, ⟨o, ho, r⟩, hne⟩ := st; ⟨⟨old, k e (by simp) _ he⟩, ⟨o, k it (by simp) o ho, r⟩, hne⟩
  item := by
    intro X hP hw hK hc i pins s σ H E I hf st hg
    subst hP hw hK
    obtain ⟨⟨old, he⟩, hit, hne⟩ := st
    have hel : e < s.heap.objs.size := Heap.lt_size he
    have hil : it < s.heap.objs.size := by obtain ⟨_, q, _⟩ := hit; exact Heap.lt_size q
    have hlt : i < x.cps.size := hg
    refine wpAny_pyNext_enum_itemD (Draws.text (prog := X.prog) (w := X.w) (A := X.A.in1) (I.ok.hd hc) it x t) he hit hlt hne (by simp [hne]) fun y h' tk hP ho hst' hT hsz hk => ?_
    obtain ⟨c, u, hcx, rfl⟩ := hP
    refine ⟨_, rfl, wpAny_letOwnedTupleGo_enum (s := { s with heap := h', toks := tk + 1 }) ho fun h'' he' sb => ?_⟩
    have hT2 : h''.get? s.heap.objs.size = some { cls := .type "tuple", data := .seq #[.int i tk, .str ⟨#[c]⟩ u] } := (sb.2 _ (Nat.ne_of_gt hel)).trans hT
    have new : ObjOk X.prog X.w (upd H s.heap.objs.size (.tup [.int (i : Nat), .str ⟨#[c]⟩])) h'' s.heap.objs.size (.tup [.int (i : Nat), .str ⟨#[c]⟩]) :=
      ⟨by show 2 ≤ sizeLine; decide, [.int i tk, .str ⟨#[c]⟩ u], .cons ⟨_, rfl⟩ (.cons ⟨_, rfl⟩ .nil), ⟨_, hT2, rfl, _, rfl⟩⟩
    have I1 : Inv X pins σ (upd H s.heap.objs.size (.tup [.int (i : Nat), .str ⟨#[c]⟩])) { s with heap := h'', toks := tk + 1 } :=
      I.turnedNew (ch := [e, it]) (fun b ob hb q => (sb.2 b (fun z => hb (by simp [z]))).trans (hk b ob (fun z => hb (by simp [z])) (fun z => hb (by simp [z])) q)) hf (Nat.le_refl _) new
    refine ⟨.ref s.heap.objs.size, _, I1, rfl, ⟨_, c, rfl, I.hok.fresh (Nat.le_refl _), hcx, rfl⟩, ⟨⟨.str ⟨#[c]⟩ u, ?_⟩, ?_, hne⟩, fun b hb => ?_⟩
    · have e1 : ((i + 1 : Nat) : Int) = (i : Int) + 1 := by omega
      rw [e1]; exact he'
    · obtain ⟨o, ho', r⟩ := hst'
      exact ⟨o, (sb.2 it (Ne.symm hne)).trans ho', r⟩
    · have hb' : b < s.heap.objs.size := by
        have e' : b = e ∨ b = it := by simpa using hb
        rcases e' with z | z
        · rw [z]; exact hel
        · rw [z]; exact hil
      rw [upd_ne (Nat.ne_of_lt hb')]
      exact (hf b hb).1
  done := by
    intro X hP hw hK hc i pins s σ H E I hf st hg
    subst hP hw hK
    obtain ⟨⟨old, he⟩, hit, hne⟩ := st
    obtain ⟨f0, f1, f2, f3, f4, f5⟩ := hf it (by simp)
    have hx : x.cps[i]? = none := Array.getElem?_eq_none hg
    refine enum_end he (fun Q' E' hE => ?_) fun h' eb => ⟨rfl, I.turned (t' := s.toks) (fun b o hb q => eb b o hb q) f0 f1 f3 f4 f5⟩
    cases ha : x.cps.all (· < 128)
    · simp only [strIterType, ha, Bool.false_eq_true, if_false] at hit
      exact wpAny_nextOf_wide_end (I.ok.hd hc) hit hx hE
    · simp only [strIterType, ha, if_true] at hit
      exact wpAny_nextOf_ascii_end (I.ok.hd hc) hit hx hE
  self := fun A i s Q E st h => let ⟨⟨_, he⟩, _⟩ := st; wpAny_pyIter_enum he h
def iEnumA (K : PySem.W.Frag) (ta : TA) : TI := fun σ H R => ta σ H fun vs H1 => (∃ a xs, vs = [.ref a] ∧ ((SqL K H1 a xs ∧ R (Ite K a) H1) ∨ (SqT K H1 a xs ∧ R (IteT K a) H1))) ∨ ∃ z, vs = [.str z] ∧ R (IteS z) H1
theorem pi_enumA {X : Cx} {e : Expr} {ta : TA} {p pos tpos : Pos} {elts : List Expr} {kk : Nat} (hg : Gl X "enumerate") (hm : X.mg "enumerate" = none) (ha : PA X [e] ta) (hs : starEach [e] X.env = [(false, eval e X.env)]) :
    PI X (.Tuple elts kk tpos) (.Call (.Name "enumerate" p) [e] [] pos) (iEnumA X.K ta) := by
  refine ⟨fun pins s σ H R I h => ?_⟩
  refine Call_ (ld_blt I hg hm boot_enumerate (PyProof.Rows.callWith_type1 (thn (ha.run pos pins s σ H _ I h) fun us s1 ⟨vs, H1, I1, r1, q1⟩ => ?_) hs rfl))
  have fp2 : ∀ b ∈ [s1.heap.objs.size + 1, s1.heap.objs.size], FpOk X pins H1 b := fun b hb => by
    have e' : b = s1.heap.objs.size + 1 ∨ b = s1.heap.objs.size := by simpa using hb
    have hle : s1.heap.objs.size ≤ b := by
      rcases e' with z | z
      · rw [z]; exact Nat.le_add_right _ _
      · rw [z]; exact Nat.le_refl _
    exact I1.fpOk hle (I1.hok.fresh hle)
  rcases q1 with ⟨a, xs, ex, q1⟩ | ⟨z, ex, q1⟩
  · subst ex
    cases r1 with
    | cons r rr =>
      cases rr
      cases r
      rcases q1 with ⟨hq, q⟩ | ⟨hq, q⟩
      · obtain ⟨its, rv, p', hz⟩ := I1.list hq
        refine call_enumerate_list p'.isList fun h' he hit hsz hk => wpAny_pyIter_enum he ?_
        have I2 : Inv X pins σ H1 { s1 with heap := h' } := I1.kept (t' := s1.toks) hk
        exact ⟨s1.heap.objs.size + 1, [s1.heap.objs.size + 1, s1.heap.objs.size], _, _, H1, rfl, I2, turn_enum a (s1.heap.objs.size + 1) s1.heap.objs.size, ⟨⟨.none, he⟩, hit, Nat.succ_ne_self _⟩, fp2, q⟩
      · obtain ⟨its, rv, p', hz⟩ := I1.tuple hq
        refine enum1 (begins_tuple a its.toArray) (show s1.heap.IsTuple a its.toArray from p') fun h' he hit hsz hk => wpAny_pyIter_enum he ?_
        have I2 : Inv X pins σ H1 { s1 with heap := h' } := I1.kept (t' := s1.toks) hk
        exact ⟨s1.heap.objs.size + 1, [s1.heap.objs.size + 1, s1.heap.objs.size], _, _, H1, rfl, I2, turn_enumT a (s1.heap.objs.size + 1) s1.heap.objs.size, ⟨⟨.none, he⟩, ⟨_, hit, rfl, rfl⟩, Nat.succ_ne_self _⟩, fp2, q⟩
  · subst ex
    cases r1 with
    | cons r rr =>
      cases rr
      obtain ⟨t, rfl⟩ := r
      refine call_enumerate_str fun h' he hit hsz hk => wpAny_pyIter_enum he ?_
      have I2 : Inv X pins σ H1 { s1 with heap := h' } := I1.kept (t' := s1.toks) hk
      exact ⟨s1.heap.objs.size + 1, [s1.heap.objs.size + 1, s1.heap.objs.size], _, _, H1, rfl, I2, turn_enumS z t (s1.heap.objs.size + 1) s1.heap.objs.size, ⟨⟨.none, he⟩, hit, Nat.succ_ne_self _⟩, fp2, q1⟩
end Wk

set_option Elab.async false
set_option linter.all false
set_option maxRecDepth 100000
set_option maxHeartbeats 4000000
namespace Wk
open PySem PySem.Spec PyProof.Rows L2
/-! ### what the look at the text has seen -/
theorem inv_var {T : Txt} {c : Ck} {i : Nat} {x : Expr} (h : chkE T c (.var i) x = true) : ∃ y p, x = .Name y p ∧ (decide (c.N[i]? = some y) && visB c.sc y && nmB y) = true := by
  cases x with
  | Name y p => exact ⟨_, _, rfl, h⟩
  | _ => cases h
theorem inv_int {T : Txt} {c : Ck} {i : Int} {x : Expr} (h : chkE T c (.int i) x = true) : ∃ j a p, x = .Constant (.int j) a p ∧ (decide (i = j)) = true := by
  cases x with
  | Constant cc a p =>
    cases cc with
    | int j => exact ⟨_, _, _, rfl, h⟩
    | _ => cases h
  | _ => cases h
theorem inv_str {T : Txt} {c : Ck} {z : Str} {x : Expr} (h : chkE T c (.str z) x = true) : ∃ j a p, x = .Constant (.str j) a p ∧ (decide (z = j)) = true := by
  cases x with
  | Constant cc a p =>
    cases cc with
    | str j => exact ⟨_, _, _, rfl, h⟩
    | _ => cases h
  | _ => cases h
theorem inv_bl {T : Txt} {c : Ck} {b : Bool} {x : Expr} (h : chkE T c (.bl b) x = true) : ∃ j a p, x = .Constant (.bool j) a p ∧ (decide (b = j)) = true := by
  cases x with
  | Constant cc a p =>
    cases cc with
    | bool j => exact ⟨_, _, _, rfl, h⟩
    | _ => cases h
  | _ => cases h
theorem inv_non {T : Txt} {c : Ck}  {x : Expr} (h : chkE T c .non x = true) : ∃ a p, x = .Constant .none a p ∧ (true) = true := by
  cases x with
  | Constant cc a p =>
    cases cc with
    | none => exact ⟨_, _, rfl, rfl⟩
    | _ => cases h
  | _ => cases h
theorem inv_glob {T : Txt} {c : Ck} {i : Nat} {x : Expr} (h : chkE T c (.glob i) x = true) : ∃ y p, x = .Name y p ∧ ((match T.cs[i]? with | some p => decide (p.1 = y) | none => false) && gloB c.sc y && nmB y) = true := by
  cases x with
  | Name y p => exact ⟨_, _, rfl, h⟩
  | _ => cases h
theorem inv_tup {T : Txt} {c : Ck} {es : Es} {x : Expr} (h : chkE T c (.tup es) x = true) : ∃ xs a p, x = .Tuple xs a p ∧ (chkEs T c es xs) = true := by
  cases x with
  | Tuple y z p => exact ⟨_, _, _, rfl, h⟩
  | _ => cases h
theorem inv_lst {T : Txt} {c : Ck} {es : Es} {x : Expr} (h : chkE T c (.lst es) x = true) : ∃ xs p, x = .List xs p ∧ (chkEs T c es xs) = true := by
  cases x with
  | List y p => exact ⟨_, _, rfl, h⟩
  | _ => cases h
theorem inv_dic {T : Txt} {c : Ck} {ks : List Str} {vs : Es} {x : Expr} (h : chkE T c (.dic ks vs) x = true) : ∃ keys values p, x = .Dict keys values p ∧ (decide (keysOf keys = some ks) && chkEs T c vs values) = true := by
  cases x with
  | Dict keys values p => exact ⟨_, _, _, rfl, h⟩
  | _ => cases h
theorem inv_bin {T : Txt} {c : Ck} {op : BOp} {a b : E} {x : Expr} (h : chkE T c (.bin op a b) x = true) : ∃ y o z p, x = .BinOp y o z p ∧ (decide (o = opOf op) && chkE T c a y && chkE T c b z) = true := by
  cases x with
  | BinOp y o z p => exact ⟨_, _, _, _, rfl, h⟩
  | _ => cases h
theorem inv_neg {T : Txt} {c : Ck} {a : E} {x : Expr} (h : chkE T c (.neg a) x = true) : ∃ y p, x = .UnaryOp .USub y p ∧ (chkE T c a y) = true := by
  cases x with
  | UnaryOp o y p =>
    cases o with
    | USub => exact ⟨_, _, rfl, h⟩
    | _ => cases h
  | _ => cases h
theorem inv_not {T : Txt} {c : Ck} {a : E} {x : Expr} (h : chkE T c (.not a) x = true) : ∃ y p, x = .UnaryOp .Not y p ∧ (chkE T c a y) = true := by
  cases x with
  | UnaryOp o y p =>
    cases o with
    | Not => exact ⟨_, _, rfl, h⟩
    | _ => cases h
  | _ => cases h
theorem inv_cmp {T : Txt} {c : Ck} {op : COp} {a b : E} {x : Expr} (h : chkE T c (.cmp op a b) x = true) : ∃ y o z p, x = .Compare y [o] [z] p ∧ (decide (o = cmpOf op) && !(behindInMarks o z) && chkE T c a y && chkE T c b z) = true := by
  cases x with
  | Compare y ops zs p =>
    rcases ops with _ | ⟨o, _ | ⟨o2, ops⟩⟩
    · cases h
    · rcases zs with _ | ⟨z, _ | ⟨z2, zs⟩⟩
      · cases h
      · exact ⟨_, _, _, _, rfl, h⟩
      · cases h
    · rcases zs with _ | ⟨z, _ | ⟨z2, zs⟩⟩ <;> cases h
  | _ => cases h
theorem inv_chain {T : Txt} {c : Ck} {o1 o2 : COp} {a b d : E} {x : Expr} (h : chkE T c (.chain o1 o2 a b d) x = true) : ∃ y p1 p2 z w p, x = .Compare y [p1, p2] [z, w] p ∧ (decide (p1 = cmpOf o1) && decide (p2 = cmpOf o2) && !(lastMarks [p1, p2] [z, w]) && chkE T c a y && chkE T c b z && chkE T c d w) = true := by
  cases x with
  | Compare y ops zs p =>
    rcases ops with _ | ⟨p1, _ | ⟨p2, _ | ⟨p3, ops⟩⟩⟩
    · cases h
    · cases h
    · rcases zs with _ | ⟨z, _ | ⟨w, _ | ⟨w2, zs⟩⟩⟩
      · cases h
      · cases h
      · exact ⟨_, _, _, _, _, _, rfl, h⟩
      · cases h
    · rcases zs with _ | ⟨z, _ | ⟨w, _ | ⟨w2, zs⟩⟩⟩ <;> cases h
  | _ => cases h
theorem inv_and {T : Txt} {c : Ck} {es : Es} {x : Expr} (h : chkE T c (.and es) x = true) : ∃ xs p, x = .BoolOp .And xs p ∧ (chkEs T c es xs) = true := by
  cases x with
  | BoolOp o y p =>
    cases o with
    | And => exact ⟨_, _, rfl, h⟩
    | _ => cases h
  | _ => cases h
theorem inv_or {T : Txt} {c : Ck} {es : Es} {x : Expr} (h : chkE T c (.or es) x = true) : ∃ xs p, x = .BoolOp .Or xs p ∧ (chkEs T c es xs) = true := by
  cases x with
  | BoolOp o y p =>
    cases o with
    | Or => exact ⟨_, _, rfl, h⟩
    | _ => cases h
  | _ => cases h
theorem inv_ite {T : Txt} {c : Ck} {t a b : E} {x : Expr} (h : chkE T c (.ite t a b) x = true) : ∃ w y z p, x = .IfExp w y z p ∧ (chkE T c t w && chkE T c a y && chkE T c b z) = true := by
  cases x with
  | IfExp w y z p => exact ⟨_, _, _, _, rfl, h⟩
  | _ => cases h
theorem inv_call {T : Txt} {c : Ck} {f : Nat} {es : Es} {x : Expr} (h : chkE T c (.call f es) x = true) : ∃ y p1 xs p, x = .Call (.Name y p1) xs [] p ∧ ((match T.tab[f]? with | some fi => decide (fi.name = y) && fi.plain | none => false) && gloB c.sc y && nmB y && chkEs T c es xs) = true := by
  cases x with
  | Call g xs kws p =>
    cases g with
    | Name y p1 =>
      cases kws with
      | nil => exact ⟨_, _, _, _, rfl, h⟩
      | cons _ _ => cases h
    | _ => cases h
  | _ => cases h
theorem inv_callK {T : Txt} {c : Ck} {f hh : Nat} {es ks : Es} {x : Expr} (h : chkE T c (.callK f hh es ks) x = true) : ∃ y p1 xs kws p, x = .Call (.Name y p1) xs kws p ∧ ((match T.tab[f]? with | some fi => decide (fi.name = y) | none => false) && gloB c.sc y && nmB y && kwNamed kws && (match T.shs[hh]? with | some s => decide (s.f = f) && decide (s.n = xs.length) && decide (kws.filterMap (·.arg) = s.ks) | none => false) && chkEs T c es xs && chkKs T c ks kws) = true := by
  cases x with
  | Call g xs kws p =>
    cases g with
    | Name y p1 => exact ⟨_, _, _, _, _, rfl, h⟩
    | _ => cases h
  | _ => cases h
theorem inv_blt {T : Txt} {c : Ck} {f : Blt} {es : Es} {x : Expr} (h : chkE T c (.blt f es) x = true) : ∃ y p1 xs p, x = .Call (.Name y p1) xs [] p ∧ (decide (bltName f = y) && gloB c.sc y && nmB y && chkEs T c es xs && !xs.isEmpty) = true := by
  cases x with
  | Call g xs kws p =>
    cases g with
    | Name y p1 =>
      cases kws with
      | nil => exact ⟨_, _, _, _, rfl, h⟩
      | cons _ _ => cases h
    | _ => cases h
  | _ => cases h
theorem inv_isi {T : Txt} {c : Ck} {a : E} {t : Ty} {x : Expr} (h : chkE T c (.isi a t) x = true) : ∃ y p1 z w p2 p, x = .Call (.Name y p1) [z, .Name w p2] [] p ∧ (decide (("isinstance" : Str) = y) && decide (tyName t = w) && gloB c.sc y && gloB c.sc w && nmB y && nmB w && chkE T c a z) = true := by
  cases x with
  | Call g xs kws p =>
    cases g with
    | Name y p1 =>
      rcases xs with _ | ⟨z, _ | ⟨w, _ | ⟨w2, xs⟩⟩⟩
      · cases kws <;> cases h
      · cases kws <;> cases h
      · cases w with
        | Name w p2 =>
          cases kws with
          | nil => exact ⟨_, _, _, _, _, _, rfl, h⟩
          | cons _ _ => cases h
        | _ => cases kws <;> cases h
      · cases w <;> cases kws <;> cases h
    | _ => cases h
  | _ => cases h
theorem inv_idx {T : Txt} {c : Ck} {a i : E} {x : Expr} (h : chkE T c (.idx a i) x = true) : ∃ y z p, x = .Subscript y z p ∧ (ixB z && chkE T c a y && chkE T c i z) = true := by
  cases x with
  | Subscript y z p => exact ⟨_, _, _, rfl, h⟩
  | _ => cases h
theorem inv_slc {T : Txt} {c : Ck} {a : E} {lo hi : Oe} {x : Expr} (h : chkE T c (.slc a lo hi) x = true) : ∃ y l h p1 p, x = .Subscript y (.Slice l h none p1) p ∧ (chkE T c a y && chkO T c lo l && chkO T c hi h) = true := by
  cases x with
  | Subscript y z p =>
    cases z with
    | Slice l hh st p1 =>
      cases st with
      | none => exact ⟨_, _, _, _, _, rfl, h⟩
      | some _ => cases h
    | _ => cases h
  | _ => cases h
theorem inv_rev {T : Txt} {c : Ck} {a : E} {x : Expr} (h : chkE T c (.rev a) x = true) : ∃ y n1 p1 p2 p3 p, x = .Subscript y (.Slice none none (some (.UnaryOp .USub (.Constant (.int 1) n1 p1) p2)) p3) p ∧ (chkE T c a y) = true := by
  cases x with
  | Subscript y z p =>
    cases z with
    | Slice l hh st p1 =>
      cases l with
      | some _ => cases h
      | none =>
        cases hh with
        | some _ => cases h
        | none =>
          cases st with
          | none => cases h
          | some w =>
            cases w with
            | UnaryOp o v q =>
              cases o with
              | USub =>
                cases v with
                | Constant cc n0 q2 =>
                  cases cc with
                  | int j =>
                    have h' : (decide (j = 1) && chkE T c a y) = true := h
                    rw [Bool.and_eq_true, decide_eq_true_eq] at h'
                    obtain ⟨rfl, h2⟩ := h'
                    exact ⟨_, _, _, _, _, _, rfl, h2⟩
                  | _ => cases h
                | _ => cases h
              | _ => cases h
            | _ => cases h
    | _ => cases h
  | _ => cases h
theorem inv_mth {T : Txt} {c : Ck} {m : Mth} {o : E} {es : Es} {x : Expr} (h : chkE T c (.mth m o es) x = true) : ∃ y n apos xs cpos, x = .Call (.Attribute y n apos) xs [] cpos ∧ (decide (n = mthName m) && (apos.endLine == cpos.line) && notCall y && decide (xs.length < 29) && chkE T c o y && chkEs T c es xs) = true := by
  cases x with
  | Call g xs kws p =>
    cases g with
    | Attribute y n apos =>
      cases kws with
      | nil => exact ⟨_, _, _, _, _, rfl, h⟩
      | cons _ _ => cases h
    | _ => cases h
  | _ => cases h
end Wk

set_option Elab.async false
set_option linter.all false
set_option maxRecDepth 100000
set_option maxHeartbeats 4000000
namespace Wk
open PySem PySem.Spec PyProof.Rows L2

section
variable {T : Txt} {k : Nat} {c : Ck} {X : Cx}
abbrev XO (T : Txt) (k : Nat) (c : Ck) (X : Cx) : Prop := XOk T k c.N c.sc c.so X
noncomputable abbrev tstE (T : Txt) (k : Nat) (e : E) : Env → Sto → Res Bool := fun env S => (evE (T.run k) T.shp e env S).bind fun d S1 => ofO (truth S1 d) S1
def GE (T : Txt) (k : Nat) (e : E) : Prop := ∀ (x : Expr) (c : Ck) (X : Cx), XO T k c X → chkE T c e x = true →
  PE X x (L X.K (RV X.K) (evE (T.run k) T.shp e)) ∧ PT X x (L X.K rEq (tstE T k e))

/-! ### small facts of a context -/
theorem XOk.vis {i : Nat} {y : Str} (x : XO T k c X) (h : visB c.sc y = true) : Vis X.env.scope y := by
  rw [x.eS]
  unfold visB at h
  unfold Vis
  split at h <;> first | (rename_i e; first | exact .inl e | exact .inr (.inl e) | exact .inr (.inr e)) | cases h
theorem XOk.glo {y : Str} (x : XO T k c X) (h : gloB c.sc y = true) : Gl X y := by
  unfold gloB at h
  show X.env.scope.names.lookup y = some .globalImplicit
  rw [x.eS]
  split at h <;> first | assumption | cases h
theorem nm_of {y : Str} (h : nmB y = true) : (y == ("__debug__" : Str)) = false ∧ (y == ("__classdict__" : Str)) = false ∧ y ≠ ("__name__" : Str) := by
  unfold nmB at h
  rw [Bool.and_eq_true, Bool.and_eq_true, decide_eq_true_eq] at h
  exact ⟨by simpa using h.1.1, by simpa using h.1.2, h.2⟩
theorem XOk.ndX (x : XO T k c X) : X.N.Nodup := by rw [x.eN]; exact x.nd
theorem XOk.never (x : XO T k c X) : PassesOwn (model X.prog X.w) X.A X.env X.xe := by rw [x.xe]; exact PassesOwn.never
theorem room_gu (x : XO T k c X) : X.A.units + 100 < cLine := by have := x.room.un; omega
def tsB : Expr → Bool
  | .UnaryOp .Not _ _ => false | .BoolOp _ _ _ => false | .IfExp _ _ _ _ => false | .Compare _ _ _ _ => false | _ => true
theorem isTrue_plain_he {a : Expr} {env : PySem.Env} (h : tsB a = true) :
    ∀ whole, isTrue a env whole = (do let v ← whole; standAt a.pos; holding [v] (truthy v)) := by
  intro whole
  cases a with
  | UnaryOp op y p => cases op <;> first | rfl | cases h
  | BoolOp _ _ _ => cases h
  | IfExp _ _ _ _ => cases h
  | Compare _ _ _ _ => cases h
  | _ => rfl
/-- a test by its value's truth -/
theorem pt_of {x : Expr} {f : Env → Sto → Res D} (h : PE X x (L X.K (RV X.K) f)) (hp : tsB x = true) :
    PT X x (L X.K rEq fun env S => (f env S).bind fun d S1 => ofO (truth S1 d) S1) := by
  refine (pt_truth h (isTrue_plain_he hp)).imp fun σ H Q q => ?_
  obtain ⟨φ, S, env, R, re, o⟩ := L.step (R1 := RV X.K) (k := fun _ d S1 => ofO (truth S1 d) S1) q
  refine ⟨φ, S, env, R, re, wp_mono o fun d S1 q1 φ1 H1 v e1 R1 rv => ?_⟩
  obtain ⟨φ2, S2, env2, d2, R2, re2, rv2, o2⟩ := q1 φ1 H1 v e1 R1 rv
  cases e : truth S2 d2 with
  | none => rw [e] at o2; exact False.elim o2
  | some b =>
    rw [e] at o2
    exact ⟨b, truth_of R2 rv2 e, OutG.here o2 R2 rfl⟩
theorem L_no {α β : Type} {R1 : RR α β} {σ : L2.St} {H : Hp} {Q : β → Hp → Prop} {K : PySem.W.Frag} (h : L K R1 (fun _ _ => .no) σ H Q) : False := by
  obtain ⟨_, _, _, _, _, o⟩ := h
  exact o

/-! ### the forms, one by one -/
theorem ge_var (i : Nat) : GE T k (.var i) := by
  intro x c X hx h
  replace h := inv_var h
  obtain ⟨y, p, rfl, h⟩ := h
  · simp only [Bool.and_eq_true, decide_eq_true_eq] at h
    obtain ⟨⟨h1, h2⟩, h3⟩ := h
    obtain ⟨n1, n2, _⟩ := nm_of h3
    have pe : PE X (.Name y p) (L X.K (RV X.K) (evE (T.run k) T.shp (.var i))) := by
      refine (pe_var (i := i) (by rw [hx.eN]; exact h1) (hx.vis (i := i) h2) n1 n2).imp fun σ H Q ⟨φ, S, env, R, re, o⟩ => ?_
      have o : OutG X.K (RV X.K) φ S H (match env[i]? with | some (some d) => Res.ok d S | _ => .no) Q := o
      unfold OutG at o
      split at o
      · rename_i d e
        obtain ⟨v, e1, r⟩ := re.2 i d e
        exact ⟨v, e1, o φ H v .refl R r⟩
      · exact False.elim o
    exact ⟨pe, pt_of pe rfl⟩
theorem ge_int (i : Int) : GE T k (.int i) := by
  intro x c X hx h
  replace h := inv_int h
  obtain ⟨j, a, p, rfl, h⟩ := h
  · · have e : i = j := of_decide_eq_true h
      subst e
      have pe : PE X (.Constant (.int i) a p) (L X.K (RV X.K) (evE (T.run k) T.shp (.int i))) := pe_int.imp fun σ H Q ⟨φ, S, env, R, re, o⟩ => OutG.here o R (.int i)
      exact ⟨pe, pt_of pe rfl⟩
theorem ge_str (z : Str) : GE T k (.str z) := by
  intro x c X hx h
  replace h := inv_str h
  obtain ⟨j, a, p, rfl, h⟩ := h
  · · have e : z = j := of_decide_eq_true h
      subst e
      have pe : PE X (.Constant (.str z) a p) (L X.K (RV X.K) (evE (T.run k) T.shp (.str z))) := pe_str.imp fun σ H Q ⟨φ, S, env, R, re, o⟩ => OutG.here o R (.str z)
      exact ⟨pe, pt_of pe rfl⟩
theorem ge_bl (b : Bool) : GE T k (.bl b) := by
  intro x c X hx h
  replace h := inv_bl h
  obtain ⟨j, a, p, rfl, h⟩ := h
  · · have e : b = j := of_decide_eq_true h
      subst e
      have pe : PE X (.Constant (.bool b) a p) (L X.K (RV X.K) (evE (T.run k) T.shp (.bl b))) := pe_bl.imp fun σ H Q ⟨φ, S, env, R, re, o⟩ => OutG.here o R (.bl b)
      exact ⟨pe, pt_of pe rfl⟩
theorem ge_non : GE T k .non := by
  intro x c X hx h
  replace h := inv_non h
  obtain ⟨a, p, rfl, h⟩ := h
  · · have pe : PE X (.Constant .none a p) (L X.K (RV X.K) (evE (T.run k) T.shp .non)) := pe_non.imp fun σ H Q ⟨φ, S, env, R, re, o⟩ => OutG.here o R .non
      exact ⟨pe, pt_of pe rfl⟩
theorem ge_glob (i : Nat) : GE T k (.glob i) := by
  intro x c X hx h
  replace h := inv_glob h
  obtain ⟨y, p, rfl, h⟩ := h
  · simp only [Bool.and_eq_true] at h
    obtain ⟨⟨h1, h2⟩, h3⟩ := h
    obtain ⟨n1, n2, _⟩ := nm_of h3
    cases e : T.cs[i]? with
    | none => rw [e] at h1; cases h1
    | some q =>
      rw [e] at h1
      have e2 : q.1 = y := of_decide_eq_true h1
      obtain ⟨v, u, m, r, cv⟩ := hx.nms.cst i q.1 q.2 e
      have pe : PE X (.Name y p) (L X.K (RV X.K) (evE (T.run k) T.shp (.glob i))) := by
        refine (pe_glob (hx.glo h2) (by rw [← e2]; exact m) r n1).imp fun σ H Q ⟨φ, S, env, R, re, o⟩ => ?_
        have o' : OutG X.K (RV X.K) φ S H (.ok (T.shp.cst i) S) Q := o
        have ec : T.shp.cst i = q.2 := by unfold Txt.shp; simp only [e]
        rw [ec] at o'
        exact OutG.here o' R (cv _ _ _)
      exact ⟨pe, pt_of pe rfl⟩
theorem ge_bin {op : BOp} {a b : E} (ha : GE T k a) (hb : GE T k b) : GE T k (.bin op a b) := by
  intro x c X hx h
  replace h := inv_bin h
  obtain ⟨y, o, z, p, rfl, h⟩ := h
  · simp only [Bool.and_eq_true, decide_eq_true_eq] at h
    obtain ⟨⟨rfl, h1⟩, h2⟩ := h
    have pe : PE X (.BinOp y (opOf op) z p) (L X.K (RV X.K) (evE (T.run k) T.shp (.bin op a b))) := by
      refine (pe_op (op_bin op) (ha y c X hx h1).1 (hb z c X hx h2).1).imp fun σ H Q q => ?_
      obtain ⟨φ, S, env, R, re, o⟩ := L.step2 (R1 := RV X.K) (R2 := RV X.K) (g := fun env _ S1 => evE (T.run k) T.shp b env S1) (k := fun _ x y S2 => binop op x y S2) mono_rv q
      refine ⟨φ, S, env, R, re, wp_mono o fun d S1 q1 φ1 H1 v e1 R1 rv => ?_⟩
      obtain ⟨φ2, S2, env2, d2, R2, re2, rv2, o2⟩ := q1 φ1 H1 v e1 R1 rv
      refine ⟨φ2, S2, env2, R2, re2, wp_mono o2 fun d3 S3 q3 φ3 H3 v3 e3 R3 rv3 => ?_⟩
      obtain ⟨φ4, S4, d4, R4, _, r1, r2, o4⟩ := q3 φ3 H3 v3 e3 R3 rv3
      exact ⟨φ4, S4, d2, d4, R4, r1, r2, o4⟩
    exact ⟨pe, pt_of pe rfl⟩
theorem ge_neg {a : E} (ha : GE T k a) : GE T k (.neg a) := by
  intro x c X hx h
  replace h := inv_neg h
  obtain ⟨y, p, rfl, h⟩ := h
  · · have pe : PE X (.UnaryOp .USub y p) (L X.K (RV X.K) (evE (T.run k) T.shp (.neg a))) := by
        refine (pe_un un_neg (ha y c X hx h).1).imp fun σ H Q q => ?_
        obtain ⟨φ, S, env, R, re, o⟩ := L.step (R1 := RV X.K) (k := fun _ x S1 => match x with | .int i => Res.ok (D.int (-i)) S1 | _ => .no) q
        refine ⟨φ, S, env, R, re, wp_mono o fun d S1 q1 φ1 H1 v e1 R1 rv => ?_⟩
        obtain ⟨φ2, S2, env2, d2, R2, re2, rv2, o2⟩ := q1 φ1 H1 v e1 R1 rv
        cases rv2 with
        | int i => exact ⟨i, rfl, OutG.here o2 R2 (.int _)⟩
        | _ => exact False.elim o2
      exact ⟨pe, pt_of pe rfl⟩
theorem ge_not {a : E} (ha : GE T k a) : GE T k (.not a) := by
  intro x c X hx h
  replace h := inv_not h
  obtain ⟨y, p, rfl, h⟩ := h
  · · have h' : chkE T c a y = true := h
      refine ⟨(pe_notT (ha y c X hx h').1).imp fun σ H Q q => ?_, (pt_not (ha y c X hx h').2).imp fun σ H Q q => ?_⟩
      · obtain ⟨φ, S, env, R, re, o⟩ := L.step (R1 := RV X.K) (k := fun _ x S1 => ofO ((truth S1 x).map fun b => D.bl (!b)) S1) q
        refine ⟨φ, S, env, R, re, wp_mono o fun d S1 q1 φ1 H1 v e1 R1 rv => ?_⟩
        obtain ⟨φ2, S2, env2, d2, R2, re2, rv2, o2⟩ := q1 φ1 H1 v e1 R1 rv
        cases e : truth S2 d2 with
        | none => rw [e] at o2; exact False.elim o2
        | some b =>
          rw [e] at o2
          exact ⟨b, truth_of R2 rv2 e, OutG.here o2 R2 (.bl _)⟩
      · obtain ⟨φ, S, env, R, re, o⟩ := q
        refine ⟨φ, S, env, R, re, ?_⟩
        have o : (((evE (T.run k) T.shp a env S).bind fun x S1 => ofO ((truth S1 x).map fun b => D.bl (!b)) S1).bind fun d S1 => ofO (truth S1 d) S1).wp fun b S' => ∀ φ' H' b', Ext X.K φ S H φ' S' H' → Rel X.K φ' S' H' → b' = b → Q b' H' := o
        show ((evE (T.run k) T.shp a env S).bind fun d S1 => ofO (truth S1 d) S1).wp _
        rw [wp_bind, wp_bind] at o
        rw [wp_bind]
        refine wp_mono o fun d S1 w1 => ?_
        cases e : truth S1 d with
        | none => rw [e] at w1; exact False.elim w1
        | some b =>
          rw [e] at w1
          have w2 : ∀ φ' H' b', Ext X.K φ S H φ' S1 H' → Rel X.K φ' S1 H' → b' = !b → Q b' H' := w1
          exact fun φ' H' b' e' R' eb => by subst eb; exact w2 φ' H' _ e' R' rfl
theorem cmp_bl {op : COp} {a b d : D} {S S' : Sto} (h : cmpop op a b S = .ok d S') : ∃ t, d = .bl t := by
  unfold cmpop at h
  cases op with
  | eq => cases e : eqD S a b <;> rw [e] at h <;> cases h; exact ⟨_, rfl⟩
  | ne => cases e : eqD S a b <;> rw [e] at h <;> cases h; exact ⟨_, rfl⟩
  | lt => dsimp only at h; split at h <;> cases h <;> exact ⟨_, rfl⟩
  | le => dsimp only at h; split at h <;> cases h <;> exact ⟨_, rfl⟩
  | gt => dsimp only at h; split at h <;> cases h <;> exact ⟨_, rfl⟩
  | ge => dsimp only at h; split at h <;> cases h <;> exact ⟨_, rfl⟩
  | isN => dsimp only at h; split at h <;> cases h <;> exact ⟨_, rfl⟩
  | notN => dsimp only at h; split at h <;> cases h <;> exact ⟨_, rfl⟩
  | isin => dsimp only at h; split at h <;> (try split at h) <;> cases h <;> exact ⟨_, rfl⟩
  | notin => dsimp only at h; split at h <;> (try split at h) <;> cases h <;> exact ⟨_, rfl⟩
theorem bind_inv {α β : Type} {r : Res α} {f : α → Sto → Res β} {b : β} {S : Sto} (h : r.bind f = .ok b S) : ∃ a S1, r = .ok a S1 ∧ f a S1 = .ok b S := by
  cases r with
  | ok a S1 => exact ⟨a, S1, rfl, h⟩
  | no => cases h
/-- a test of what is always a truth -/
theorem L_bl {f : Env → Sto → Res D} {σ : L2.St} {H : Hp} {Q : Bool → Hp → Prop} (hf : ∀ env S d S', f env S = .ok d S' → ∃ t, d = .bl t)
    (q : L X.K rEq (fun env S => (f env S).bind fun d S1 => ofO (truth S1 d) S1) σ H Q) : L X.K (RV X.K) f σ H fun x H' => ∃ b, x = .bl b ∧ Q b H' := by
  obtain ⟨φ, S, env, R, re, o⟩ := q
  refine ⟨φ, S, env, R, re, ?_⟩
  have o : ((f env S).bind fun d S1 => ofO (truth S1 d) S1).wp fun a S' => ∀ φ' H' b, Ext X.K φ S H φ' S' H' → Rel X.K φ' S' H' → b = a → Q b H' := o
  unfold OutG
  cases e : f env S with
  | no => rw [e] at o; exact False.elim o
  | ok d S1 =>
    rw [e] at o
    obtain ⟨t, rfl⟩ := hf env S d S1 e
    intro φ' H' v e' R' rv
    cases rv
    exact ⟨t, rfl, o φ' H' _ e' R' rfl⟩
theorem ge_cmp {op : COp} {a b : E} (ha : GE T k a) (hb : GE T k b) : GE T k (.cmp op a b) := by
  intro x c X hx h
  replace h := inv_cmp h
  obtain ⟨y, o, z, p, rfl, h⟩ := h
  · · · simp only [Bool.and_eq_true, decide_eq_true_eq, Bool.not_eq_true'] at h
        obtain ⟨⟨⟨rfl, hm⟩, h1⟩, h2⟩ := h
        have hu := (hx.room).units
        have step : ∀ σ H (Q : VK), L X.K (RV X.K) (evE (T.run k) T.shp (.cmp op a b)) σ H Q → tOp (rC X.K op) (L X.K (RV X.K) (evE (T.run k) T.shp a)) (L X.K (RV X.K) (evE (T.run k) T.shp b)) σ H Q := fun σ H Q q => by
          obtain ⟨φ, S, env, R, re, o⟩ := L.step2 (R1 := RV X.K) (R2 := RV X.K) (g := fun env _ S1 => evE (T.run k) T.shp b env S1) (k := fun _ x y S2 => cmpop op x y S2) mono_rv q
          refine ⟨φ, S, env, R, re, wp_mono o fun d S1 q1 φ1 H1 v e1 R1 rv => ?_⟩
          obtain ⟨φ2, S2, env2, d2, R2, re2, rv2, o2⟩ := q1 φ1 H1 v e1 R1 rv
          refine ⟨φ2, S2, env2, R2, re2, wp_mono o2 fun d3 S3 q3 φ3 H3 v3 e3 R3 rv3 => ?_⟩
          obtain ⟨φ4, S4, d4, R4, _, r1, r2, o4⟩ := q3 φ3 H3 v3 e3 R3 rv3
          exact ⟨φ4, S4, d2, d4, R4, r1, r2, o4⟩
        refine ⟨(pe_cmpR (op_cmp op hu) (ha y c X hx h1).1 (hb z c X hx h2).1 hm).imp step, (pt_cmpR (op_cmp op hu) (ha y c X hx h1).1 (hb z c X hx h2).1 hm).imp fun σ H Q q => step σ H _ (L_bl (fun env S d S' e => ?_) q)⟩
        have e : ((evE (T.run k) T.shp a env S).bind fun x S1 => (evE (T.run k) T.shp b env S1).bind fun y S2 => cmpop op x y S2) = .ok d S' := e
        obtain ⟨d1, S1, e1, e⟩ := bind_inv e
        obtain ⟨d2, S2, e2, e⟩ := bind_inv e
        exact cmp_bl e
theorem ge_chain {o1 o2 : COp} {a b d : E} (ha : GE T k a) (hb : GE T k b) (hd : GE T k d) : GE T k (.chain o1 o2 a b d) := by
  intro x c X hx h
  replace h := inv_chain h
  obtain ⟨y, p1, p2, z, w, p, rfl, h⟩ := h
  · · · simp only [Bool.and_eq_true, decide_eq_true_eq, Bool.not_eq_true'] at h
        obtain ⟨⟨⟨⟨⟨rfl, rfl⟩, hm⟩, h1⟩, h2⟩, h3⟩ := h
        have hu := (hx.room).units
        have step : ∀ σ H (Q : VK), L X.K (RV X.K) (evE (T.run k) T.shp (.chain o1 o2 a b d)) σ H Q → tChain (rC X.K o1) (rC X.K o2) (L X.K (RV X.K) (evE (T.run k) T.shp a)) (L X.K (RV X.K) (evE (T.run k) T.shp b)) (L X.K (RV X.K) (evE (T.run k) T.shp d)) σ H Q := fun σ H Q q => by
          obtain ⟨φ, S, env, R, re, o⟩ := L.step2 (R1 := RV X.K) (R2 := RV X.K) (g := fun env _ S1 => evE (T.run k) T.shp b env S1)
            (k := fun env x y S2 => (cmpop o1 x y S2).bind fun r S3 => match r with | .bl true => (evE (T.run k) T.shp d env S3).bind fun z S4 => cmpop o2 y z S4 | .bl false => .ok (.bl false) S3 | _ => .no) mono_rv q
          refine ⟨φ, S, env, R, re, wp_mono o fun d1 S1 q1 φ1 H1 v e1 R1 rv => ?_⟩
          obtain ⟨φ2, S2, env2, d2, R2, re2, rv2, o2'⟩ := q1 φ1 H1 v e1 R1 rv
          refine ⟨φ2, S2, env2, R2, re2, wp_mono o2' fun d3 S3 q3 φ3 H3 v3 e3 R3 rv3 => ?_⟩
          obtain ⟨φ4, S4, d4, R4, re4, r1, r2, o4⟩ := q3 φ3 H3 v3 e3 R3 rv3
          refine ⟨φ4, S4, d2, d4, R4, r1, r2, wp_mono (OutG.bind (R1 := RV X.K) o4) fun d5 S5 q5 φ5 H5 v5 e5 R5 rv5 => ?_⟩
          obtain ⟨φ6, S6, d6, e6, R6, r6, o6⟩ := q5 φ5 H5 v5 e5 R5 rv5
          cases r6 with
          | bl t =>
            refine ⟨t, rfl, ?_⟩
            cases t with
            | false => exact OutG.here o6 R6 (.bl false)
            | true =>
              refine ⟨φ6, S6, env2, R6, re4.mono e6, wp_mono (OutG.bind (R1 := RV X.K) o6) fun d7 S7 q7 φ7 H7 v7 e7 R7 rv7 => ?_⟩
              obtain ⟨φ8, S8, d8, e8, R8, r8, o8⟩ := q7 φ7 H7 v7 e7 R7 rv7
              exact ⟨φ8, S8, d4, d8, R8, (r2.mono e6).mono e8, r8, o8⟩
          | _ => exact False.elim o6
        refine ⟨(pe_chain (op_cmp o1 hu) (op_cmp o2 hu) (ha y c X hx h1).1 (hb z c X hx h2).1 (hd w c X hx h3).1 hm).imp step,
          (pt_chain (op_cmp o1 hu) (op_cmp o2 hu) (ha y c X hx h1).1 (hb z c X hx h2).1 (hd w c X hx h3).1 hm).imp fun σ H Q q => step σ H _ (L_bl (fun env S d' S' e => ?_) q)⟩
        have e : ((evE (T.run k) T.shp a env S).bind fun x S1 => (evE (T.run k) T.shp b env S1).bind fun y S2 => (cmpop o1 x y S2).bind fun r S3 => match r with | .bl true => (evE (T.run k) T.shp d env S3).bind fun z S4 => cmpop o2 y z S4 | .bl false => .ok (.bl false) S3 | _ => .no) = .ok d' S' := e
        obtain ⟨d1, S1, e1, e⟩ := bind_inv e
        obtain ⟨d2, S2, e2, e⟩ := bind_inv e
        obtain ⟨d3, S3, e3, e⟩ := bind_inv e
        split at e
        · obtain ⟨d4, S4, e4, e⟩ := bind_inv e
          exact cmp_bl e
        · cases e; exact ⟨_, rfl⟩
        · cases e
theorem ge_ite {t a b : E} (ht : GE T k t) (ha : GE T k a) (hb : GE T k b) : GE T k (.ite t a b) := by
  intro x c X hx h
  replace h := inv_ite h
  obtain ⟨w, y, z, p, rfl, h⟩ := h
  · simp only [Bool.and_eq_true] at h
    obtain ⟨⟨h1, h2⟩, h3⟩ := h
    have step : ∀ {α β : Type} {R1 : RR α β} {fa fb : Env → Sto → Res α} (σ : L2.St) (H : Hp) (Q : β → Hp → Prop), L X.K R1 (fun env S => (evE (T.run k) T.shp t env S).bind fun x S1 => match truth S1 x with | some true => fa env S1 | some false => fb env S1 | none => .no) σ H Q →
        L X.K rEq (tstE T k t) σ H fun d H1 => if d = true then L X.K R1 fa σ H1 Q else L X.K R1 fb σ H1 Q := fun {α β R1 fa fb} σ H Q q => by
      obtain ⟨φ, S, env, R, re, o⟩ := L.step (R1 := RV X.K) (k := fun env x S1 => match truth S1 x with | some true => fa env S1 | some false => fb env S1 | none => .no) q
      obtain ⟨φ, S, env, R, re, o⟩ := q
      refine ⟨φ, S, env, R, re, ?_⟩
      have o : ((evE (T.run k) T.shp t env S).bind fun x S1 => match truth S1 x with | some true => fa env S1 | some false => fb env S1 | none => .no).wp fun a S' => ∀ φ' H' b, Ext X.K φ S H φ' S' H' → Rel X.K φ' S' H' → R1 φ' S'.length H' a b → Q b H' := o
      show ((evE (T.run k) T.shp t env S).bind fun d S1 => ofO (truth S1 d) S1).wp _
      rw [wp_bind] at o ⊢
      refine wp_mono o fun d S1 w1 => ?_
      cases e : truth S1 d with
      | none => rw [e] at w1; exact False.elim w1
      | some b =>
        rw [e] at w1
        intro φ' H' b' e' R' eb
        subst eb
        cases b' with
        | true => exact iteT ⟨φ', S1, env, R', re.mono e', wp_mono w1 fun d2 S2 w2 φ2 H2 v2 e2 => w2 φ2 H2 v2 (e'.trans e2)⟩
        | false => exact iteF ⟨φ', S1, env, R', re.mono e', wp_mono w1 fun d2 S2 w2 φ2 H2 v2 e2 => w2 φ2 H2 v2 (e'.trans e2)⟩
    refine ⟨(pe_ifExp (ht w c X hx h1).2 (ha y c X hx h2).1 (hb z c X hx h3).1).imp fun σ H Q q => step σ H Q q, ⟨fun pins s σ H Q I q => ?_⟩⟩
    have q' : L X.K rEq (fun env S => (evE (T.run k) T.shp t env S).bind fun x S1 => match truth S1 x with | some true => tstE T k a env S1 | some false => tstE T k b env S1 | none => .no) σ H Q := by
      obtain ⟨φ, S, env, R, re, o⟩ := q
      refine ⟨φ, S, env, R, re, ?_⟩
      have o : (((evE (T.run k) T.shp t env S).bind fun x S1 => match truth S1 x with | some true => evE (T.run k) T.shp a env S1 | some false => evE (T.run k) T.shp b env S1 | none => .no).bind fun d S1 => ofO (truth S1 d) S1).wp fun b S' => ∀ φ' H' b', Ext X.K φ S H φ' S' H' → Rel X.K φ' S' H' → b' = b → Q b' H' := o
      show ((evE (T.run k) T.shp t env S).bind fun x S1 => match truth S1 x with | some true => tstE T k a env S1 | some false => tstE T k b env S1 | none => .no).wp _
      rw [wp_bind, wp_bind] at o
      rw [wp_bind]
      refine wp_mono o fun d S1 w1 => ?_
      cases e : truth S1 d with
      | none => rw [e] at w1; exact False.elim w1
      | some b =>
        rw [e] at w1
        cases b <;> (simp only [wp_bind]; exact w1)
    have q2 := step σ H Q q'
    show wpAny (model X.prog X.w) X.A (PySem.isTrue (.IfExp w y z p) X.env (eval (.IfExp w y z p) X.env)) (TP X pins σ Q) X.xe s
    rw [PySem.isTrue]
    refine wpAny_bind (thn ((ht w c X hx h1).2.run pins s σ H _ I q2) fun d s1 ⟨H1, I1, q1⟩ => ?_)
    cases d with
    | true => exact (ha y c X hx h2).2.run pins s1 σ H1 Q I1 q1
    | false => exact (hb z c X hx h3).2.run pins s1 σ H1 Q I1 q1
end
end Wk

set_option Elab.async false
set_option linter.all false
set_option maxRecDepth 100000
set_option maxHeartbeats 4000000
namespace Wk
open PySem PySem.Spec PyProof.Rows L2

section
variable {T : Txt} {k : Nat} {c : Ck} {X : Cx}
/-- lists of expressions: as arguments, as operands of and, or, as keywords' values -/
structure GEs (T : Txt) (k : Nat) (es : Es) : Prop where
  pa : ∀ (xs : List Expr) (c : Ck) (X : Cx), XO T k c X → chkEs T c es xs = true → PA X xs (L X.K (RVs X.K) (evEs (T.run k) T.shp es))
  and : ∀ (xs : List Expr) (pos : Pos) (c : Ck) (X : Cx), XO T k c X → chkEs T c es xs = true →
    PE X (.BoolOp .And xs pos) (L X.K (RV X.K) (evAnd (T.run k) T.shp es)) ∧ PW X (.BoolOp .And xs pos) (L X.K rEq fun env S => (evAnd (T.run k) T.shp es env S).bind fun d S1 => ofO (truth S1 d) S1)
  or : ∀ (xs : List Expr) (pos : Pos) (c : Ck) (X : Cx), XO T k c X → chkEs T c es xs = true →
    PE X (.BoolOp .Or xs pos) (L X.K (RV X.K) (evOr (T.run k) T.shp es)) ∧ PW X (.BoolOp .Or xs pos) (L X.K rEq fun env S => (evOr (T.run k) T.shp es env S).bind fun d S1 => ofO (truth S1 d) S1)
  kw : ∀ (ks : List Keyword) (c : Ck) (X : Cx), XO T k c X → chkKs T c es ks = true → PK X ks (L X.K (RVs X.K) (evEs (T.run k) T.shp es))
def GO (T : Txt) (k : Nat) (o : Oe) : Prop := ∀ (x : Option Expr) (c : Ck) (X : Cx), XO T k c X → chkO T c o x = true → PO X x (L X.K rEq (evO (T.run k) T.shp o))

/-! ### and, or -/
theorem L_map {α β γ δ : Type} {K : PySem.W.Frag} {R1 : RR α β} {R2 : RR γ δ} {f : Env → Sto → Res α} {g : Env → Sto → Res γ} {σ : L2.St} {H : Hp} {Q : β → Hp → Prop} {Q' : δ → Hp → Prop}
    (h : ∀ φ S env, Rel K φ S H → RE K φ S.length H env σ → OutG K R1 φ S H (f env S) Q → OutG K R2 φ S H (g env S) Q') (q : L K R1 f σ H Q) : L K R2 g σ H Q' := by
  obtain ⟨φ, S, env, R, re, o⟩ := q
  exact ⟨φ, S, env, R, re, h φ S env R re o⟩
theorem and_step {e : E} {f : Env → Sto → Res D} {σ : L2.St} {H : Hp} {Q : VK}
    (q : L X.K (RV X.K) (fun env S => (evE (T.run k) T.shp e env S).bind fun x S1 => match x with | .bl true => f env S1 | .bl false => .ok (.bl false) S1 | _ => .no) σ H Q) :
    tAndV (L X.K (RV X.K) (evE (T.run k) T.shp e)) (L X.K (RV X.K) f) σ H Q := by
  obtain ⟨φ, S, env, R, re, o⟩ := L.step (R1 := RV X.K) (k := fun env x S1 => match x with | D.bl true => f env S1 | .bl false => .ok (.bl false) S1 | _ => .no) q
  refine ⟨φ, S, env, R, re, wp_mono o fun d S1 q1 φ1 H1 v e1 R1 rv => ?_⟩
  obtain ⟨φ2, S2, env2, d2, R2, re2, rv2, o2⟩ := q1 φ1 H1 v e1 R1 rv
  cases rv2 with
  | bl t =>
    refine ⟨t, rfl, ?_⟩
    cases t with
    | true => exact iteT ⟨φ2, S2, env2, R2, re2, o2⟩
    | false => exact iteF (OutG.here o2 R2 (.bl false))
  | _ => exact False.elim o2
theorem or_step {e : E} {f : Env → Sto → Res D} {σ : L2.St} {H : Hp} {Q : VK}
    (q : L X.K (RV X.K) (fun env S => (evE (T.run k) T.shp e env S).bind fun x S1 => match x with | .bl true => .ok (.bl true) S1 | .bl false => f env S1 | _ => .no) σ H Q) :
    tOrV (L X.K (RV X.K) (evE (T.run k) T.shp e)) (L X.K (RV X.K) f) σ H Q := by
  obtain ⟨φ, S, env, R, re, o⟩ := L.step (R1 := RV X.K) (k := fun env x S1 => match x with | D.bl true => .ok (.bl true) S1 | .bl false => f env S1 | _ => .no) q
  refine ⟨φ, S, env, R, re, wp_mono o fun d S1 q1 φ1 H1 v e1 R1 rv => ?_⟩
  obtain ⟨φ2, S2, env2, d2, R2, re2, rv2, o2⟩ := q1 φ1 H1 v e1 R1 rv
  cases rv2 with
  | bl t =>
    refine ⟨t, rfl, ?_⟩
    cases t with
    | true => exact iteT (OutG.here o2 R2 (.bl true))
    | false => exact iteF ⟨φ2, S2, env2, R2, re2, o2⟩
  | _ => exact False.elim o2
/-- the same as tests -/
theorem andT_step {e : E} {f : Env → Sto → Res D} {σ : L2.St} {H : Hp} {Q : Bool → Hp → Prop}
    (q : L X.K rEq (fun env S => ((evE (T.run k) T.shp e env S).bind fun x S1 => match x with | .bl true => f env S1 | .bl false => .ok (.bl false) S1 | _ => .no).bind fun d S1 => ofO (truth S1 d) S1) σ H Q) :
    tAnd (L X.K rEq (tstE T k e)) (L X.K rEq fun env S => (f env S).bind fun d S1 => ofO (truth S1 d) S1) σ H Q := by
  obtain ⟨φ, S, env, R, re, o⟩ := q
  refine ⟨φ, S, env, R, re, ?_⟩
  have o : (((evE (T.run k) T.shp e env S).bind fun x S1 => match x with | D.bl true => f env S1 | .bl false => .ok (.bl false) S1 | _ => .no).bind fun d S1 => ofO (truth S1 d) S1).wp fun b S' => ∀ φ' H' b', Ext X.K φ S H φ' S' H' → Rel X.K φ' S' H' → b' = b → Q b' H' := o
  show ((evE (T.run k) T.shp e env S).bind fun d S1 => ofO (truth S1 d) S1).wp _
  rw [wp_bind, wp_bind] at o
  rw [wp_bind]
  refine wp_mono o fun d S1 w1 => ?_
  cases d with
  | bl t =>
    intro φ' H' b' e' R' eb
    subst eb
    cases b' with
    | true => exact iteT ⟨φ', S1, env, R', re.mono e', by
        show ((f env S1).bind fun d S1 => ofO (truth S1 d) S1).wp _
        have w1 : (f env S1).wp _ := w1
        rw [wp_bind]
        refine wp_mono w1 fun d2 S2 w2 => wp_mono w2 fun b2 S3 w3 φ3 H3 b3 e3 => w3 φ3 H3 b3 (e'.trans e3)⟩
    | false => exact iteF (w1 φ' H' _ e' R' rfl)
  | _ => exact False.elim w1
theorem orT_step {e : E} {f : Env → Sto → Res D} {σ : L2.St} {H : Hp} {Q : Bool → Hp → Prop}
    (q : L X.K rEq (fun env S => ((evE (T.run k) T.shp e env S).bind fun x S1 => match x with | .bl true => .ok (.bl true) S1 | .bl false => f env S1 | _ => .no).bind fun d S1 => ofO (truth S1 d) S1) σ H Q) :
    tOr (L X.K rEq (tstE T k e)) (L X.K rEq fun env S => (f env S).bind fun d S1 => ofO (truth S1 d) S1) σ H Q := by
  obtain ⟨φ, S, env, R, re, o⟩ := q
  refine ⟨φ, S, env, R, re, ?_⟩
  have o : (((evE (T.run k) T.shp e env S).bind fun x S1 => match x with | D.bl true => .ok (.bl true) S1 | .bl false => f env S1 | _ => .no).bind fun d S1 => ofO (truth S1 d) S1).wp fun b S' => ∀ φ' H' b', Ext X.K φ S H φ' S' H' → Rel X.K φ' S' H' → b' = b → Q b' H' := o
  show ((evE (T.run k) T.shp e env S).bind fun d S1 => ofO (truth S1 d) S1).wp _
  rw [wp_bind, wp_bind] at o
  rw [wp_bind]
  refine wp_mono o fun d S1 w1 => ?_
  cases d with
  | bl t =>
    intro φ' H' b' e' R' eb
    subst eb
    cases b' with
    | true => exact iteT (w1 φ' H' _ e' R' rfl)
    | false => exact iteF ⟨φ', S1, env, R', re.mono e', by
        show ((f env S1).bind fun d S1 => ofO (truth S1 d) S1).wp _
        have w1 : (f env S1).wp _ := w1
        rw [wp_bind]
        refine wp_mono w1 fun d2 S2 w2 => wp_mono w2 fun b2 S3 w3 φ3 H3 b3 e3 => w3 φ3 H3 b3 (e'.trans e3)⟩
  | _ => exact False.elim w1
theorem chkEs_star : ∀ {es : Es} {xs : List Expr}, chkEs T c es xs = true → xs.all notStar = true
  | .nil, [], _ => rfl
  | .nil, _ :: _, h => by cases h
  | .cons _ _, [], h => by cases h
  | .cons e es, x :: r, h => by
    have h' : (notStar x && chkE T c e x && chkEs T c es r) = true := h
    simp only [Bool.and_eq_true] at h'
    rw [List.all_cons, Bool.and_eq_true]
    exact ⟨h'.1.1, chkEs_star h'.2⟩
theorem ges_nil : GEs T k .nil := by
  refine ⟨fun xs c X hx h => ?_, fun xs pos c X hx h => ?_, fun xs pos c X hx h => ?_, fun ks c X hx h => ?_⟩
  · cases xs with
    | cons _ _ => cases h
    | nil => exact pa_nil.imp fun σ H Q ⟨φ, S, env, R, re, o⟩ => OutG.here o R .nil
  · exact ⟨⟨fun _ _ _ _ _ _ q => (L_no q).elim⟩, ⟨fun _ _ _ _ _ _ _ q => (L_no (R1 := rEq) q).elim⟩⟩
  · exact ⟨⟨fun _ _ _ _ _ _ q => (L_no q).elim⟩, ⟨fun _ _ _ _ _ _ _ q => (L_no (R1 := rEq) q).elim⟩⟩
  · cases ks with
    | cons _ _ => cases h
    | nil => exact pk_nil.imp fun σ H Q ⟨φ, S, env, R, re, o⟩ => OutG.here o R .nil
theorem cons_step {e : E} {es : Es} {σ : L2.St} {H : Hp} {Q : List V → Hp → Prop} (q : L X.K (RVs X.K) (evEs (T.run k) T.shp (.cons e es)) σ H Q) :
    tCons (L X.K (RV X.K) (evE (T.run k) T.shp e)) (L X.K (RVs X.K) (evEs (T.run k) T.shp es)) σ H Q := by
  obtain ⟨φ, S, env, R, re, o⟩ := L.step2 (R1 := RV X.K) (R2 := RVs X.K) (R3 := RVs X.K) (f := evE (T.run k) T.shp e) (g := fun env _ S1 => evEs (T.run k) T.shp es env S1) (k := fun _ x xs S2 => .ok (x :: xs) S2) mono_rv q
  refine ⟨φ, S, env, R, re, wp_mono o fun d S1 q1 φ1 H1 v e1 R1 rv => ?_⟩
  obtain ⟨φ2, S2, env2, d2, R2, re2, rv2, o2⟩ := q1 φ1 H1 v e1 R1 rv
  refine ⟨φ2, S2, env2, R2, re2, wp_mono o2 fun d3 S3 q3 φ3 H3 v3 e3 R3 rv3 => ?_⟩
  obtain ⟨φ4, S4, d4, R4, _, r1, r2, o4⟩ := q3 φ3 H3 v3 e3 R3 rv3
  exact OutG.here o4 R4 (.cons r1 r2)
theorem ges_cons {e : E} {es : Es} (he : GE T k e) (hs : GEs T k es) : GEs T k (.cons e es) := by
  have inv : ∀ {c : Ck} {xs : List Expr}, chkEs T c (.cons e es) xs = true → ∃ x r, xs = x :: r ∧ notStar x = true ∧ chkE T c e x = true ∧ chkEs T c es r = true := fun {c xs} h => by
    cases xs with
    | nil => cases h
    | cons x r =>
      have h' : (notStar x && chkE T c e x && chkEs T c es r) = true := h
      simp only [Bool.and_eq_true] at h'
      exact ⟨x, r, rfl, h'.1.1, h'.1.2, h'.2⟩
  refine ⟨fun xs c X hx h => ?_, fun xs pos c X hx h => ?_, fun xs pos c X hx h => ?_, fun ks c X hx h => ?_⟩
  · obtain ⟨x, r, rfl, h1, h2, h3⟩ := inv h
    exact (pa_cons (he x c X hx h2).1 (hs.pa r c X hx h3) (star_cons h1)).imp fun σ H Q q => cons_step q
  · obtain ⟨x, r, rfl, h1, h2, h3⟩ := inv h
    cases es with
    | nil =>
      cases r with
      | cons _ _ => cases h3
      | nil => exact ⟨pe_one (he x c X hx h2).1, pw_and1 (he x c X hx h2).2⟩
    | cons e2 es2 =>
      cases r with
      | nil => cases h3
      | cons y r2 =>
        obtain ⟨i1, i2⟩ := hs.and (y :: r2) pos c X hx h3
        exact ⟨(pe_and (he x c X hx h2).1 i1).imp fun σ H Q q => and_step q, (pw_and (he x c X hx h2).2 i2).imp fun σ H Q q => andT_step q⟩
  · obtain ⟨x, r, rfl, h1, h2, h3⟩ := inv h
    cases es with
    | nil =>
      cases r with
      | cons _ _ => cases h3
      | nil => exact ⟨pe_one (he x c X hx h2).1, pw_or1 (he x c X hx h2).2⟩
    | cons e2 es2 =>
      cases r with
      | nil => cases h3
      | cons y r2 =>
        obtain ⟨i1, i2⟩ := hs.or (y :: r2) pos c X hx h3
        exact ⟨(pe_or (he x c X hx h2).1 i1).imp fun σ H Q q => or_step q, (pw_or (he x c X hx h2).2 i2).imp fun σ H Q q => orT_step q⟩
  · cases ks with
    | nil => cases h
    | cons kw r =>
      obtain ⟨nm, x, p⟩ := kw
      have h' : (chkE T c e x && chkKs T c es r) = true := h
      simp only [Bool.and_eq_true] at h'
      exact (pk_cons (he x c X hx h'.1).1 (hs.kw r c X hx h'.2)).imp fun σ H Q q => cons_step q
theorem ge_and {es : Es} (hs : GEs T k es) : GE T k (.and es) := by
  intro x c X hx h
  replace h := inv_and h
  obtain ⟨xs, p, rfl, h⟩ := h
  obtain ⟨i1, i2⟩ := hs.and xs p c X hx h
  exact ⟨i1, i2.pt⟩
theorem ge_or {es : Es} (hs : GEs T k es) : GE T k (.or es) := by
  intro x c X hx h
  replace h := inv_or h
  obtain ⟨xs, p, rfl, h⟩ := h
  obtain ⟨i1, i2⟩ := hs.or xs p c X hx h
  exact ⟨i1, i2.pt⟩
theorem small_1000 {n : Nat} (h : n ≤ 1000) : n ≤ sizeLine := Nat.le_trans h (by decide)
theorem ge_tup {es : Es} (hs : GEs T k es) : GE T k (.tup es) := by
  intro x c X hx h
  replace h := inv_tup h
  obtain ⟨xs, a, p, rfl, h⟩ := h
  have pe : PE X (.Tuple xs a p) (L X.K (RV X.K) (evE (T.run k) T.shp (.tup es))) := by
    refine (pe_tup (hs.pa xs c X hx h)).imp fun σ H Q q => ?_
    obtain ⟨φ, S, env, R, re, o⟩ := L.step (R1 := RVs X.K) (k := fun _ ds S1 => if ds.length ≤ 1000 then Res.ok (D.tup ds) S1 else .no) q
    refine ⟨φ, S, env, R, re, wp_mono o fun d S1 q1 φ1 H1 v e1 R1 rv => ?_⟩
    obtain ⟨φ2, S2, env2, d2, R2, re2, rv2, o2⟩ := q1 φ1 H1 v e1 R1 rv
    split at o2
    · rename_i hz
      exact ⟨by rw [← rv2.length]; exact small_1000 hz, Out.tup o2 R2 rv2⟩
    · exact False.elim o2
  exact ⟨pe, pt_of pe rfl⟩
theorem ge_lst {es : Es} (hs : GEs T k es) : GE T k (.lst es) := by
  intro x c X hx h
  replace h := inv_lst h
  obtain ⟨xs, p, rfl, h⟩ := h
  have pe : PE X (.List xs p) (L X.K (RV X.K) (evE (T.run k) T.shp (.lst es))) := by
    refine (pe_lst (hs.pa xs c X hx h)).imp fun σ H Q q => ?_
    obtain ⟨φ, S, env, R, re, o⟩ := L.step (R1 := RVs X.K) (k := fun _ ds S1 => if ds.length ≤ 1000 then alloc S1 (.lst ds) else .no) q
    refine ⟨φ, S, env, R, re, wp_mono o fun d S1 q1 φ1 H1 v e1 R1 rv => ?_⟩
    obtain ⟨φ2, S2, env2, d2, R2, re2, rv2, o2⟩ := q1 φ1 H1 v e1 R1 rv
    split at o2
    · rename_i hz
      exact ⟨by rw [← rv2.length]; exact small_1000 hz, Out.alloc o2 R2 rv2⟩
    · exact False.elim o2
  exact ⟨pe, pt_of pe rfl⟩

/-! ### calls -/
theorem nms_dbg {y : Str} (h : nmB y = true) : (y == ("__debug__" : Str)) = false := (nm_of h).1
theorem ge_call {f : Nat} {es : Es} (hs : GEs T k es) : GE T k (.call f es) := by
  intro x c X hx h
  replace h := inv_call h
  obtain ⟨y, p1, xs, p, rfl, h⟩ := h
  simp only [Bool.and_eq_true] at h
  obtain ⟨⟨⟨h1, h2⟩, h3⟩, h4⟩ := h
  cases e : T.tab[f]? with
  | none => rw [e] at h1; cases h1
  | some fi =>
    rw [e] at h1
    have h1 : (decide (fi.name = y) && fi.plain) = true := h1
    rw [Bool.and_eq_true, decide_eq_true_eq] at h1
    obtain ⟨rfl, hp⟩ := h1
    obtain ⟨fa, fd, ok⟩ := hx.fns f fi e
    have pe : PE X (.Call (.Name fi.name p1) xs [] p) (L X.K (RV X.K) (evE (T.run k) T.shp (.call f es))) := by
      have fin : ∀ {σ : L2.St} {H : Hp} {Q : VK}, L X.K (RV X.K) (evE (T.run k) T.shp (.call f es)) σ H Q → tCall (spF T X.K k f fi.ps.length) [] E0 (L X.K (RVs X.K) (evEs (T.run k) T.shp es)) σ H Q := fun {σ H Q} q => by
        obtain ⟨φ, S, env, R, re, o⟩ := L.step (R1 := RVs X.K) (k := fun _ ds S1 => T.run k f ds S1) q
        refine ⟨φ, S, env, R, re, wp_mono o fun d S1 q1 φ1 H1 v e1 R1 rv => ?_⟩
        obtain ⟨φ2, S2, env2, d2, R2, re2, rv2, o2⟩ := q1 φ1 H1 v e1 R1 rv
        have hl : d2.length = fi.ps.length := by
          by_cases hl : d2.length = fi.ps.length
          · exact hl
          · exfalso
            have e3 : T.run k f d2 S2 = .no := by
              unfold Txt.run
              cases k with
              | zero => rfl
              | succ k =>
                unfold Wk.run
                rw [List.getElem?_map, e]
                exact if_neg hl
            have o2 : Out X.K φ2 S2 H1 (T.run k f d2 S2) _ := o2
            rw [e3] at o2
            exact o2
        rw [List.append_nil]
        exact ⟨φ2, S2, d2, R2, rv2, hl, o2⟩
      cases xs with
      | nil =>
        refine (pe_callG0 ok.fn hx.grd hx.room (hx.glo h2) ok.at_ ok.kp (ok.bd hp) (nms_dbg h3)).imp fun σ H Q q => ?_
        have q2 := fin q
        obtain ⟨φ, S, env, R, re, o⟩ := q2
        cases es with
        | cons _ _ => cases h4
        | nil => exact OutG.here o R .nil
      | cons x0 xs0 =>
        exact (pe_callG ok.fn hx.grd hx.room (hx.glo h2) ok.at_ ok.kp (ok.bd hp) (hs.pa _ c X hx h4) (chkEs_star h4) (nms_dbg h3)).imp fun σ H Q q => fin q
    exact ⟨pe, pt_of pe rfl⟩
end
end Wk

set_option Elab.async false
set_option linter.all false
set_option maxRecDepth 100000
set_option maxHeartbeats 4000000
namespace Wk
open PySem PySem.Spec PyProof.Rows L2

section
variable {T : Txt} {k : Nat} {c : Ck} {X : Cx}
theorem vals_getD {vs : List V} {us : List Value} (r : Vals vs us) {i : Nat} (h : i < vs.length) : RelV (vs.getD i .non) (us.getD i .none) := by
  have e : vs[i]? = some vs[i] := List.getElem?_eq_getElem h
  obtain ⟨u, hu, ru⟩ := r.get e
  rw [List.getD_eq_getElem?_getD, List.getD_eq_getElem?_getD, e, hu]
  exact ru
theorem rvs_getD {K : PySem.W.Frag} {φ : Nat → Addr} {n : Nat} {H : Hp} {ds : List D} {vs : List V} (r : RVs K φ n H ds vs) {i : Nat} (h : i < vs.length) : RV K φ n H (ds.getD i .non) (vs.getD i .non) := by
  have e : vs[i]? = some vs[i] := List.getElem?_eq_getElem h
  obtain ⟨u, hu, ru⟩ := r.get' e
  rw [List.getD_eq_getElem?_getD, List.getD_eq_getElem?_getD, e, hu]
  exact ru
theorem pick_len {α : Type} {d : α} {us ws cs : List α} : ∀ pk : List Pk, (pickG d us ws cs pk).length = pk.length
  | [] => rfl
  | .pos _ :: r => congrArg (· + 1) (pick_len r)
  | .kw _ :: r => congrArg (· + 1) (pick_len r)
  | .con _ :: r => congrArg (· + 1) (pick_len r)
theorem pick_vals {vs zs cv : List V} {us ws cu : List Value} {n m q : Nat} (r1 : Vals vs us) (r2 : Vals zs ws) (r3 : Vals cv cu) (e1 : vs.length = n) (e2 : zs.length = m) (e3 : cv.length = q) :
    ∀ {pk : List Pk}, pk.all (Pk.ok n m q) = true → Vals (pickG .non vs zs cv pk) (pickG .none us ws cu pk)
  | [], _ => .nil
  | p :: r, h => by
    rw [List.all_cons, Bool.and_eq_true] at h
    have ih := pick_vals r1 r2 r3 e1 e2 e3 h.2
    cases p with
    | pos i => exact .cons (vals_getD r1 (by rw [e1]; exact of_decide_eq_true h.1)) ih
    | kw i => exact .cons (vals_getD r2 (by rw [e2]; exact of_decide_eq_true h.1)) ih
    | con i => exact .cons (vals_getD r3 (by rw [e3]; exact of_decide_eq_true h.1)) ih
theorem pick_rvs {K : PySem.W.Frag} {φ : Nat → Addr} {nn : Nat} {H : Hp} {vs zs cv : List V} {us ws cu : List D} {n m q : Nat} (r1 : RVs K φ nn H us vs) (r2 : RVs K φ nn H ws zs) (e1 : vs.length = n) (e2 : zs.length = m) (e3 : cv.length = q) :
    ∀ {pk : List Pk}, pk.all (Pk.ok n m q) = true → (∀ i, Pk.con i ∈ pk → i < q → RV K φ nn H (cu.getD i .non) (cv.getD i .non)) → RVs K φ nn H (pickG .non us ws cu pk) (pickG .non vs zs cv pk)
  | [], _, _ => .nil
  | p :: r, h, hc => by
    rw [List.all_cons, Bool.and_eq_true] at h
    have ih := pick_rvs (cu := cu) r1 r2 e1 e2 e3 h.2 fun i hi => hc i (List.mem_cons_of_mem _ hi)
    cases p with
    | pos i => exact .cons (rvs_getD r1 (by rw [e1]; exact of_decide_eq_true h.1)) ih
    | kw i => exact .cons (rvs_getD r2 (by rw [e2]; exact of_decide_eq_true h.1)) ih
    | con i => exact .cons (hc i List.mem_cons_self (of_decide_eq_true h.1)) ih
theorem ge_callK {f hh : Nat} {es ks : Es} (hs : GEs T k es) (hks : GEs T k ks) : GE T k (.callK f hh es ks) := by
  intro x c X hx h
  replace h := inv_callK h
  obtain ⟨y, p1, xs, kws, p, rfl, h⟩ := h
  simp only [Bool.and_eq_true] at h
  obtain ⟨⟨⟨⟨⟨⟨h1, h2⟩, h3⟩, h4⟩, h5⟩, h6⟩, h7⟩ := h
  cases e : T.tab[f]? with
  | none => rw [e] at h1; cases h1
  | some fi =>
    rw [e] at h1
    have h1 : decide (fi.name = y) = true := h1
    rw [decide_eq_true_eq] at h1
    subst h1
    cases e5 : T.shs[hh]? with
    | none => rw [e5] at h5; cases h5
    | some s =>
      rw [e5] at h5
      have h5 : ((decide (s.f = f) && decide (s.n = xs.length)) && decide (kws.filterMap (·.arg) = s.ks)) = true := h5
      rw [Bool.and_eq_true, Bool.and_eq_true, decide_eq_true_eq, decide_eq_true_eq, decide_eq_true_eq] at h5
      obtain ⟨⟨rfl, hn⟩, hk⟩ := h5
      obtain ⟨fa, fd, ok⟩ := hx.fns s.f fi e
      obtain ⟨np, cu, cv, rc, lc, hc, hpk, hb⟩ := ok.sh hh s e5 rfl
      have kb : KBg X.K fd fi.ps s.n s.ks (fun us ws => pickG .none us ws cu s.pk) (fun vs zs => pickG .non vs zs cv s.pk) :=
        ⟨fun st us ws X l1 l2 => hb st us ws X l1 l2, fun l1 l2 r1 r2 => pick_vals r1 r2 rc l1 l2 lc hpk⟩
      have pe : PE X (.Call (.Name fi.name p1) xs kws p) (L X.K (RV X.K) (evE (T.run k) T.shp (.callK s.f hh es ks))) := by
        have fin : ∀ {σ : L2.St} {H : Hp} {Q : VK}, L X.K (RV X.K) (evE (T.run k) T.shp (.callK s.f hh es ks)) σ H Q → tCallN s.n s.ks.length (spF T X.K k s.f fi.ps.length) (fun vs zs => pickG .non vs zs cv s.pk) E0 (L X.K (RVs X.K) (evEs (T.run k) T.shp es)) (L X.K (RVs X.K) (evEs (T.run k) T.shp ks)) σ H Q := fun {σ H Q} q => by
          obtain ⟨φ, S, env, R, re, o⟩ := L.step2 (R1 := RVs X.K) (R2 := RVs X.K) (R3 := RV X.K) (f := evEs (T.run k) T.shp es) (g := fun env _ S1 => evEs (T.run k) T.shp ks env S1) (k := fun _ ds ws S2 => T.run k s.f (T.shp.shp hh ds ws) S2) mono_rvs q
          refine ⟨φ, S, env, R, re, wp_mono o fun d S1 q1 φ1 H1 v e1 R1 rv => ?_⟩
          obtain ⟨φ2, S2, env2, d2, R2, re2, rv2, o2⟩ := q1 φ1 H1 v e1 R1 rv
          refine ⟨φ2, S2, env2, R2, re2, wp_mono o2 fun d3 S3 q3 φ3 H3 v3 e3 R3 rv3 => ?_⟩
          obtain ⟨φ4, S4, d4, R4, _, r1, r2, o4⟩ := q3 φ3 H3 v3 e3 R3 rv3
          have o4 : Out X.K φ4 S4 H3 (T.run k s.f (T.shp.shp hh d2 d4) S4) Q := o4
          -- the lengths are as the shape says, or the run is stuck
          by_cases hl : d2.length = s.n ∧ d4.length = s.ks.length
          · have esh : T.shp.shp hh d2 d4 = pickG .non d2 d4 T.dfl s.pk := by
              unfold Txt.shp
              simp only [e5]
              rw [if_pos hl]
            rw [esh] at o4
            have l1 : v.length = s.n := by rw [← r1.length]; exact hl.1
            have l2 : v3.length = s.ks.length := by rw [← r2.length]; exact hl.2
            refine ⟨l1, l2, φ4, S4, _, R4, pick_rvs (cu := T.dfl) r1 r2 l1 l2 lc hpk fun i hi hq => ?_, by rw [pick_len]; exact np, o4⟩
            have hcl : i < cv.length := by rw [lc]; exact hq
            have ed : T.dfl[i]? = some T.dfl[i] := List.getElem?_eq_getElem hq
            have ev : cv[i]? = some cv[i] := List.getElem?_eq_getElem hcl
            have := hc i _ _ ed ev hi φ4 S4.length H3
            rw [List.getD_eq_getElem?_getD, List.getD_eq_getElem?_getD, ed, ev]
            exact this
          · exfalso
            have esh : T.shp.shp hh d2 d4 = List.replicate (s.pk.length + 1) .non := by
              unfold Txt.shp
              simp only [e5]
              rw [if_neg hl]
            rw [esh] at o4
            cases k with
            | zero => exact o4
            | succ k =>
              have e3 : T.run (k + 1) s.f (List.replicate (s.pk.length + 1) .non) S4 = .no := by
                unfold Txt.run Wk.run
                rw [List.getElem?_map, e]
                refine if_neg (fun q => ?_)
                rw [List.length_replicate, np] at q
                exact absurd q (Nat.succ_ne_self _)
              rw [e3] at o4
              exact o4
        cases xs with
        | nil =>
          refine (pe_callKG0 ok.fn hx.grd hx.room (hx.glo h2) ok.at_ ok.kp kb (hks.kw kws c X hx h7) h4 hk (nms_dbg h3)).imp fun σ H Q q => ?_
          have q2 := fin q
          obtain ⟨φ, S, env, R, re, o⟩ := q2
          cases es with
          | cons _ _ => cases h6
          | nil => exact OutG.here o R .nil
        | cons x0 xs0 =>
          exact (pe_callKG ok.fn hx.grd hx.room (hx.glo h2) ok.at_ ok.kp kb (hs.pa _ c X hx h6) (hks.kw kws c X hx h7) (chkEs_star h6) h4 hk (nms_dbg h3)).imp fun σ H Q q => fin q
      exact ⟨pe, pt_of pe rfl⟩

/-! ### built-ins, isinstance -/
theorem ge_blt {f : Blt} {es : Es} (hs : GEs T k es) : GE T k (.blt f es) := by
  intro x c X hx h
  replace h := inv_blt h
  obtain ⟨y, p1, xs, p, rfl, h⟩ := h
  simp only [Bool.and_eq_true, decide_eq_true_eq, Bool.not_eq_true'] at h
  obtain ⟨⟨⟨⟨rfl, h2⟩, h3⟩, h4⟩, h5⟩ := h
  cases xs with
  | nil => cases h5
  | cons x0 xs0 =>
    have hb := bltBoot f
    have hm := hx.nms.blt f
    have hc := call_blt (X := X) f hx.calm hx.grd (room_gu hx)
    obtain ⟨n1, n2, n3⟩ := nm_of h3
    have fin : ∀ {σ : L2.St} {H : Hp} {Q : VK}, L X.K (RV X.K) (evE (T.run k) T.shp (.blt f es)) σ H Q → tCB (rBl X.K f) (L X.K (RVs X.K) (evEs (T.run k) T.shp es)) σ H Q := fun {σ H Q} q => by
      obtain ⟨φ, S, env, R, re, o⟩ := L.step (R1 := RVs X.K) (k := fun _ ds S1 => bltop f ds S1) q
      refine ⟨φ, S, env, R, re, wp_mono o fun d S1 q1 φ1 H1 v e1 R1 rv => ?_⟩
      obtain ⟨φ2, S2, env2, d2, R2, re2, rv2, o2⟩ := q1 φ1 H1 v e1 R1 rv
      exact ⟨φ2, S2, d2, R2, rv2, o2⟩
    have sh : (∃ id, bltVal f = .builtin id) ∨ ∃ t, bltVal f = .type t := by cases f <;> first | exact .inl ⟨_, rfl⟩ | exact .inr ⟨_, rfl⟩
    have pe : PE X (.Call (.Name (bltName f) p1) (x0 :: xs0) [] p) (L X.K (RV X.K) (evE (T.run k) T.shp (.blt f es))) := by
      rcases sh with ⟨id, e⟩ | ⟨t, e⟩
      · rw [e] at hb hc
        exact (pe_callBG hc (hx.glo h2) hm hb (hs.pa _ c X hx h4) n3 n1 (chkEs_star h4)).imp fun σ H Q q => fin q
      · rw [e] at hb hc
        exact (pe_callTyG hc (hx.glo h2) hm hb (hs.pa _ c X hx h4) n3 n1 (chkEs_star h4)).imp fun σ H Q q => fin q
    exact ⟨pe, pt_of pe rfl⟩
theorem tyBoot : ∀ t : Ty, bootBuiltins (tyName t) = some (.type (match t with | .int => "int" | .bool => "bool" | .str => "str" | .tuple => "tuple" | .list => "list" | .dict => "dict")) := by
  intro t
  cases t <;> decide +kernel
def tyStr : Ty → String
  | .int => "int" | .bool => "bool" | .str => "str" | .tuple => "tuple" | .list => "list" | .dict => "dict"
theorem tyX_seqT {K : PySem.W.Frag} {H : Hp} {a : Addr} {vs : List V} (h : SqT K H a vs) : TyX K H (.ref a) (.type "tuple") := by
  rcases h with (h | ⟨o, h⟩) | ⟨o, its, n, h1, h2, _⟩
  · exact .base (.tup h)
  · exact .fTuple h
  · exact .kTuple h1 h2
theorem isTy_of {K : PySem.W.Frag} {φ : Nat → Addr} {S : Sto} {H : Hp} {d : D} {x : V} {t : Ty} {b : Bool} (R : Rel K φ S H) (r : RV K φ S.length H d x) (h : isTy S d t = some b) : ∃ u, TyX K H x (.type u) ∧ kitB u (tyStr t) = some b := by
  cases r with
  | non => cases h; exact ⟨_, .base .non, by cases t <;> decide +kernel⟩
  | bl v => exact ⟨_, .base (.bl v), by cases t <;> cases h <;> decide +kernel⟩
  | int v => exact ⟨_, .base (.int v), by cases t <;> cases h <;> decide +kernel⟩
  | str v => exact ⟨_, .base (.str v), by cases t <;> cases h <;> decide +kernel⟩
  | tup h1 h2 => exact ⟨_, tyX_seqT h1, by cases t <;> cases h <;> decide +kernel⟩
  | @loc l hl =>
    simp only [isTy] at h
    cases e : S[l]? with
    | none => rw [e] at h; cases h
    | some o =>
      rw [e] at h
      have q := R.obj l o e
      cases o with
      | lst ds =>
        obtain ⟨vs, h1, _⟩ := q
        exact ⟨_, .base (.lst h1), by cases t <;> cases h <;> decide +kernel⟩
      | scr ds => cases h
      | dK kvs =>
        obtain ⟨vs, h1, _⟩ := q
        exact ⟨_, .base (.dK h1), by cases t <;> cases h <;> decide +kernel⟩
theorem tyName_mg (hx : XO T k c X) : ∀ t : Ty, X.mg (tyName t) = none
  | .int => hx.nms.blt .int | .bool => hx.nms.blt .bool | .str => hx.nms.blt .str | .tuple => hx.nms.blt .tuple | .list => hx.nms.blt .list | .dict => hx.nms.dict
theorem isiBoot : bootBuiltins "isinstance" = some (.builtin "isinstance") := by decide +kernel
theorem ge_isi {a : E} {t : Ty} (ha : GE T k a) : GE T k (.isi a t) := by
  intro x c X hx h
  replace h := inv_isi h
  obtain ⟨y, p1, z, w, p2, p, rfl, h⟩ := h
  simp only [Bool.and_eq_true, decide_eq_true_eq] at h
  obtain ⟨⟨⟨⟨⟨⟨rfl, rfl⟩, h1⟩, h2⟩, h3⟩, h4⟩, h5⟩ := h
  obtain ⟨n1, n2, n3⟩ := nm_of h3
  obtain ⟨m1, m2, m3⟩ := nm_of h4
  have hw : PE X (.Name (tyName t) p2) (tC (.ty (tyStr t))) := pe_bltn (u := .type (tyStr t)) (hx.glo h2) (tyName_mg hx t) (by cases t <;> exact tyBoot _) rfl m3 m1
  have pe : PE X (.Call (.Name "isinstance" p1) [z, .Name (tyName t) p2] [] p) (L X.K (RV X.K) (evE (T.run k) T.shp (.isi a t))) := by
    have hns : notStar z = true := by
      cases z <;> first | rfl | (cases a <;> cases h5)
    refine (pe_callBG call_isi (hx.glo h1) hx.nms.isi isiBoot (pa_cons (ha z c X hx h5).1 (pa_cons hw pa_nil) (star_cons hns)) n3 n1 (by rw [List.all_cons, hns]; rfl)).imp fun σ H Q q => ?_
    obtain ⟨φ, S, env, R, re, o⟩ := L.step (R1 := RV X.K) (k := fun _ d S1 => ofO ((isTy S1 d t).map D.bl) S1) q
    refine ⟨φ, S, env, R, re, wp_mono o fun d S1 q1 φ1 H1 v e1 R1 rv => ?_⟩
    obtain ⟨φ2, S2, env2, d2, R2, re2, rv2, o2⟩ := q1 φ1 H1 v e1 R1 rv
    cases e : isTy S2 d2 t with
    | none => rw [e] at o2; exact False.elim o2
    | some b =>
      rw [e] at o2
      obtain ⟨u, ty, hk⟩ := isTy_of R2 rv2 e
      exact ⟨v, .ty (tyStr t), .type u, .type (tyStr t), b, rfl, .ty _, ty, kit_ty hk, OutG.here o2 R2 (.bl _)⟩
  exact ⟨pe, pt_of pe rfl⟩

/-! ### subscripts, slices, methods -/
theorem plainIx_of {z : Expr} (h : ixB z = true) : PlainIx z := by
  intro o i
  cases z <;> first | rfl | cases h
theorem ge_idx {a i : E} (ha : GE T k a) (hi : GE T k i) : GE T k (.idx a i) := by
  intro x c X hx h
  replace h := inv_idx h
  obtain ⟨y, z, p, rfl, h⟩ := h
  simp only [Bool.and_eq_true] at h
  obtain ⟨⟨h0, h1⟩, h2⟩ := h
  have pe : PE X (.Subscript y z p) (L X.K (RV X.K) (evE (T.run k) T.shp (.idx a i))) := by
    refine (pe_ix (ix_seqD (by have := room_gu hx; omega)) (ha y c X hx h1).1 (hi z c X hx h2).1 (plainIx_of h0)).imp fun σ H Q q => ?_
    obtain ⟨φ, S, env, R, re, o⟩ := L.step2 (R1 := RV X.K) (R2 := RV X.K) (g := fun env _ S1 => evE (T.run k) T.shp i env S1) (k := fun _ x y S2 => ixop x y S2) mono_rv q
    refine ⟨φ, S, env, R, re, wp_mono o fun d S1 q1 φ1 H1 v e1 R1 rv => ?_⟩
    obtain ⟨φ2, S2, env2, d2, R2, re2, rv2, o2⟩ := q1 φ1 H1 v e1 R1 rv
    refine ⟨φ2, S2, env2, R2, re2, wp_mono o2 fun d3 S3 q3 φ3 H3 v3 e3 R3 rv3 => ?_⟩
    obtain ⟨φ4, S4, d4, R4, _, r1, r2, o4⟩ := q3 φ3 H3 v3 e3 R3 rv3
    exact ⟨φ4, S4, d2, d4, R4, r1, r2, o4⟩
  exact ⟨pe, pt_of pe rfl⟩
/-! ### an object of ours that the store does not yet know -/
structure Up (K : PySem.W.Frag) (φ : Nat → Addr) (n : Nat) (H : Hp) (φ' : Nat → Addr) (n' : Nat) (H' : Hp) : Prop where
  len : n ≤ n'
  agr : ∀ l, l < n → φ' l = φ l
  tup : ∀ a vs, SqT K H a vs → SqT K H' a vs
theorem Ext.up {K : PySem.W.Frag} {φ φ' : Nat → Addr} {S S' : Sto} {H H' : Hp} (e : Ext K φ S H φ' S' H') : Up K φ S.length H φ' S'.length H' := ⟨e.len, e.agr, e.tup⟩
theorem Up.trans {K : PySem.W.Frag} {φ φ1 φ2 : Nat → Addr} {n n1 n2 : Nat} {H H1 H2 : Hp} (a : Up K φ n H φ1 n1 H1) (b : Up K φ1 n1 H1 φ2 n2 H2) : Up K φ n H φ2 n2 H2 :=
  ⟨Nat.le_trans a.len b.len, fun l hl => (b.agr l (Nat.lt_of_lt_of_le hl a.len)).trans (a.agr l hl), fun x vs h => b.tup x vs (a.tup x vs h)⟩
mutual
theorem RV.up {K : PySem.W.Frag} {φ φ' : Nat → Addr} {n n' : Nat} {H H' : Hp} (e : Up K φ n H φ' n' H') : ∀ {d : D} {v : V}, RV K φ n H d v → RV K φ' n' H' d v
  | _, _, .non => .non
  | _, _, .bl b => .bl b
  | _, _, .int i => .int i
  | _, _, .str x => .str x
  | _, _, .tup h r => .tup (e.tup _ _ h) (RVs.up e r)
  | _, _, .loc (l := l) h => by
    have q := e.agr l h
    rw [← q]
    exact .loc (Nat.lt_of_lt_of_le h e.len)
theorem RVs.up {K : PySem.W.Frag} {φ φ' : Nat → Addr} {n n' : Nat} {H H' : Hp} (e : Up K φ n H φ' n' H') : ∀ {ds : List D} {vs : List V}, RVs K φ n H ds vs → RVs K φ' n' H' ds vs
  | _, _, .nil => .nil
  | _, _, .cons a b => .cons (RV.up e a) (RVs.up e b)
end
theorem RE.up {K : PySem.W.Frag} {φ φ' : Nat → Addr} {n n' : Nat} {H H' : Hp} {env : Env} {σ : L2.St} (e : Up K φ n H φ' n' H') (h : RE K φ n H env σ) : RE K φ' n' H' env σ :=
  ⟨h.1, fun i d hd => let ⟨v, h1, h2⟩ := h.2 i d hd; ⟨v, h1, h2.up e⟩⟩
def Off (φ : Nat → Addr) (S : Sto) (p : Addr) : Prop := ∀ (l : Nat) (u : O), S[l]? = some u → Mu u = true → φ l ≠ p
section
variable {K : PySem.W.Frag} {φ φ1 : Nat → Addr} {S S1 : Sto} {H H1 : Hp} {p : Addr} {o o1 : HO}
def HO.dull : HO → Prop
  | .lst _ => True
  | .dK _ => True
  | _ => False
theorem dull_t (h : H1 p = some o1) (hd : HO.dull o1) : ∀ u, H1 p = some u → ∀ ws, u ≠ .tup ws ∧ ∀ o', u ≠ .frz o' (.tup ws) := fun u e ws => by
  rw [h] at e; cases e
  cases o1 <;> first | exact False.elim hd | exact ⟨(fun z => nomatch z), fun _ z => nomatch z⟩
theorem dull_l (h : H1 p = some o1) (hd : HO.dull o1) : ∀ u, H1 p = some u → ∀ ws o', u ≠ .frz o' (.lst ws) := fun u e ws o' => by
  rw [h] at e; cases e
  cases o1 <;> first | exact False.elim hd | exact (fun z => nomatch z)
theorem Off.start (R : Rel K φ S H) (hp : H p = none) : Off φ S p := fun l w e m z => by
  have q := R.obj l w e
  rw [z] at q
  cases w with
  | lst ds => obtain ⟨vs, h, _⟩ := q; rw [hp] at h; cases h
  | scr ds => cases m
  | dK kvs => obtain ⟨vs, h, _⟩ := q; rw [hp] at h; cases h
theorem Off.ext (f : Off φ S p) (e : Ext K φ S H φ1 S1 H1) (hp : H p ≠ none) : Off φ1 S1 p := fun l u h m => by
  by_cases hl : l < S.length
  · obtain ⟨u0, h0⟩ := get_of_lt hl
    obtain ⟨u2, h2, m2⟩ := e.kind l u0 h0
    rw [h] at h2; cases h2
    rw [e.agr l hl]
    exact f l u0 h0 (m2 ▸ m)
  · have := e.new l u (Nat.le_of_not_lt hl) h m
    exact fun z => hp (z ▸ this)
theorem Ext.off (e : Ext K φ S H φ1 S1 H1) (hp : H p = none) (h1 : ∀ u, H1 p = some u → ∀ ws, u ≠ .tup ws ∧ ∀ o', u ≠ .frz o' (.tup ws)) : Ext K φ S H φ1 S1 (upd H1 p o) :=
  ⟨e.len, e.agr, fun a vs h => sqtO (e.tup a vs h) h1, e.kind, fun a h => upd_there (e.there a h), fun a u h hx => by rw [upd_ne (ne_of_none h hp)]; exact e.frame a u h hx, e.new⟩
theorem Up.off (h1 : H1 p = some o1) (hd : HO.dull o1) {n : Nat} : Up K φ1 n H1 φ1 n (upd H1 p o) := ⟨Nat.le_refl _, fun _ _ => rfl, fun _ _ h => sqtO h (dull_t h1 hd)⟩
theorem Rel.off (R : Rel K φ1 S1 H1) (f : Off φ1 S1 p) (h1 : H1 p = some o1) (hd : HO.dull o1) : Rel K φ1 S1 (upd H1 p o) := by
  have up : Up K φ1 S1.length H1 φ1 S1.length (upd H1 p o) := Up.off h1 hd
  refine ⟨fun l u e => ?_, R.inj⟩
  have q := R.obj l u e
  cases u with
  | lst ds => obtain ⟨vs, h, r⟩ := q; exact ⟨vs, by rw [upd_ne (f l _ e rfl)]; exact h, r.up up⟩
  | scr ds => obtain ⟨vs, h, r⟩ := q; exact ⟨vs, rdlO h (dull_l h1 hd), r.up up⟩
  | dK kvs => obtain ⟨vs, h, r⟩ := q; exact ⟨vs, by rw [upd_ne (f l _ e rfl)]; exact h, r.1, r.2.up up⟩
theorem put_lt {n l : Nat} (h : l < n) : put φ n p l = φ l := by unfold put; rw [if_neg (Nat.ne_of_lt h)]
theorem put_eq {n : Nat} : put φ n p n = p := by unfold put; rw [if_pos rfl]
theorem Ext.adopt {u : O} (e : Ext K φ S H φ1 S1 H1) (hp : H p = none) : Ext K φ S H (put φ1 S1.length p) (S1 ++ [u]) H1 := by
  refine ⟨Nat.le_trans e.len (by simp), fun l hl => ?_, e.tup, fun l o h => ?_, e.there, e.frame, fun l w hl h m => ?_⟩
  · rw [put_lt (Nat.lt_of_lt_of_le hl e.len)]; exact e.agr l hl
  · obtain ⟨o', h1, m1⟩ := e.kind l o h
    exact ⟨o', by rw [List.getElem?_append_left (get_lt h1)]; exact h1, m1⟩
  · by_cases h1 : l < S1.length
    · rw [List.getElem?_append_left h1] at h
      rw [put_lt h1]
      exact e.new l w hl h m
    · have h2 := get_lt h
      have h3 : l = S1.length := by simp at h2; omega
      rw [h3, put_eq]; exact hp
theorem Up.adopt {n : Nat} {q : Nat → Addr} (hq : ∀ l, l < n → q l = φ1 l) : Up K φ1 n H1 q (n + 1) H1 := ⟨Nat.le_succ _, hq, fun _ _ h => h⟩
theorem Rel.adopt {u : O} (R : Rel K φ1 S1 H1) (f : Off φ1 S1 p) (ho : RO K (put φ1 S1.length p) (S1.length + 1) H1 p u) : Rel K (put φ1 S1.length p) (S1 ++ [u]) H1 := by
  have up : Up K φ1 S1.length H1 (put φ1 S1.length p) (S1.length + 1) H1 := Up.adopt fun l hl => put_lt hl
  have len : (S1 ++ [u]).length = S1.length + 1 := by simp
  have last : ∀ l w, (S1 ++ [u])[l]? = some w → (l < S1.length ∧ S1[l]? = some w) ∨ (l = S1.length ∧ w = u) := fun l w e => by
    by_cases hl : l < S1.length
    · exact .inl ⟨hl, by rwa [List.getElem?_append_left hl] at e⟩
    · have h1 := get_lt e
      have h2 : l = S1.length := by simp at h1; omega
      subst h2
      simp at e
      exact .inr ⟨rfl, e.symm⟩
  refine ⟨fun l w e => ?_, fun l m w w' e e' mw mw' q => ?_⟩
  · rw [len]
    rcases last l w e with ⟨hl, e⟩ | ⟨rfl, rfl⟩
    · rw [put_lt hl]
      have q := R.obj l w e
      cases w with
      | lst ds => obtain ⟨vs, h, r⟩ := q; exact ⟨vs, h, r.up up⟩
      | scr ds => obtain ⟨vs, h, r⟩ := q; exact ⟨vs, h, r.up up⟩
      | dK kvs => obtain ⟨vs, h, r⟩ := q; exact ⟨vs, h, r.1, r.2.up up⟩
    · rw [put_eq]; exact ho
  · rcases last l w e with ⟨hl, e0⟩ | ⟨hl, hw⟩
    · rcases last m w' e' with ⟨hm, e1⟩ | ⟨hm, hw'⟩
      · rw [put_lt hl, put_lt hm] at q
        exact R.inj l m w w' e0 e1 mw mw' q
      · rw [hm, put_lt hl, put_eq] at q
        exact absurd q (f l w e0 mw)
    · rcases last m w' e' with ⟨hm, e1⟩ | ⟨hm, hw'⟩
      · rw [hl, put_lt hm, put_eq] at q
        exact absurd q.symm (f m w' e1 mw')
      · rw [hl, hm]
end
inductive GEs' (T : Txt) (k : Nat) : Es → Prop where
  | nil : GEs' T k .nil
  | cons {e : E} {es : Es} (he : GE T k e) (hs : GEs' T k es) : GEs' T k (.cons e es)
/-! ### a dict's display -/
theorem any_of_notMem {κ : Type} [DecidableEq κ] {β : Type} {k : κ} : ∀ {l : List (κ × β)}, k ∉ l.map (·.1) → (l.any fun kv => decide (kv.1 = k)) = false
  | [], _ => rfl
  | (a, b) :: r, h => by
    rw [List.map_cons, List.mem_cons, not_or] at h
    rw [List.any_cons, any_of_notMem h.2, Bool.or_false]
    exact decide_eq_false (fun e => h.1 e.symm)
theorem merge_nodup : ∀ (more acc : List (Key × V)), ((acc ++ more).map (·.1)).Nodup → mergeK acc more = acc ++ more
  | [], acc, _ => (List.append_nil acc).symm
  | p :: r, acc, h => by
    have h1 : p.1 ∉ acc.map (·.1) := by
      rw [List.map_append, List.map_cons] at h
      have := (List.nodup_append.mp h).2.2
      exact fun hm => this p.1 hm p.1 List.mem_cons_self rfl
    have e : putK acc p.1 p.2 = acc ++ [p] := by
      unfold putK
      rw [if_neg (by rw [any_of_notMem h1]; exact Bool.false_ne_true)]
    have ih := merge_nodup r (acc ++ [p]) (by rw [List.append_assoc]; exact h)
    show mergeK (putK acc p.1 p.2) r = _
    rw [e, ih, List.append_assoc]
    rfl
theorem keys_nodup {ks : List Str} (h : ks.Nodup) : (ks.map (Sum.inr : Str → Key)).Nodup := by
  induction ks with
  | nil => exact List.nodup_nil
  | cons a r ih =>
    have h' := List.nodup_cons.mp h
    rw [List.map_cons]
    refine List.nodup_cons.mpr ⟨fun hm => ?_, ih h'.2⟩
    obtain ⟨b, hb, e⟩ := List.mem_map.mp hm
    cases e
    exact h'.1 hb
theorem pairs_ok : ∀ {keys : List (Option Expr)} {values : List Expr} {ks : List Str} {es : Es} {c : Ck} {X : Cx} {pos : Pos}, XO T k c X → keysOf keys = some ks → GEs' T k es → chkEs T c es values = true → keys.length = values.length →
    ∃ trs, PPs X pos keys values trs ∧ ∀ σ H (Q : List (V × V) → Hp → Prop), L X.K (RVs X.K) (evEs (T.run k) T.shp es) σ H (fun vs H' => Q ((ks.map V.str).zip vs) H') → tPairs trs σ H Q
  | [], [], ks, es, c, X, pos, hx, hk, hs, hc, hl => by
    cases hk
    cases es with
    | cons _ _ => cases hc
    | nil => exact ⟨[], pps_nil, fun σ H Q ⟨φ, S, env, R, re, o⟩ => OutG.here (R1 := RVs X.K) o R .nil⟩
  | [], _ :: _, _, _, _, _, _, _, _, _, _, hl => by cases hl
  | _ :: _, [], _, _, _, _, _, _, _, _, _, hl => by cases hl
  | key :: keys, v :: values, ks, es, c, X, pos, hx, hk, hs, hc, hl => by
    cases es with
    | nil => cases hc
    | cons e es =>
      cases hs with
      | cons he hs =>
      have hc' : (notStar v && chkE T c e v && chkEs T c es values) = true := hc
      simp only [Bool.and_eq_true] at hc'
      obtain ⟨x, kq, kp, rfl, ks', hk', rfl⟩ : ∃ x kq kp, key = some (.Constant (.str x) kq kp) ∧ ∃ ks', keysOf keys = some ks' ∧ ks = x :: ks' := by
        cases key with
        | none => cases hk
        | some z =>
          cases z with
          | Constant cc kq kp =>
            cases cc with
            | str x =>
              have hk2 : (keysOf keys).map (x :: ·) = some ks := hk
              cases e2 : keysOf keys with
              | none => rw [e2] at hk2; cases hk2
              | some ks' => rw [e2] at hk2; cases hk2; exact ⟨x, kq, kp, rfl, ks', rfl, rfl⟩
            | _ => cases hk
          | _ => cases hk
      obtain ⟨trs, p, f⟩ := pairs_ok (pos := pos) hx hk' hs hc'.2 (Nat.succ.inj hl)
      refine ⟨_, pps_cons pe_str (he v c X hx hc'.1.2).1 p, fun σ H Q q => ?_⟩
      obtain ⟨φ, S, env, R, re, o⟩ := L.step2 (R1 := RV X.K) (R2 := RVs X.K) (R3 := RVs X.K) (f := evE (T.run k) T.shp e) (g := fun env _ S1 => evEs (T.run k) T.shp es env S1) (k := fun _ x xs S2 => .ok (x :: xs) S2) mono_rv q
      show L X.K (RV X.K) (evE (T.run k) T.shp e) σ H _
      refine ⟨φ, S, env, R, re, wp_mono o fun d S1 q1 φ1 H1 v e1 R1 rv => ?_⟩
      obtain ⟨φ2, S2, env2, d2, R2, re2, rv2, o2⟩ := q1 φ1 H1 v e1 R1 rv
      refine f σ H1 _ ⟨φ2, S2, env2, R2, re2, wp_mono o2 fun d3 S3 q3 φ3 H3 v3 e3 R3 rv3 => ?_⟩
      obtain ⟨φ4, S4, d4, R4, _, r1, r2, o4⟩ := q3 φ3 H3 v3 e3 R3 rv3
      exact OutG.here (R1 := RVs X.K) o4 R4 (.cons r1 r2)
theorem keysOf_len : ∀ {keys : List (Option Expr)} {ks : List Str}, keysOf keys = some ks → keys.length = ks.length ∧ keys.all (·.isSome) = true
  | [], ks, h => by cases h; exact ⟨rfl, rfl⟩
  | key :: keys, ks, h => by
    cases key with
    | none => cases h
    | some z =>
      cases z with
      | Constant cc kq kp =>
        cases cc with
        | str x =>
          have hk2 : (keysOf keys).map (x :: ·) = some ks := h
          cases e2 : keysOf keys with
          | none => rw [e2] at hk2; cases hk2
          | some ks' =>
            rw [e2] at hk2; cases hk2
            obtain ⟨h1, h2⟩ := keysOf_len e2
            exact ⟨congrArg (· + 1) h1, by rw [List.all_cons, h2]; rfl⟩
        | _ => cases h
      | _ => cases h
theorem chkEs_len : ∀ {es : Es} {xs : List Expr} {env : Env} {S S' : Sto} {ds : List D}, chkEs T c es xs = true → evEs (T.run k) T.shp es env S = .ok ds S' → ds.length = xs.length
  | .nil, [], env, S, S', ds, _, h => by cases h; rfl
  | .nil, _ :: _, _, _, _, _, h, _ => by cases h
  | .cons _ _, [], _, _, _, _, h, _ => by cases h
  | .cons e es, x :: r, env, S, S', ds, h, hv => by
    have h' : (notStar x && chkE T c e x && chkEs T c es r) = true := h
    simp only [Bool.and_eq_true] at h'
    have hv : ((evE (T.run k) T.shp e env S).bind fun x S1 => (evEs (T.run k) T.shp es env S1).bind fun xs S2 => .ok (x :: xs) S2) = .ok ds S' := hv
    obtain ⟨d1, S1, e1, hv⟩ := bind_inv hv
    obtain ⟨d2, S2, e2, hv⟩ := bind_inv hv
    cases hv
    exact congrArg (· + 1) (chkEs_len h'.2 e2)
theorem zip_key : ∀ {ks : List Str} {vs : List V}, ks.length = vs.length → ((ks.map V.str).zip vs) = (((ks.map (Sum.inr : Str → Key)).zip vs).map fun kv => (kV kv.1, kv.2)) ∧ ((ks.map (Sum.inr : Str → Key)).zip vs).map (·.1) = ks.map Sum.inr ∧ ((ks.map (Sum.inr : Str → Key)).zip vs).map (·.2) = vs
  | [], [], _ => ⟨rfl, rfl, rfl⟩
  | [], _ :: _, h => by cases h
  | _ :: _, [], h => by cases h
  | a :: ks, v :: vs, h => by
    obtain ⟨h1, h2, h3⟩ := zip_key (Nat.succ.inj h : ks.length = vs.length)
    simp only [List.map_cons, List.zip_cons_cons, h1, h2, h3]
    exact ⟨rfl, trivial, trivial⟩
theorem zip_keyD : ∀ {ks : List Str} {vs : List D}, ks.length = vs.length → ((ks.map (Sum.inr : Str → Key)).zip vs).map (·.1) = ks.map Sum.inr ∧ ((ks.map (Sum.inr : Str → Key)).zip vs).map (·.2) = vs
  | [], [], _ => ⟨rfl, rfl⟩
  | [], _ :: _, h => by cases h
  | _ :: _, [], h => by cases h
  | a :: ks, v :: vs, h => by
    obtain ⟨h2, h3⟩ := zip_keyD (Nat.succ.inj h : ks.length = vs.length)
    simp only [List.map_cons, List.zip_cons_cons, h2, h3]
    exact ⟨trivial, trivial⟩
theorem ge_dic {ks : List Str} {vs : Es} (hs : GEs' T k vs) : GE T k (.dic ks vs) := by
  intro x c X hx h
  replace h := inv_dic h
  obtain ⟨keys, values, p, rfl, h⟩ := h
  simp only [Bool.and_eq_true, decide_eq_true_eq] at h
  obtain ⟨h1, h2⟩ := h
  obtain ⟨l1, l2⟩ := keysOf_len h1
  -- a result wants as many values as keys, all keys apart, few of them
  have good : ∀ {σ : L2.St} {H : Hp} {Q : VK}, L X.K (RV X.K) (evE (T.run k) T.shp (.dic ks vs)) σ H Q → ks.length = values.length ∧ ks.length ≤ 15 ∧ ks.Nodup := fun {σ H Q} q => by
    obtain ⟨φ, S, env, R, re, o⟩ := q
    have o : OutG X.K (RV X.K) φ S H ((evEs (T.run k) T.shp vs env S).bind fun ds S1 => if ks.length = ds.length ∧ ks.length ≤ 15 ∧ ks.Nodup then alloc S1 (.dK ((ks.map Sum.inr).zip ds)) else .no) Q := o
    cases e : evEs (T.run k) T.shp vs env S with
    | no => rw [e] at o; exact False.elim o
    | ok ds S1 =>
      rw [e] at o
      have o : OutG X.K (RV X.K) φ S H (if ks.length = ds.length ∧ ks.length ≤ 15 ∧ ks.Nodup then alloc S1 (.dK ((ks.map Sum.inr).zip ds)) else .no) Q := o
      split at o
      · rename_i g
        have := chkEs_len h2 e
        exact ⟨by omega, g.2⟩
      · exact False.elim o
  have main : ∀ {σ : L2.St} {H : Hp} {Q : VK} (p : Addr), H p = none → L X.K (RV X.K) (evE (T.run k) T.shp (.dic ks vs)) σ H Q →
      L X.K (RVs X.K) (evEs (T.run k) T.shp vs) σ (upd H p (.dK [])) fun us H2 => H2 p = some (.dK []) ∧ ∃ kvs : List (Key × V), (ks.map V.str).zip us = kvs.map (fun kv => (kV kv.1, kv.2)) ∧ kvs.length ≤ 15 ∧ Q (.ref p) (upd H2 p (.dK (mergeK [] kvs))) := fun {σ H Q} p hp q => by
    obtain ⟨g1, g2, g3⟩ := good q
    obtain ⟨φ, S, env, R, re, o⟩ := q
    have ex0 : Ext X.K φ S H φ S (upd H p (.dK [])) := Ext.fresh hp
    refine ⟨φ, S, env, R.at_new hp, re.mono ex0, ?_⟩
    have o : OutG X.K (RV X.K) φ S H ((evEs (T.run k) T.shp vs env S).bind fun ds S1 => if ks.length = ds.length ∧ ks.length ≤ 15 ∧ ks.Nodup then alloc S1 (.dK ((ks.map Sum.inr).zip ds)) else .no) Q := o
    cases e : evEs (T.run k) T.shp vs env S with
    | no => rw [e] at o; exact False.elim o
    | ok ds S1 =>
      rw [e] at o
      have hl := chkEs_len h2 e
      have o : OutG X.K (RV X.K) φ S H (if ks.length = ds.length ∧ ks.length ≤ 15 ∧ ks.Nodup then alloc S1 (.dK ((ks.map Sum.inr).zip ds)) else .no) Q := o
      rw [if_pos ⟨by omega, g2, g3⟩] at o
      intro φ1 H1 us e1 R1 rs
      have f0 : Off φ S p := Off.start R hp
      have p0 : upd H p (.dK []) p = some (.dK []) := upd_same
      have p1 : H1 p = some (.dK []) := e1.frame p _ p0 f0
      have f1 : Off φ1 S1 p := f0.ext e1 (by rw [p0]; simp)
      have ul : ks.length = us.length := by have := rs.length; omega
      obtain ⟨z1, z2, z3⟩ := zip_key ul
      obtain ⟨z4, z5⟩ := zip_keyD (ks := ks) (vs := ds) (by omega)
      refine ⟨p1, (ks.map Sum.inr).zip us, z1, by rw [List.length_zip, List.length_map]; omega, ?_⟩
      have em : mergeK [] ((ks.map (Sum.inr : Str → Key)).zip us) = (ks.map (Sum.inr : Str → Key)).zip us := merge_nodup _ [] (by rw [List.nil_append, z2]; exact keys_nodup g3)
      rw [em]
      have ex1 : Ext X.K φ S H φ1 S1 (upd H1 p (.dK ((ks.map (Sum.inr : Str → Key)).zip us))) := (ex0.trans e1).off hp (dull_t p1 trivial)
      have R2 : Rel X.K φ1 S1 (upd H1 p (.dK ((ks.map (Sum.inr : Str → Key)).zip us))) := R1.off f1 p1 trivial
      have rs2 : RVs X.K (put φ1 S1.length p) (S1.length + 1) (upd H1 p (.dK ((ks.map (Sum.inr : Str → Key)).zip us))) ds us := rs.up ((Up.off p1 trivial).trans (Up.adopt fun l hl => put_lt hl))
      have q := o (put φ1 S1.length p) (upd H1 p (.dK ((ks.map (Sum.inr : Str → Key)).zip us))) (.ref p) (ex1.adopt hp) (R2.adopt f1 ⟨_, upd_same, by rw [z4, z2], by rw [z5, z3]; exact rs2⟩)
      refine q ?_
      have : RV X.K (put φ1 S1.length p) (S1 ++ [O.dK ((ks.map Sum.inr).zip ds)]).length (upd H1 p (.dK ((ks.map (Sum.inr : Str → Key)).zip us))) (.loc S1.length) (.ref (put φ1 S1.length p S1.length)) := .loc (by simp)
      rw [put_eq] at this
      exact this
  have pe : PE X (.Dict keys values p) (L X.K (RV X.K) (evE (T.run k) T.shp (.dic ks vs))) := by
    by_cases g : ks.length = values.length ∧ ks.length ≤ 15
    · cases keys with
      | nil =>
        cases h1
        cases values with
        | cons _ _ => exact absurd g.1 (by simp)
        | nil =>
          refine pe_dnewK.imp fun σ H Q q p hp => ?_
          have q2 := main p hp q
          cases vs with
          | cons _ _ => cases h2
          | nil =>
            obtain ⟨φ, S, env, R, re, o⟩ := q2
            obtain ⟨o1, kvs, e, _, o2⟩ := OutG.here (R1 := RVs X.K) o R .nil
            cases kvs with
            | cons _ _ => cases e
            | nil =>
              have : upd (upd H p (.dK [])) p (.dK []) = upd H p (.dK []) := by
                funext a
                unfold upd
                split <;> rfl
              have o2 : Q (.ref p) (upd (upd H p (.dK [])) p (.dK [])) := o2
              rw [this] at o2
              exact o2
      | cons key keys =>
        obtain ⟨trs, pp, f⟩ := pairs_ok (pos := p) hx h1 hs h2 (by omega)
        exact (pe_disp pp l2 (by omega) (by simp) (by omega)).imp fun σ H Q q p hp => f σ _ _ (main p hp q)
    · exact ⟨fun pins s σ H Q I q => absurd (⟨(good q).1, (good q).2.1⟩ : _ ∧ _) g⟩
  exact ⟨pe, pt_of pe rfl⟩
theorem ge_rev {a : E} (ha : GE T k a) : GE T k (.rev a) := by
  intro x c X hx h
  replace h := inv_rev h
  obtain ⟨y, n1, p1, p2, p3, p, rfl, h⟩ := h
  have pe : PE X (.Subscript y (.Slice none none (some (.UnaryOp .USub (.Constant (.int 1) n1 p1) p2)) p3) p) (L X.K (RV X.K) (evE (T.run k) T.shp (.rev a))) := by
    refine (pe_revA (ha y c X hx h).1).imp fun σ H Q q => ?_
    obtain ⟨φ, S, env, R, re, o⟩ := L.step (R1 := RV X.K) (k := fun _ x S1 => match x with | D.tup ds => Res.ok (D.tup ds.reverse) S1 | .loc l => (match items S1 (.loc l) with | some ds => alloc S1 (.lst ds.reverse) | none => .no) | _ => .no) q
    refine ⟨φ, S, env, R, re, wp_mono o fun d S1 q1 φ1 H1 v e1 R1 rv => ?_⟩
    obtain ⟨φ2, S2, env2, d2, R2, re2, rv2, o2⟩ := q1 φ1 H1 v e1 R1 rv
    cases rv2 with
    | @tup ds a vs h1 h2 => exact ⟨a, vs, rfl, .inr ⟨h1, Out.tup o2 R2 h2.reverse⟩⟩
    | @loc l hl =>
      have o2 : Out X.K φ2 S2 H1 (match items S2 (.loc l) with | some ds => alloc S2 (.lst ds.reverse) | none => .no) Q := o2
      cases e : items S2 (.loc l) with
      | none => rw [e] at o2; exact False.elim o2
      | some ds =>
        rw [e] at o2
        obtain ⟨_, vs, hq, r⟩ := items_loc R2 (.loc hl) e
        exact ⟨_, vs, rfl, .inl ⟨hq, Out.alloc o2 R2 r.reverse⟩⟩
    | _ => exact False.elim o2
  exact ⟨pe, pt_of pe rfl⟩
theorem go_none : GO T k .none := by
  intro x c X hx h
  cases x with
  | some _ => cases h
  | none => exact po_none.imp fun σ H Q ⟨φ, S, env, R, re, o⟩ => OutG.here o R rfl
theorem go_some {e : E} (he : GE T k e) : GO T k (.some e) := by
  intro x c X hx h
  cases x with
  | none => cases h
  | some y =>
    refine (po_some (he y c X hx h).1).imp fun σ H Q q => ?_
    obtain ⟨φ, S, env, R, re, o⟩ := L.step (R1 := RV X.K) (k := fun _ x S1 => match x with | D.int i => Res.ok (some i) S1 | _ => .no) q
    refine ⟨φ, S, env, R, re, wp_mono o fun d S1 q1 φ1 H1 v e1 R1 rv => ?_⟩
    obtain ⟨φ2, S2, env2, d2, R2, re2, rv2, o2⟩ := q1 φ1 H1 v e1 R1 rv
    cases rv2 with
    | int i => exact ⟨i, rfl, OutG.here o2 R2 rfl⟩
    | _ => exact False.elim o2
theorem ge_slc {a : E} {lo hi : Oe} (ha : GE T k a) (hlo : GO T k lo) (hhi : GO T k hi) : GE T k (.slc a lo hi) := by
  intro x c X hx h
  replace h := inv_slc h
  obtain ⟨y, l, u, p1, p, rfl, h⟩ := h
  simp only [Bool.and_eq_true] at h
  obtain ⟨⟨h1, h2⟩, h3⟩ := h
  have pe : PE X (.Subscript y (.Slice l u none p1) p) (L X.K (RV X.K) (evE (T.run k) T.shp (.slc a lo hi))) := by
    refine (pe_slice sl_seqD (ha y c X hx h1).1 (hlo l c X hx h2) (hhi u c X hx h3)).imp fun σ H Q q => ?_
    obtain ⟨φ, S, env, R, re, o⟩ := L.step2 (R1 := RV X.K) (R2 := rEq) (g := fun env _ S1 => evO (T.run k) T.shp lo env S1) (k := fun env x l S2 => (evO (T.run k) T.shp hi env S2).bind fun h S3 => slop x l h S3) mono_rv q
    refine ⟨φ, S, env, R, re, wp_mono o fun d S1 q1 φ1 H1 v e1 R1 rv => ?_⟩
    obtain ⟨φ2, S2, env2, d2, R2, re2, rv2, o2⟩ := q1 φ1 H1 v e1 R1 rv
    refine ⟨φ2, S2, env2, R2, re2, wp_mono o2 fun d3 S3 q3 φ3 H3 v3 e3 R3 rv3 => ?_⟩
    obtain ⟨φ4, S4, d4, R4, re4, r1, r2, o4⟩ := q3 φ3 H3 v3 e3 R3 rv3
    refine ⟨φ4, S4, env2, R4, re4, wp_mono (OutG.bind (R1 := rEq) o4) fun d5 S5 q5 φ5 H5 v5 e5 R5 rv5 => ?_⟩
    obtain ⟨φ6, S6, d6, e6, R6, r6, o6⟩ := q5 φ5 H5 v5 e5 R5 rv5
    subst r2 r6
    exact ⟨φ6, S6, d2, R6, r1.mono e6, o6⟩
  exact ⟨pe, pt_of pe rfl⟩
theorem abase_of {y : Expr} {n : Str} {env : PySem.Env} (h : notCall y = true) : attributeBase y n env (eval y env) = eval y env := by
  cases y with
  | Call g xs ks p =>
    cases g with
    | Name id q =>
      cases xs with
      | nil =>
        cases ks with
        | nil =>
          have h' : (!(id == ("super" : Str))) = true := h
          have h2 : (id != ("super" : Str)) = true := h'
          unfold attributeBase
          simp only [h2, Bool.true_or]
          rfl
        | cons _ _ => rfl
      | cons _ _ => rfl
    | _ => rfl
  | _ => rfl
theorem kw_nil_all {cpos : Pos} {env : PySem.Env} : (backToKw cpos (keywordEach [] env)).all (fun x => x.1.isSome) = true := rfl
theorem star_allB {cpos : Pos} {env : PySem.Env} : ∀ {es : List Expr}, es.all notStar = true → (backTo cpos (starEach es env)).all (fun x => !x.1) = true
  | [], _ => rfl
  | e :: es, h => by
    rw [List.all_cons, Bool.and_eq_true] at h
    rw [star_cons h.1]
    show (true && (backTo cpos (starEach es env)).all (fun x => !x.1)) = true
    rw [star_allB h.2]; rfl
theorem ge_mth {m : Mth} {o : E} {es : Es} (ho : GE T k o) (hs : GEs T k es) : GE T k (.mth m o es) := by
  intro x c X hx h
  replace h := inv_mth h
  obtain ⟨y, n, apos, xs, cpos, rfl, h⟩ := h
  simp only [Bool.and_eq_true, decide_eq_true_eq] at h
  obtain ⟨⟨⟨⟨⟨rfl, h1⟩, h2⟩, h3⟩, h4⟩, h5⟩ := h
  have hb := abase_of (n := mthName m) (env := X.env) h2
  have pe : PE X (.Call (.Attribute y (mthName m) apos) xs [] cpos) (L X.K (RV X.K) (evE (T.run k) T.shp (.mth m o es))) := by
    have fin : ∀ {σ : L2.St} {H : Hp} {Q : VK}, L X.K (RV X.K) (evE (T.run k) T.shp (.mth m o es)) σ H Q → tBM X.K (mthT m) (rMt X.K m) (L X.K (RV X.K) (evE (T.run k) T.shp o)) (L X.K (RVs X.K) (evEs (T.run k) T.shp es)) σ H Q := fun {σ H Q} q => by
      obtain ⟨φ, S, env, R, re, o⟩ := L.step (R1 := RV X.K) (k := fun env x S1 => if mthTy m x S1 = true then (evEs (T.run k) T.shp es env S1).bind fun ds S2 => mthop m x ds S2 else .no) q
      refine ⟨φ, S, env, R, re, wp_mono o fun d S1 q1 φ1 H1 v e1 R1 rv => ?_⟩
      obtain ⟨φ2, S2, env2, d2, R2, re2, rv2, o2⟩ := q1 φ1 H1 v e1 R1 rv
      split at o2
      · rename_i ht
        refine ⟨mthTy_of R2 rv2 ht, φ2, S2, env2, R2, re2, wp_mono (OutG.bind (R1 := RVs X.K) o2) fun d5 S5 q5 φ5 H5 v5 e5 R5 rv5 => ?_⟩
        obtain ⟨φ6, S6, d6, e6, R6, r6, o6⟩ := q5 φ5 H5 v5 e5 R5 rv5
        exact ⟨φ6, S6, d2, d6, R6, rv2.mono e6, r6, o6⟩
      · exact False.elim o2
    cases xs with
    | nil =>
      refine (pe_bm0 (mthAttrs m) (mthSlot m) (mthType m) (mt_all m) (ho y c X hx h4).1 hb h1).imp fun σ H Q q => ?_
      have q2 := fin q
      obtain ⟨φ, S, env, R, re, w⟩ := q2
      refine ⟨φ, S, env, R, re, wp_mono w fun d S1 w1 φ1 H1 v e1 R1 rv => ?_⟩
      obtain ⟨ty, φ2, S2, env2, R2, re2, o2⟩ := w1 φ1 H1 v e1 R1 rv
      cases es with
      | cons _ _ => cases h5
      | nil => exact ⟨ty, OutG.here o2 R2 .nil⟩
    | cons x0 xs0 =>
      have hst := chkEs_star h5
      have hst' := hst
      rw [List.all_cons, Bool.and_eq_true] at hst'
      refine (pe_bm (mthAttrs m) (mthSlot m) (mthType m) (mt_all m) (ho y c X hx h4).1 (hs.pa _ c X hx h5) hb ?_ h1 (star_cons hst'.1) (star_any hst'.2)).imp fun σ H Q q => fin q
      rw [star_allB hst, kw_nil_all]
      have hl : (x0 :: xs0).length + ([] : List Keyword).length + (if ([] : List Keyword).isEmpty then 0 else 1) < 30 := by
        show (x0 :: xs0).length + 0 + 0 < 30
        omega
      rw [decide_eq_true hl]
      rfl
  exact ⟨pe, pt_of pe rfl⟩
end
end Wk

set_option Elab.async false
set_option linter.all false
set_option maxRecDepth 100000
set_option maxHeartbeats 4000000
namespace Wk
open PySem PySem.Spec PyProof.Rows L2

/-! ### what is walked -/
/-- an iterator yields a source's items -/
def WalkOk (K : PySem.W.Frag) : RR Src L2.It := fun φ0 n0 H0 src J => ∀ (φ : Nat → Addr) (S : Sto) (H : Hp), Up K φ0 n0 H0 φ S.length H → Rel K φ S H → src.keep S → ∀ i : Nat,
  (∀ d, src.items[i]? = some d → J.go i H ∧ ∀ x H', J.yld i H x H' → Ext K φ S H φ S H' ∧ Rel K φ S H' ∧ RV K φ S.length H' d x) ∧ (src.items.length ≤ i → J.stop i H)
section
variable {K : PySem.W.Frag} {φ0 : Nat → Addr} {S0 : Sto} {H0 : Hp} {n0 : Nat}
theorem wk_list {l : Nat} {ds : List D} (hl : l < n0) : WalkOk K φ0 n0 H0 ⟨ds, fun S => items S (.loc l) = some ds⟩ (Itl K (φ0 l)) := by
  intro φ S H up R kp i
  have hl' : l < S.length := Nat.lt_of_lt_of_le hl up.len
  obtain ⟨_, vs, hq, r⟩ := items_loc R (.loc hl') kp
  rw [up.agr l hl] at hq
  refine ⟨fun d hd => ?_, fun hi => ⟨vs, hq, by rw [← r.length]; exact hi⟩⟩
  obtain ⟨v, e, rv⟩ := r.get hd
  refine ⟨⟨vs, v, hq, e⟩, fun x H' y => ?_⟩
  obtain ⟨rfl, y⟩ := y
  have := y vs hq
  rw [e] at this; cases this
  exact ⟨.refl, R, rv⟩
theorem wk_tup {ds : List D} {vs : List V} {a : Addr} (h : SqT K H0 a vs) (r : RVs K φ0 n0 H0 ds vs) : WalkOk K φ0 n0 H0 ⟨ds, fun _ => True⟩ (Itt K a) := by
  intro φ S H up R _ i
  have hq := up.tup _ _ h
  have r := r.up up
  refine ⟨fun d hd => ?_, fun hi => ⟨vs, hq, by rw [← r.length]; exact hi⟩⟩
  obtain ⟨v, e, rv⟩ := r.get hd
  refine ⟨⟨vs, v, hq, e⟩, fun x H' y => ?_⟩
  obtain ⟨rfl, y⟩ := y
  have := y vs hq
  rw [e] at this; cases this
  exact ⟨.refl, R, rv⟩
theorem wk_str {z : Str} : WalkOk K φ0 n0 H0 ⟨z.cps.toList.map fun c => .str ⟨#[c]⟩, fun _ => True⟩ (Its z) := by
  intro φ S H up R _ i
  refine ⟨fun d hd => ?_, fun hi => ?_⟩
  · rw [List.getElem?_map, Array.getElem?_toList] at hd
    cases e : z.cps[i]? with
    | none => rw [e] at hd; cases hd
    | some c =>
      rw [e] at hd; cases hd
      refine ⟨(Array.getElem?_eq_some_iff.mp e).1, fun x H' y => ?_⟩
      obtain ⟨rfl, c2, e2, rfl⟩ := y
      rw [e] at e2; cases e2
      exact ⟨.refl, R, .str _⟩
  · show z.cps.size ≤ i
    simpa using hi
theorem wk_rng {lo : Int} {n : Nat} : WalkOk K φ0 n0 H0 ⟨(List.range n).map fun k => .int (lo + (k : Nat)), fun _ => True⟩ (Itr lo n) := by
  intro φ S H up R _ i
  refine ⟨fun d hd => ?_, fun hi => ?_⟩
  · rw [List.getElem?_map] at hd
    by_cases hi : i < n
    · rw [List.getElem?_range hi] at hd; cases hd
      refine ⟨hi, fun x H' y => ?_⟩
      obtain ⟨rfl, rfl⟩ := y
      exact ⟨.refl, R, .int _⟩
    · rw [List.getElem?_eq_none (by rw [List.length_range]; omega)] at hd; cases hd
  · show n ≤ i
    simpa using hi
theorem wk_rng0 {n : Nat} : WalkOk K φ0 n0 H0 ⟨(List.range n).map fun k => .int (k : Nat), fun _ => True⟩ (Itr 0 n) := by
  have e : ((List.range n).map fun k => D.int (k : Nat)) = (List.range n).map fun k => D.int (0 + (k : Nat)) := List.map_congr_left fun k _ => by rw [Int.zero_add]
  rw [e]; exact wk_rng
theorem wk_rngD {lo : Int} {n : Nat} : WalkOk K φ0 n0 H0 ⟨(List.range n).map fun k => .int (lo - (k : Nat)), fun _ => True⟩ (Itc lo (-1) n) := by
  intro φ S H up R _ i
  refine ⟨fun d hd => ?_, fun hi => ?_⟩
  · rw [List.getElem?_map] at hd
    by_cases hi : i < n
    · rw [List.getElem?_range hi] at hd; cases hd
      refine ⟨hi, fun x H' y => ?_⟩
      obtain ⟨rfl, rfl⟩ := y
      have e : lo + (i : Nat) * (-1) = lo - (i : Nat) := by omega
      rw [e]
      exact ⟨.refl, R, .int _⟩
    · rw [List.getElem?_eq_none (by rw [List.length_range]; omega)] at hd; cases hd
  · show n ≤ i
    simpa using hi
theorem new_tup {φ : Nat → Addr} {S : Sto} {H : Hp} {T : Addr} {ds : List D} {vs : List V} (R : Rel K φ S H) (hT : H T = none) (r : RVs K φ S.length H ds vs) :
    Ext K φ S H φ S (upd H T (.tup vs)) ∧ Rel K φ S (upd H T (.tup vs)) ∧ RV K φ S.length (upd H T (.tup vs)) (.tup ds) (.ref T) :=
  ⟨Ext.fresh hT, R.at_new hT, .tup (SqT.of upd_same) (r.mono (S' := S) (Ext.fresh hT))⟩
theorem idx_get {α : Type} {ds : List α} {β : Type} {f : α × Nat → β} {i : Nat} {d : β} (h : (ds.zipIdx.map f)[i]? = some d) : ∃ a, ds[i]? = some a ∧ d = f (a, i) := by
  rw [List.getElem?_map, List.getElem?_zipIdx] at h
  cases e : ds[i]? with
  | none => rw [e] at h; cases h
  | some a =>
    rw [e] at h
    have h' : some (f (a, 0 + i)) = some d := h
    rw [Nat.zero_add] at h'
    exact ⟨a, rfl, (Option.some.inj h').symm⟩
theorem wk_enumL {l : Nat} {ds : List D} (hl : l < n0) : WalkOk K φ0 n0 H0 ⟨ds.zipIdx.map fun p => .tup [.int (p.2 : Nat), p.1], fun S => items S (.loc l) = some ds⟩ (Ite K (φ0 l)) := by
  intro φ S H up R kp i
  have hl' : l < S.length := Nat.lt_of_lt_of_le hl up.len
  obtain ⟨_, vs, hq, r⟩ := items_loc R (.loc hl') kp
  rw [up.agr l hl] at hq
  refine ⟨fun d hd => ?_, fun hi => ⟨vs, hq, by rw [← r.length]; simpa using hi⟩⟩
  obtain ⟨a, ha, rfl⟩ := idx_get hd
  obtain ⟨v, e, rv⟩ := r.get ha
  refine ⟨⟨vs, v, hq, e⟩, fun x H' y => ?_⟩
  obtain ⟨T, x, rfl, hT, rfl, y⟩ := y
  have := y vs hq
  rw [e] at this; cases this
  exact new_tup R hT (.cons (.int _) (.cons rv .nil))
theorem wk_enumT {ds : List D} {vs : List V} {a : Addr} (h : SqT K H0 a vs) (r : RVs K φ0 n0 H0 ds vs) : WalkOk K φ0 n0 H0 ⟨ds.zipIdx.map fun p => .tup [.int (p.2 : Nat), p.1], fun _ => True⟩ (IteT K a) := by
  intro φ S H up R _ i
  have hq := up.tup _ _ h
  have r := r.up up
  refine ⟨fun d hd => ?_, fun hi => ⟨vs, hq, by rw [← r.length]; simpa using hi⟩⟩
  obtain ⟨b, ha, rfl⟩ := idx_get hd
  obtain ⟨v, e, rv⟩ := r.get ha
  refine ⟨⟨vs, v, hq, e⟩, fun x H' y => ?_⟩
  obtain ⟨T, x, rfl, hT, rfl, y⟩ := y
  have := y vs hq
  rw [e] at this; cases this
  exact new_tup R hT (.cons (.int _) (.cons rv .nil))
theorem wk_enumS {z : Str} : WalkOk K φ0 n0 H0 ⟨z.cps.toList.zipIdx.map fun p => .tup [.int (p.2 : Nat), .str ⟨#[p.1]⟩], fun _ => True⟩ (IteS z) := by
  intro φ S H up R _ i
  refine ⟨fun d hd => ?_, fun hi => ?_⟩
  · obtain ⟨c, hc, rfl⟩ := idx_get hd
    rw [Array.getElem?_toList] at hc
    refine ⟨(Array.getElem?_eq_some_iff.mp hc).1, fun x H' y => ?_⟩
    obtain ⟨T, c2, rfl, hT, e2, rfl⟩ := y
    rw [hc] at e2; cases e2
    exact new_tup R hT (.cons (.int _) (.cons (.str _) .nil))
  · show z.cps.size ≤ i
    simpa using hi
theorem zip_get {α β γ : Type} {xs : List α} {ys : List β} {f : α × β → γ} {i : Nat} {d : γ} (h : ((xs.zip ys).map f)[i]? = some d) : ∃ a b, xs[i]? = some a ∧ ys[i]? = some b ∧ d = f (a, b) := by
  rw [List.getElem?_map] at h
  cases e : (xs.zip ys)[i]? with
  | none => rw [e] at h; cases h
  | some p =>
    rw [e] at h
    have h' : some (f p) = some d := h
    have q := List.getElem?_zip_eq_some.mp e
    exact ⟨p.1, p.2, q.1, q.2, (Option.some.inj h').symm⟩
theorem wk_zipL {l m : Nat} {ds es : List D} (hl : l < n0) (hm : m < n0) : WalkOk K φ0 n0 H0 ⟨(ds.zip es).map fun p => .tup [p.1, p.2], fun S => items S (.loc l) = some ds ∧ items S (.loc m) = some es⟩ (Itz K (φ0 l) (φ0 m)) := by
  intro φ S H up R kp i
  obtain ⟨_, vs, hq, r⟩ := items_loc R (.loc (Nat.lt_of_lt_of_le hl up.len)) kp.1
  obtain ⟨_, ws, hq2, r2⟩ := items_loc R (.loc (Nat.lt_of_lt_of_le hm up.len)) kp.2
  rw [up.agr l hl] at hq
  rw [up.agr m hm] at hq2
  refine ⟨fun d hd => ?_, fun hi => ⟨vs, ws, hq, hq2, ?_⟩⟩
  · obtain ⟨a, b, ha, hb, rfl⟩ := zip_get hd
    obtain ⟨v, e, rv⟩ := r.get ha
    obtain ⟨v2, e2, rv2⟩ := r2.get hb
    refine ⟨⟨vs, ws, v, v2, hq, hq2, e, e2⟩, fun x H' y => ?_⟩
    obtain ⟨T, x, x2, rfl, hT, rfl, y, y2⟩ := y
    have z1 := y vs hq
    have z2 := y2 ws hq2
    rw [e] at z1; cases z1
    rw [e2] at z2; cases z2
    exact new_tup R hT (.cons rv (.cons rv2 .nil))
  · have l1 := r.length
    have l2 := r2.length
    simp only [List.length_map, List.length_zip] at hi
    omega
theorem wk_zipT {ds es : List D} {vs ws : List V} {a b : Addr} (h : SqT K H0 a vs) (h2 : SqT K H0 b ws) (r : RVs K φ0 n0 H0 ds vs) (r2 : RVs K φ0 n0 H0 es ws) : WalkOk K φ0 n0 H0 ⟨(ds.zip es).map fun p => .tup [p.1, p.2], fun _ => True⟩ (RZ.ItzT K a b) := by
  intro φ S H up R _ i
  have hq := up.tup _ _ h
  have hq2 := up.tup _ _ h2
  have r := r.up up
  have r2 := r2.up up
  refine ⟨fun d hd => ?_, fun hi => ⟨vs, ws, hq, hq2, ?_⟩⟩
  · obtain ⟨a, b, ha, hb, rfl⟩ := zip_get hd
    obtain ⟨v, e, rv⟩ := r.get ha
    obtain ⟨v2, e2, rv2⟩ := r2.get hb
    refine ⟨⟨vs, ws, v, v2, hq, hq2, e, e2⟩, fun x H' y => ?_⟩
    obtain ⟨T, x, x2, rfl, hT, rfl, y, y2⟩ := y
    have z1 := y vs hq
    have z2 := y2 ws hq2
    rw [e] at z1; cases z1
    rw [e2] at z2; cases z2
    exact new_tup R hT (.cons rv (.cons rv2 .nil))
  · have l1 := r.length
    have l2 := r2.length
    simp only [List.length_map, List.length_zip] at hi
    omega
end
/-- a text, a list or a tuple -/
def iSeq (K : PySem.W.Frag) (te : TE) : TI := fun σ H R => te σ H fun v H1 => (∃ z, v = .str z ∧ R (Its z) H1) ∨ (∃ a xs, v = .ref a ∧ SqL K H1 a xs ∧ R (Itl K a) H1) ∨ ∃ a xs, v = .ref a ∧ SqT K H1 a xs ∧ R (Itt K a) H1
theorem pi_seq {X : Cx} {tg e : Expr} {te : TE} (he : PE X e te) : PI X tg e (iSeq X.K te) := by
  refine ⟨fun pins s σ H R I h => ?_⟩
  refine thn (he.run pins s σ H _ I h) fun v s1 ⟨y, H1, I1, r1, q1⟩ => ?_
  rcases q1 with ⟨x, rfl, q⟩ | ⟨a, xs, rfl, hq, q⟩ | ⟨a, xs, rfl, hq, q⟩
  · obtain ⟨t, rfl⟩ := r1
    cases ha : x.cps.all (· < 128)
    · exact wpAny_pyIter_wide ha (pi_one (tk := s1.toks) I1 _ (turn_str _ x t "str_iterator" (.inr rfl)) ⟨_, Heap.get?_push_size _ rfl, rfl, rfl⟩ q)
    · exact wpAny_pyIter_ascii ha (pi_one (tk := s1.toks) I1 _ (turn_str _ x t "str_ascii_iterator" (.inl rfl)) ⟨_, Heap.get?_push_size _ rfl, rfl, rfl⟩ q)
  · cases r1
    obtain ⟨its, rv, p, hz⟩ := I1.list hq
    exact wpAny_pyIter_list p.isList (pi_one (tk := s1.toks) I1 _ (turn_list a _) ⟨_, Heap.get?_push_size _ rfl, rfl, rfl⟩ q)
  · cases r1
    obtain ⟨its, rv, p, hz⟩ := I1.tuple hq
    exact wpAny_pyIter_tuple (show s1.heap.IsTuple a its.toArray from p) (pi_one (tk := s1.toks) I1 _ (turn_tuple a _) ⟨_, Heap.get?_push_size _ rfl, rfl, rfl⟩ q)

section
variable {T : Txt} {k : Nat} {c : Ck} {X : Cx}
def GI (T : Txt) (k : Nat) (it : It) : Prop := ∀ (x tg : Expr) (c : Ck) (X : Cx), XO T k c X → chkI T c it x tg = true → PI X tg x (L X.K (WalkOk X.K) (evI (T.run k) T.shp it))
theorem gi_seq {e : E} (he : GE T k e) : GI T k (.seq e) := by
  intro x tg c X hx h
  have h : chkE T c e x = true := h
  refine (pi_seq (he x c X hx h).1).imp fun σ H R q => ?_
  obtain ⟨φ, S, env, Rl, re, o⟩ := q
  refine ⟨φ, S, env, Rl, re, ?_⟩
  have o : ((evE (T.run k) T.shp e env S).bind fun x S1 => match x with
    | .str z => .ok ⟨z.cps.toList.map fun c => .str ⟨#[c]⟩, fun _ => True⟩ S1
    | .tup ds => .ok ⟨ds, fun _ => True⟩ S1
    | .loc l => match items S1 (.loc l) with
      | some ds => .ok ⟨ds, fun S => items S (.loc l) = some ds⟩ S1
      | none => .no
    | _ => .no).wp fun (src : Src) S' => ∀ φ' H' b, Ext X.K φ S H φ' S' H' → Rel X.K φ' S' H' → WalkOk X.K φ' S'.length H' src b → R b H' := o
  rw [wp_bind] at o
  refine wp_mono o fun d S1 o φ1 H1 v e1 R1 rv => ?_
  cases rv with
  | str z => exact .inl ⟨z, rfl, o φ1 H1 _ e1 R1 wk_str⟩
  | @tup ds a vs h1 h2 => exact .inr (.inr ⟨a, vs, rfl, h1, o φ1 H1 _ e1 R1 (wk_tup h1 h2)⟩)
  | @loc l hl =>
    dsimp only at o
    cases e : items S1 (.loc l) with
    | none => rw [e] at o; exact False.elim o
    | some ds =>
      rw [e] at o
      obtain ⟨_, vs, hq, _⟩ := items_loc R1 (.loc hl) e
      exact .inr (.inl ⟨_, vs, rfl, hq, o φ1 H1 _ e1 R1 (wk_list hl)⟩)
  | _ => exact False.elim o
theorem gi_rng1 {a : E} (ha : GE T k a) : GI T k (.rng1 a) := by
  intro x tg c X hx h
  cases x with
  | Call g xs kws p =>
    cases g with
    | Name y p1 =>
      rcases xs with _ | ⟨z, _ | ⟨w, xs⟩⟩
      · cases kws <;> cases h
      · cases kws with
        | cons _ _ => cases h
        | nil =>
          have h : (decide (y = ("range" : Str)) && gloB c.sc y && notStar z && chkE T c a z) = true := h
          simp only [Bool.and_eq_true, decide_eq_true_eq] at h
          obtain ⟨⟨⟨rfl, h1⟩, h2⟩, h3⟩ := h
          refine (pi_range1 (hx.glo h1) hx.nms.rng ((ges_cons ha ges_nil).pa [z] c X hx (by show (notStar z && chkE T c a z && true) = true; rw [h2, h3]; rfl)) (star_cons h2)).imp fun σ H R q => ?_
          obtain ⟨φ, S, env, Rl, re, o⟩ := q
          refine ⟨φ, S, env, Rl, re, ?_⟩
          have o : ((evE (T.run k) T.shp a env S).bind fun x S1 => match x with
            | .int j => if -(2 ^ 62) ≤ j ∧ j < 2 ^ 62 then .ok ⟨(List.range j.toNat).map fun k => .int (k : Nat), fun _ => True⟩ S1 else .no
            | _ => .no).wp fun (src : Src) S' => ∀ φ' H' b, Ext X.K φ S H φ' S' H' → Rel X.K φ' S' H' → WalkOk X.K φ' S'.length H' src b → R b H' := o
          show ((evE (T.run k) T.shp a env S).bind fun x S1 => (Res.ok [] S1).bind fun xs S2 => .ok (x :: xs) S2).wp _
          rw [wp_bind] at o ⊢
          refine wp_mono o fun d S1 o φ1 H1 v e1 R1 rv => ?_
          cases rv with
          | cons rv rn =>
            cases rn
            cases rv with
            | int j =>
              dsimp only at o
              split at o
              · rename_i hj
                exact ⟨j, rfl, hj.1, hj.2, o φ1 H1 _ e1 R1 wk_rng0⟩
              · exact False.elim o
            | _ => exact False.elim o
      · cases kws <;> cases h
    | _ => cases h
  | _ => cases h
theorem gi_rng2 {a b : E} (ha : GE T k a) (hb : GE T k b) : GI T k (.rng2 a b) := by
  intro x tg c X hx h
  cases x with
  | Call g xs kws p =>
    cases g with
    | Name y p1 =>
      rcases xs with _ | ⟨z, _ | ⟨w, _ | ⟨w2, xs⟩⟩⟩
      · cases kws <;> cases h
      · cases kws <;> cases h
      · cases kws with
        | cons _ _ => cases h
        | nil =>
          have h : (decide (y = ("range" : Str)) && gloB c.sc y && notStar z && notStar w && chkE T c a z && chkE T c b w) = true := h
          simp only [Bool.and_eq_true, decide_eq_true_eq] at h
          obtain ⟨⟨⟨⟨⟨rfl, h1⟩, h2⟩, h2'⟩, h3⟩, h4⟩ := h
          refine (pi_range2 (hx.glo h1) hx.nms.rng ((ges_cons ha (ges_cons hb ges_nil)).pa [z, w] c X hx (by show (notStar z && chkE T c a z && (notStar w && chkE T c b w && true)) = true; rw [h2, h3, h2', h4]; rfl)) (by rw [star_cons h2, star_cons h2']; rfl) (star_cons h2')).imp fun σ H R q => ?_
          obtain ⟨φ, S, env, Rl, re, o⟩ := q
          refine ⟨φ, S, env, Rl, re, ?_⟩
          have o : ((evE (T.run k) T.shp a env S).bind fun x S1 => (evE (T.run k) T.shp b env S1).bind fun y S2 => match x, y with
            | .int i, .int j => if -(2 ^ 62) ≤ i ∧ i < 2 ^ 62 ∧ -(2 ^ 62) ≤ j ∧ j < 2 ^ 62 then .ok ⟨(List.range (j - i).toNat).map fun k => .int (i + (k : Nat)), fun _ => True⟩ S2 else .no
            | _, _ => .no).wp fun (src : Src) S' => ∀ φ' H' b, Ext X.K φ S H φ' S' H' → Rel X.K φ' S' H' → WalkOk X.K φ' S'.length H' src b → R b H' := o
          show ((evE (T.run k) T.shp a env S).bind fun x S1 => ((evE (T.run k) T.shp b env S1).bind fun x S2 => (Res.ok [] S2).bind fun xs S2 => .ok (x :: xs) S2).bind fun xs S2 => .ok (x :: xs) S2).wp _
          rw [wp_bind] at o ⊢
          refine wp_mono o fun d S1 o => ?_
          rw [wp_bind] at o ⊢
          rw [wp_bind]
          refine wp_mono o fun d2 S2 o φ1 H1 v e1 R1 rv => ?_
          cases rv with
          | cons rv rn =>
            cases rn with
            | cons rv2 rn =>
              cases rn
              cases rv with
              | int i =>
                cases rv2 with
                | int j =>
                  dsimp only at o
                  split at o
                  · rename_i hj
                    exact ⟨i, j, rfl, hj, o φ1 H1 _ e1 R1 wk_rng⟩
                  · exact False.elim o
                | _ => exact False.elim o
              | _ => exact False.elim o
      · cases kws <;> cases h
    | _ => cases h
  | _ => cases h
theorem gi_rng3 {a b d : E} (ha : GE T k a) (hb : GE T k b) (hd : GE T k d) : GI T k (.rng3 a b d) := by
  intro x tg c X hx h
  cases x with
  | Call g xs kws p =>
    cases g with
    | Name y p1 =>
      rcases xs with _ | ⟨z, _ | ⟨w, _ | ⟨w2, _ | ⟨w3, xs⟩⟩⟩⟩
      · cases kws <;> cases h
      · cases kws <;> cases h
      · cases kws <;> cases h
      · cases kws with
        | cons _ _ => cases h
        | nil =>
          have h : (decide (y = ("range" : Str)) && gloB c.sc y && notStar z && notStar w && notStar w2 && chkE T c a z && chkE T c b w && chkE T c d w2) = true := h
          simp only [Bool.and_eq_true, decide_eq_true_eq] at h
          obtain ⟨⟨⟨⟨⟨⟨⟨rfl, h1⟩, h2⟩, h2'⟩, h2''⟩, h3⟩, h4⟩, h5⟩ := h
          refine (pi_range3 (hx.glo h1) hx.nms.rng ((ges_cons ha (ges_cons hb (ges_cons hd ges_nil))).pa [z, w, w2] c X hx (by show (notStar z && chkE T c a z && (notStar w && chkE T c b w && (notStar w2 && chkE T c d w2 && true))) = true; rw [h2, h3, h2', h4, h2'', h5]; rfl)) (star_cons h2) (star_any (by simp [h2', h2'']))).imp fun σ H R q => ?_
          obtain ⟨φ, S, env, Rl, re, o⟩ := q
          refine ⟨φ, S, env, Rl, re, ?_⟩
          have o : ((evE (T.run k) T.shp a env S).bind fun x S1 => (evE (T.run k) T.shp b env S1).bind fun y S2 => (evE (T.run k) T.shp d env S2).bind fun z S3 => match x, y, z with
            | .int i, .int j, .int k => if -(2 ^ 62) ≤ i ∧ i < 2 ^ 62 ∧ -(2 ^ 62) ≤ j ∧ j < 2 ^ 62 ∧ k = -1 then .ok ⟨(List.range (i - j).toNat).map fun m => .int (i - (m : Nat)), fun _ => True⟩ S3 else .no
            | _, _, _ => .no).wp fun (src : Src) S' => ∀ φ' H' b, Ext X.K φ S H φ' S' H' → Rel X.K φ' S' H' → WalkOk X.K φ' S'.length H' src b → R b H' := o
          show ((evE (T.run k) T.shp a env S).bind fun x S1 => ((evE (T.run k) T.shp b env S1).bind fun x S2 => ((evE (T.run k) T.shp d env S2).bind fun x S3 => (Res.ok [] S3).bind fun xs S2 => .ok (x :: xs) S2).bind fun xs S2 => .ok (x :: xs) S2).bind fun xs S2 => .ok (x :: xs) S2).wp _
          rw [wp_bind] at o ⊢
          refine wp_mono o fun d S1 o => ?_
          rw [wp_bind] at o ⊢
          rw [wp_bind]
          refine wp_mono o fun d2 S2 o => ?_
          rw [wp_bind] at o ⊢
          rw [wp_bind]
          refine wp_mono o fun d3 S3 o φ1 H1 v e1 R1 rv => ?_
          cases rv with
          | cons rv rn =>
            cases rn with
            | cons rv2 rn =>
              cases rn with
              | cons rv3 rn =>
                cases rn
                cases rv with
                | int i =>
                  cases rv2 with
                  | int j =>
                    cases rv3 with
                    | int m =>
                      dsimp only at o
                      split at o
                      · rename_i hj
                        obtain ⟨j1, j2, j3, j4, rfl⟩ := hj
                        exact ⟨i, j, -1, _, rfl, RgC.neg j1 j2 j3 j4, o φ1 H1 _ e1 R1 wk_rngD⟩
                      · exact False.elim o
                    | _ => exact False.elim o
                  | _ => exact False.elim o
                | _ => exact False.elim o
      · cases kws <;> cases h
    | _ => cases h
  | _ => cases h
theorem gi_enum {e : E} (he : GE T k e) : GI T k (.enum e) := by
  intro x tg c X hx h
  cases x with
  | Call g xs kws p =>
    cases g with
    | Name y p1 =>
      rcases xs with _ | ⟨z, _ | ⟨w, xs⟩⟩
      · cases kws <;> cases tg <;> cases h
      · cases kws with
        | cons _ _ => cases tg <;> cases h
        | nil =>
          cases tg with
          | Tuple elts kk tpos =>
            have h : (decide (y = ("enumerate" : Str)) && gloB c.sc y && notStar z && chkE T c e z) = true := h
            simp only [Bool.and_eq_true, decide_eq_true_eq] at h
            obtain ⟨⟨⟨rfl, h1⟩, h2⟩, h3⟩ := h
            refine (pi_enumA (hx.glo h1) hx.nms.enm ((ges_cons he ges_nil).pa [z] c X hx (by show (notStar z && chkE T c e z && true) = true; rw [h2, h3]; rfl)) (star_cons h2)).imp fun σ H R q => ?_
            obtain ⟨φ, S, env, Rl, re, o⟩ := q
            refine ⟨φ, S, env, Rl, re, ?_⟩
            have o : ((evE (T.run k) T.shp e env S).bind fun x S1 => match x with
              | .tup ds => .ok ⟨ds.zipIdx.map fun p => .tup [.int (p.2 : Nat), p.1], fun _ => True⟩ S1
              | .str z => .ok ⟨z.cps.toList.zipIdx.map fun p => .tup [.int (p.2 : Nat), .str ⟨#[p.1]⟩], fun _ => True⟩ S1
              | .loc l => match items S1 (.loc l) with
                | some ds => .ok ⟨ds.zipIdx.map fun p => .tup [.int (p.2 : Nat), p.1], fun S => items S (.loc l) = some ds⟩ S1
                | none => .no
              | _ => .no).wp fun (src : Src) S' => ∀ φ' H' b, Ext X.K φ S H φ' S' H' → Rel X.K φ' S' H' → WalkOk X.K φ' S'.length H' src b → R b H' := o
            show ((evE (T.run k) T.shp e env S).bind fun x S1 => (Res.ok [] S1).bind fun xs S2 => .ok (x :: xs) S2).wp _
            rw [wp_bind] at o ⊢
            refine wp_mono o fun d S1 o φ1 H1 v e1 R1 rv => ?_
            cases rv with
            | cons rv rn =>
              cases rn
              cases rv with
              | str z => exact .inr ⟨z, rfl, o φ1 H1 _ e1 R1 wk_enumS⟩
              | @tup ds a vs h1 h2 => exact .inl ⟨a, vs, rfl, .inr ⟨h1, o φ1 H1 _ e1 R1 (wk_enumT h1 h2)⟩⟩
              | @loc l hl =>
                dsimp only at o
                cases e : items S1 (.loc l) with
                | none => rw [e] at o; exact False.elim o
                | some ds =>
                  rw [e] at o
                  obtain ⟨_, vs, hq, _⟩ := items_loc R1 (.loc hl) e
                  exact .inl ⟨_, vs, rfl, .inl ⟨hq, o φ1 H1 _ e1 R1 (wk_enumL hl)⟩⟩
              | _ => exact False.elim o
          | _ => cases h
      · cases kws <;> cases tg <;> cases h
    | _ => cases h
  | _ => cases h
theorem gi_zip {a b : E} (ha : GE T k a) (hb : GE T k b) : GI T k (.zip a b) := by
  intro x tg c X hx h
  cases x with
  | Call g xs kws p =>
    cases g with
    | Name y p1 =>
      rcases xs with _ | ⟨z, _ | ⟨w, _ | ⟨w2, xs⟩⟩⟩
      · cases kws <;> cases tg <;> cases h
      · cases kws <;> cases tg <;> cases h
      · cases kws with
        | cons _ _ => cases tg <;> cases h
        | nil =>
          cases tg with
          | Tuple elts kk tpos =>
            have h : (decide (y = ("zip" : Str)) && gloB c.sc y && notStar z && notStar w && chkE T c a z && chkE T c b w) = true := h
            simp only [Bool.and_eq_true, decide_eq_true_eq] at h
            obtain ⟨⟨⟨⟨⟨rfl, h1⟩, h2⟩, h2'⟩, h3⟩, h4⟩ := h
            refine (RZ.pi_zipA (hx.glo h1) hx.nms.zip ((ges_cons ha (ges_cons hb ges_nil)).pa [z, w] c X hx (by show (notStar z && chkE T c a z && (notStar w && chkE T c b w && true)) = true; rw [h2, h3, h2', h4]; rfl)) (star_cons h2) (star_any (by simp [h2']))).imp fun σ H R q => ?_
            obtain ⟨φ, S, env, Rl, re, o⟩ := q
            refine ⟨φ, S, env, Rl, re, ?_⟩
            have o : ((evE (T.run k) T.shp a env S).bind fun x S1 => (evE (T.run k) T.shp b env S1).bind fun y S2 => match x, y with
              | .tup ds, .tup es => .ok ⟨(ds.zip es).map fun p => .tup [p.1, p.2], fun _ => True⟩ S2
              | .loc l, .loc m => match items S2 (.loc l), items S2 (.loc m) with
                | some ds, some es => .ok ⟨(ds.zip es).map fun p => .tup [p.1, p.2], fun S => items S (.loc l) = some ds ∧ items S (.loc m) = some es⟩ S2
                | _, _ => .no
              | _, _ => .no).wp fun (src : Src) S' => ∀ φ' H' b, Ext X.K φ S H φ' S' H' → Rel X.K φ' S' H' → WalkOk X.K φ' S'.length H' src b → R b H' := o
            show ((evE (T.run k) T.shp a env S).bind fun x S1 => ((evE (T.run k) T.shp b env S1).bind fun x S2 => (Res.ok [] S2).bind fun xs S2 => .ok (x :: xs) S2).bind fun xs S2 => .ok (x :: xs) S2).wp _
            rw [wp_bind] at o ⊢
            refine wp_mono o fun d S1 o => ?_
            rw [wp_bind] at o ⊢
            rw [wp_bind]
            refine wp_mono o fun d2 S2 o φ1 H1 v e1 R1 rv => ?_
            cases rv with
            | cons rv rn =>
              cases rn with
              | cons rv2 rn =>
                cases rn
                cases rv with
                | @tup ds a vs h1 h2 =>
                  cases rv2 with
                  | @tup ds2 a2 vs2 h3 h4 => exact ⟨a, a2, vs, vs2, rfl, .inr ⟨h1, h3, o φ1 H1 _ e1 R1 (wk_zipT h1 h3 h2 h4)⟩⟩
                  | _ => exact False.elim o
                | @loc l hl =>
                  cases rv2 with
                  | @loc m hm =>
                    dsimp only at o
                    cases e : items S2 (.loc l) with
                    | none => rw [e] at o; exact False.elim o
                    | some ds =>
                      cases e2 : items S2 (.loc m) with
                      | none => rw [e, e2] at o; exact False.elim o
                      | some ds2 =>
                        rw [e, e2] at o
                        obtain ⟨_, vs, hq, _⟩ := items_loc R1 (.loc hl) e
                        obtain ⟨_, vs2, hq2, _⟩ := items_loc R1 (.loc hm) e2
                        exact ⟨_, _, vs, vs2, rfl, .inl ⟨hq, hq2, o φ1 H1 _ e1 R1 (wk_zipL hl hm)⟩⟩
                  | _ => exact False.elim o
                | _ => exact False.elim o
          | _ => cases h
      · cases kws <;> cases tg <;> cases h
    | _ => cases h
  | _ => cases h
end
end Wk

set_option Elab.async false
set_option linter.all false
set_option maxRecDepth 100000
set_option maxHeartbeats 4000000
namespace Wk
open PySem PySem.Spec PyProof.Rows L2

/-! ### targets -/
def Frm (sl : List Nat) (σ σ' : L2.St) : Prop := σ'.length = σ.length ∧ ∀ i, i ∉ sl → σ'[i]? = σ[i]?
theorem Frm.refl {sl : List Nat} {σ : L2.St} : Frm sl σ σ := ⟨rfl, fun _ _ => rfl⟩
theorem Frm.trans {a b : List Nat} {σ σ1 σ2 : L2.St} (h : Frm a σ σ1) (g : Frm b σ1 σ2) : Frm (a ++ b) σ σ2 :=
  ⟨g.1.trans h.1, fun i hi => (g.2 i fun z => hi (List.mem_append_right _ z)).trans (h.2 i fun z => hi (List.mem_append_left _ z))⟩
def rT (K : PySem.W.Frag) (sl : List Nat) (σ : L2.St) : RR Env L2.St := fun φ n H env' σ' => RE K φ n H env' σ' ∧ Frm sl σ σ'
def LG (K : PySem.W.Frag) (sl : List Nat) (f : D → Env → Sto → Res Env) : TG := fun v σ H Q => ∃ φ S env d, Rel K φ S H ∧ RE K φ S.length H env σ ∧ RV K φ S.length H d v ∧ OutG K (rT K sl σ) φ S H (f d env S) Q
def LGs (K : PySem.W.Frag) (sl : List Nat) (f : List D → Env → Sto → Res Env) : TGs := fun vs σ H Q => ∃ φ S env ds, Rel K φ S H ∧ RE K φ S.length H env σ ∧ RVs K φ S.length H ds vs ∧ OutG K (rT K sl σ) φ S H (f ds env S) Q
theorem RE.set {K : PySem.W.Frag} {φ : Nat → Addr} {n : Nat} {H : Hp} {env : Env} {σ : L2.St} {i : Nat} {d : D} {v : V} (h : RE K φ n H env σ) (r : RV K φ n H d v) : RE K φ n H (env.set i (some d)) (σ.set i (some v)) := by
  refine ⟨by rw [List.length_set, List.length_set]; exact h.1, fun j e hj => ?_⟩
  by_cases hij : i = j
  · subst hij
    have hl : i < env.length := by have := (List.getElem?_eq_some_iff.mp hj).1; simpa using this
    rw [List.getElem?_set_self hl] at hj
    cases hj
    exact ⟨v, List.getElem?_set_self (by rw [h.1]; exact hl), r⟩
  · rw [List.getElem?_set_ne hij] at hj
    obtain ⟨u, h1, h2⟩ := h.2 j e hj
    exact ⟨u, by rw [List.getElem?_set_ne hij]; exact h1, h2⟩
theorem RE.wipe {K : PySem.W.Frag} {φ : Nat → Addr} {n : Nat} {H : Hp} {env : Env} {σ : L2.St} (h : RE K φ n H env σ) : ∀ vs : List Nat, RE K φ n H (wipeE env vs) (L2.wipe σ vs)
  | [] => h
  | v :: vs => by
    have ih := RE.wipe h vs
    refine ⟨by show ((L2.wipe σ vs).set v none).length = ((wipeE env vs).set v none).length; rw [List.length_set, List.length_set]; exact ih.1, fun j e hj => ?_⟩
    have hj : ((wipeE env vs).set v none)[j]? = some (some e) := hj
    show ∃ u, ((L2.wipe σ vs).set v none)[j]? = some (some u) ∧ _
    by_cases hvj : v = j
    · subst hvj
      have hl : v < (wipeE env vs).length := by have := (List.getElem?_eq_some_iff.mp hj).1; simpa using this
      rw [List.getElem?_set_self hl] at hj
      cases hj
    · rw [List.getElem?_set_ne hvj] at hj
      rw [List.getElem?_set_ne hvj]
      exact ih.2 j e hj
theorem wipe_in {σ : L2.St} {i : Nat} (hi : i < σ.length) : ∀ {vs : List Nat}, i ∈ vs → (wipe σ vs)[i]? = some none
  | [], h => by cases h
  | v :: vs, h => by
    show ((L2.wipe σ vs).set v none)[i]? = some none
    by_cases hv : v = i
    · subst hv
      exact List.getElem?_set_self (by rw [wipe_length]; exact hi)
    · rw [List.getElem?_set_ne hv]
      exact wipe_in hi ((List.mem_cons.mp h).resolve_left (fun z => hv z.symm))
theorem wipe_frm {σ σ2 : L2.St} {sl own : List Nat} (h : Frm sl (wipe σ own) σ2) (hs : ∀ i ∈ sl, i ∈ own) : wipe σ2 own = wipe σ own := by
  have hl : σ2.length = σ.length := by rw [h.1, wipe_length]
  refine List.ext_getElem? fun i => ?_
  by_cases hi : i ∈ own
  · by_cases hz : i < σ.length
    · rw [wipe_in hz hi, wipe_in (by rw [hl]; exact hz) hi]
    · rw [List.getElem?_eq_none (by rw [wipe_length, hl]; omega), List.getElem?_eq_none (by rw [wipe_length]; omega)]
  · rw [wipe_out hi, h.2 i fun z => hi (hs i z)]
section
variable {T : Txt} {k : Nat} {c : Ck} {X : Cx}
def GT (T : Txt) (k : Nat) (t : Tg) : Prop := ∀ (x : Expr) (c : Ck) (X : Cx), XO T k c X → chkT T c t x = true → PG X x (LG X.K (slT t) (asT (T.run k) T.shp t))
def GTs (T : Txt) (k : Nat) (ts : Tgs) : Prop := ∀ (xs : List Expr) (c : Ck) (X : Cx), XO T k c X → chkTs T c ts xs = true → PGs X xs (LGs X.K (slTs ts) (asTs (T.run k) T.shp ts))
theorem gt_name (i : Nat) : GT T k (.name i) := by
  intro x c X hx h
  cases x with
  | Name y p =>
    have h : (decide (c.N[i]? = some y) && c.so y) = true := h
    rw [Bool.and_eq_true, decide_eq_true_eq] at h
    obtain ⟨h1, h2⟩ := h
    obtain ⟨h3, h4⟩ := hx.so y h2
    refine (pg_name hx.ndX (by rw [hx.eN]; exact h1) h3 h4).imp fun v σ H Q ⟨φ, S, env, d, R, re, rv, o⟩ => ?_
    exact OutG.here (R1 := rT X.K [i] σ) o R ⟨re.set rv, by rw [List.length_set], fun j hj => List.getElem?_set_ne fun z => hj (by simp [z])⟩
  | _ => cases h
theorem asts_len : ∀ {ts : Tgs} {xs : List Expr} {ds : List D} {env env' : Env} {S S' : Sto}, chkTs T c ts xs = true → asTs (T.run k) T.shp ts ds env S = .ok env' S' → ds.length = xs.length
  | .nil, [], [], _, _, _, _, _, _ => rfl
  | .nil, [], _ :: _, _, _, _, _, _, h => by cases h
  | .nil, _ :: _, _, _, _, _, _, h, _ => by cases h
  | .cons _ _, [], _, _, _, _, _, h, _ => by cases h
  | .cons _ _, _ :: _, [], _, _, _, _, _, h => by cases h
  | .cons t ts, x :: r, d :: ds, env, env', S, S', h, e => by
    have h' : (notStar x && chkT T c t x && chkTs T c ts r) = true := h
    simp only [Bool.and_eq_true] at h'
    have e : ((asT (T.run k) T.shp t d env S).bind fun env1 S1 => asTs (T.run k) T.shp ts ds env1 S1) = .ok env' S' := e
    obtain ⟨d1, S1, e1, e⟩ := bind_inv e
    exact congrArg (· + 1) (asts_len h'.2 e)
theorem ae_cons {x : Expr} {xs : List Expr} {env : PySem.Env} (h : notStar x = true) : assignEach (x :: xs) env = (false, assign x env) :: assignEach xs env := by
  cases x <;> first | rfl | cases h
theorem ae_facts {ts : Tgs} {env : PySem.Env} : ∀ {xs : List Expr}, xs.all notStar = true → (assignEach xs env).length = xs.length ∧ (assignEach xs env).findIdx? (·.1) = none
  | [], _ => ⟨rfl, rfl⟩
  | x :: xs, h => by
    rw [List.all_cons, Bool.and_eq_true] at h
    obtain ⟨h1, h2⟩ := ae_facts (ts := ts) (env := env) h.2
    rw [ae_cons h.1]
    refine ⟨congrArg (· + 1) h1, ?_⟩
    rw [List.findIdx?_cons]
    simp [h2]
theorem chkTs_star : ∀ {ts : Tgs} {xs : List Expr}, chkTs T c ts xs = true → xs.all notStar = true
  | .nil, [], _ => rfl
  | .nil, _ :: _, h => by cases h
  | .cons _ _, [], h => by cases h
  | .cons t ts, x :: r, h => by
    have h' : (notStar x && chkT T c t x && chkTs T c ts r) = true := h
    simp only [Bool.and_eq_true] at h'
    rw [List.all_cons, Bool.and_eq_true]
    exact ⟨h'.1.1, chkTs_star h'.2⟩
theorem gt_tup {ts : Tgs} (hs : GTs T k ts) : GT T k (.tup ts) := by
  intro x c X hx h
  cases x with
  | Tuple xs a p =>
    have h : chkTs T c ts xs = true := h
    obtain ⟨f1, f2⟩ := ae_facts (ts := ts) (env := X.env) (chkTs_star h)
    refine (pg_tup hx.calm (hs xs c X hx h) f1 f2).imp fun v σ H Q ⟨φ, S, env, d, R, re, rv, o⟩ => ?_
    cases rv with
    | @tup ds a vs h1 h2 =>
      have o : OutG X.K (rT X.K (slTs ts) σ) φ S H (asTs (T.run k) T.shp ts ds env S) Q := o
      refine ⟨a, vs, rfl, h1, ?_, φ, S, env, ds, R, re, h2, o⟩
      cases e : asTs (T.run k) T.shp ts ds env S with
      | no => rw [e] at o; exact False.elim o
      | ok env' S' => rw [← h2.length]; exact asts_len h e
    | _ => exact False.elim o
  | _ => cases h
theorem gts_nil : GTs T k .nil := by
  intro xs c X hx h
  cases xs with
  | cons _ _ => cases h
  | nil =>
    refine pgs_nil.imp fun vs σ H Q ⟨φ, S, env, ds, R, re, rv, o⟩ => ?_
    cases rv with
    | nil => exact ⟨rfl, OutG.here (R1 := rT X.K [] σ) o R ⟨re, .refl⟩⟩
    | cons _ _ => exact False.elim o
theorem gts_cons {t : Tg} {ts : Tgs} (ht : GT T k t) (hs : GTs T k ts) : GTs T k (.cons t ts) := by
  intro xs c X hx h
  cases xs with
  | nil => cases h
  | cons x r =>
    have h' : (notStar x && chkT T c t x && chkTs T c ts r) = true := h
    simp only [Bool.and_eq_true] at h'
    refine (pgs_cons (ht x c X hx h'.1.2) (hs r c X hx h'.2) (by rw [ae_cons h'.1.1]; rfl)).imp fun vs σ H Q ⟨φ, S, env, ds, R, re, rv, o⟩ => ?_
    cases rv with
    | nil => exact False.elim o
    | @cons d ds v vs r1 r2 =>
      refine ⟨v, vs, rfl, φ, S, env, d, R, re, r1, ?_⟩
      have o : ((asT (T.run k) T.shp t d env S).bind fun env1 S1 => asTs (T.run k) T.shp ts ds env1 S1).wp fun a S' => ∀ φ' H' b, Ext X.K φ S H φ' S' H' → Rel X.K φ' S' H' → rT X.K (slT t ++ slTs ts) σ φ' S'.length H' a b → Q b H' := o
      rw [wp_bind] at o
      refine wp_mono o fun env1 S1 o φ1 H1 σ1 e1 R1 ⟨re1, fr1⟩ => ⟨φ1, S1, env1, ds, R1, re1, r2.mono e1, wp_mono o fun env2 S2 o φ2 H2 σ2 e2 R2 ⟨re2, fr2⟩ => o φ2 H2 σ2 (e1.trans e2) R2 ⟨re2, fr1.trans fr2⟩⟩
theorem asg_sub {o i : Expr} {env : PySem.Env} {pos : Pos} (h : ixB i = true) : ∀ v, assign (.Subscript o i pos) env v = (do
      let ov ← holding [v] (eval o env)
      let iv ← holding [v, ov] (eval i env)
      standAt pos
      holding [v, ov, iv] (setItem ov iv v)
      release [v, ov, iv] []) := by
  intro v
  cases i <;> first | rfl | cases h
theorem gt_sub {a i : E} (ha : GE T k a) (hi : GE T k i) : GT T k (.sub a i) := by
  intro x c X hx h
  cases x with
  | Subscript y z p =>
    have h : (ixB z && chkE T c a y && chkE T c i z) = true := h
    simp only [Bool.and_eq_true] at h
    refine (pg_sub (ha y c X hx h.1.2).1 (hi z c X hx h.2).1 (set_seqD (by have := room_gu hx; omega)) (asg_sub h.1.1)).imp fun v σ H Q ⟨φ, S, env, d, R, re, rv, o⟩ => ?_
    have o : ((evE (T.run k) T.shp a env S).bind fun x S1 => (evE (T.run k) T.shp i env S1).bind fun y S2 => (setop x y d S2).bind fun _ S3 => .ok env S3).wp fun a S' => ∀ φ' H' b, Ext X.K φ S H φ' S' H' → Rel X.K φ' S' H' → rT X.K [] σ φ' S'.length H' a b → Q b H' := o
    rw [wp_bind] at o
    refine ⟨φ, S, env, R, re, wp_mono o fun x S1 o φ1 H1 xv e1 R1 r1 => ?_⟩
    rw [wp_bind] at o
    refine ⟨φ1, S1, env, R1, re.mono e1, wp_mono o fun y S2 o φ2 H2 yv e2 R2 r2 => ?_⟩
    rw [wp_bind] at o
    refine ⟨φ2, S2, x, y, d, R2, r1.mono e2, r2, rv.mono (e1.trans e2), wp_mono o fun _ S3 o φ3 H3 e3 R3 => ?_⟩
    have o : ∀ φ' H' b, Ext X.K φ S H φ' S3 H' → Rel X.K φ' S3 H' → rT X.K [] σ φ' S3.length H' env b → Q b H' := o
    exact o φ3 H3 σ ((e1.trans e2).trans e3) R3 ⟨re.mono ((e1.trans e2).trans e3), .refl⟩
  | _ => cases h

/-! ### comprehensions -/
def ifsB (f : E → Expr → Bool) (cond : Oe) (ifs : List Expr) : Bool := match ifs with
  | [] => (match cond with | .none => true | .some _ => false)
  | [w] => (match cond with | .none => false | .some d => f d w)
  | _ => false
/-- the tests of a clause -/
def GC (T : Txt) (k : Nat) : Oe → Prop
  | .none => True
  | .some e => GE T k e
theorem gc_pts {cond : Oe} (hc : GC T k cond) {ifs : List Expr} (hx : XO T k c X) (h : ifsB (chkE T c) cond ifs = true) : PTs X ifs (L X.K rEq (tsO (T.run k) T.shp cond)) := by
  rcases ifs with _ | ⟨w, _ | ⟨w2, ifs⟩⟩
  · cases cond with
    | none => exact pts_nil.imp fun σ H Q ⟨φ, S, env, R, re, o⟩ => OutG.here (R1 := rEq) o R rfl
    | some _ => cases h
  · cases cond with
    | none => cases h
    | some d => exact pts_one ((hc : GE T k d) w c X hx h).2
  · cases h
theorem blk_ok {c : Ck} (hx : XO T k c X) (s : Shared) (H : Hp) (scope : Scope) (C : Addr) (cl : List (Str × Addr)) (fp : List Addr) : XO T k (c.blk scope) (X.blk s H scope (compEnvC scope cl C X.env) fp) := by
  have e : (compEnvC scope cl C X.env).scope = relS scope c.sc := by rw [← hx.eS]; rfl
  have kp : ∀ {y : Str} {kk : NameKind}, kk ≠ .free → scope.names.lookup y = some kk → (relS scope c.sc).names.lookup y = some kk := fun h1 h2 => lookup_relS_keep h1 h2
  refine ⟨hx.eN, e, hx.nd, hx.calm, rfl, hx.room, hx.grd, fun y hy => ?_, hx.fns, hx.nms⟩
  have hy : (match scope.names.lookup y with | some .local => true | some .cell => true | _ => false) = true := hy
  show Loc (compEnvC scope cl C X.env).scope y ∧ ((scope.names.lookup y == some .cell) = true ∨ (compEnvC scope cl C X.env).scope.names.lookup y = some .local)
  rw [e]
  split at hy
  · rename_i e1
    exact ⟨.inl (kp (by decide) e1), .inr (kp (by decide) e1)⟩
  · rename_i e1
    exact ⟨.inr (kp (by decide) e1), .inl (by rw [e1]; rfl)⟩
  · cases hy
theorem fold_ok {iter : Expr} {env : PySem.Env} (h : notSet iter = true) : ∀ x, foldedSetIterable iter env x = pure x := by
  intro x
  cases iter <;> first | rfl | cases h
theorem own_snd {N : List Str} : ∀ {own : List Nat}, (ownB N own).map (·.2) = own
  | [] => rfl
  | a :: r => congrArg (a :: ·) own_snd
/-- what is seen of a comprehension's text -/
structure LcOk (T : Txt) (c : Ck) (own : List Nat) (t : Tg) (it : It) (cond : Oe) (e : E) (elt tg iter : Expr) (ifs : List Expr) (scope : Scope) : Prop where
  blk : blkC c.N c.sc scope (ownB c.N own) = true
  ns : notSet iter = true
  sl : ∀ i ∈ slT t, i ∈ own
  it : chkI T c it iter tg = true
  tg : chkT T (c.blk scope) t tg = true
  ifs : ifsB (chkE T (c.blk scope)) cond ifs = true
  elt : chkE T (c.blk scope) e elt = true
theorem inv_lc {own : List Nat} {t : Tg} {it : It} {cond : Oe} {e : E} {x : Expr} (h : chkE T c (.lc own t it cond e) x = true) :
    ∃ elt tg iter ifs scope pos, x = .ListComp elt [⟨tg, iter, ifs, 0⟩] scope pos ∧ LcOk T c own t it cond e elt tg iter ifs scope := by
  cases x with
  | ListComp elt gs scope pos =>
    rcases gs with _ | ⟨⟨tg, iter, ifs, kk⟩, _ | ⟨g2, gs⟩⟩
    · cases h
    · cases kk with
      | negSucc _ => cases h
      | ofNat kn =>
      cases kn with
      | succ _ => cases h
      | zero =>
        refine ⟨elt, tg, iter, ifs, scope, pos, rfl, ?_⟩
        have h : (blkC c.N c.sc scope (ownB c.N own) && notSet iter && ((slT t).all fun i => decide (i ∈ own)) && chkI T c it iter tg && chkT T (c.blk scope) t tg && ifsB (chkE T (c.blk scope)) cond ifs && chkE T (c.blk scope) e elt) = true := by rcases ifs with _ | ⟨w, _ | ⟨w2, ifs⟩⟩ <;> cases cond <;> exact h
        rw [Bool.and_eq_true, Bool.and_eq_true, Bool.and_eq_true, Bool.and_eq_true, Bool.and_eq_true, Bool.and_eq_true] at h
        obtain ⟨⟨⟨⟨⟨⟨h1, h2⟩, h3⟩, h4⟩, h5⟩, h6⟩, h7⟩ := h
        exact ⟨h1, h2, fun i hi => of_decide_eq_true (List.all_eq_true.mp h3 i hi), h4, h5, h6, h7⟩
    · cases kk with
      | negSucc _ => cases h
      | ofNat kn => cases kn <;> cases h
  | _ => cases h
open Classical in
/-- the reading of a comprehension meets what HandS asks -/
theorem lc_step {own : List Nat} {t : Tg} {it : It} {cond : Oe} {e : E} (hs : ∀ i ∈ slT t, i ∈ own) {σ : L2.St} {H : Hp} {Q : VK} (q : L X.K (RV X.K) (evE (T.run k) T.shp (.lc own t it cond e)) σ H Q) :
    tLc (L X.K (WalkOk X.K) (evI (T.run k) T.shp it)) (LG X.K (slT t) (asT (T.run k) T.shp t)) (L X.K rEq (tsO (T.run k) T.shp cond)) (L X.K (RV X.K) (evE (T.run k) T.shp e)) own σ H Q := by
  obtain ⟨φ, S, env, R, re, o⟩ := q
  refine ⟨φ, S, env, R, re, ?_⟩
  generalize hb : (fun (x : D) (S2 : Sto) => (asT (T.run k) T.shp t x (wipeE env own) S2).bind fun env2 S3 => (tsO (T.run k) T.shp cond env2 S3).bind fun b S4 => if b then (evE (T.run k) T.shp e env2 S4).bind fun y S5 => Res.ok (some y) S5 else .ok none S4) = body
  have o : ((evI (T.run k) T.shp it env S).bind fun src S1 => (lcGo body src.keep [] src.items S1).bind fun ys S6 => alloc S6 (.lst ys)).wp fun a S' => ∀ φ' H' b, Ext X.K φ S H φ' S' H' → Rel X.K φ' S' H' → RV X.K φ' S'.length H' a b → Q b H' := by
    rw [← hb]; exact o
  rw [wp_bind] at o
  refine wp_mono o fun src S1 o φ1 H1 J e1 R1 wk D hD => ?_
  -- from here all is told from φ1, S1, H1
  have base : ∀ {r : Res Wk.D}, (r.wp fun a S' => ∀ φ' H' b, Ext X.K φ S H φ' S' H' → Rel X.K φ' S' H' → RV X.K φ' S'.length H' a b → Q b H') → OutG X.K (RV X.K) φ1 S1 H1 r Q := fun h => OutG.pre (R1 := RV X.K) e1 h
  have o := base o
  have re1 := re.mono e1
  refine ⟨fun i m Hc => m = src.items.length - i ∧ i ≤ src.items.length ∧ ∃ φi Si acc avs, Ext X.K φ1 S1 H1 φi Si Hc ∧ Rel X.K φi Si Hc ∧ Off φi Si D ∧ Hc D = some (.lst avs) ∧ RVs X.K φi Si.length Hc acc avs ∧
    OutG X.K (RV X.K) φ1 S1 H1 ((lcGo body src.keep acc (src.items.drop i) Si).bind fun ys S6 => alloc S6 (.lst ys)) Q, ⟨src.items.length, rfl, Nat.zero_le _, φ1, S1, [], [], Ext.fresh hD, R1.at_new hD, Off.start R1 hD, upd_same, .nil, o⟩, ?_⟩
  rintro i m Hc ⟨rfl, hi, φi, Si, acc, avs, ei, Ri, off, hDi, ra, oi⟩
  by_cases hlt : i < src.items.length
  · refine .inr ?_
    have ed : src.items.drop i = src.items[i] :: src.items.drop (i + 1) := List.drop_eq_getElem_cons hlt
    have eg : src.items[i]? = some src.items[i] := List.getElem?_eq_getElem hlt
    generalize src.items[i] = d at ed eg
    rw [ed] at oi
    have oi : OutG X.K (RV X.K) φ1 S1 H1 ((if src.keep Si then (body d Si).bind fun o S1 => match o with
        | some y => if acc.length < sizeLine then lcGo body src.keep (acc ++ [y]) (src.items.drop (i + 1)) S1 else .no
        | none => lcGo body src.keep acc (src.items.drop (i + 1)) S1 else .no).bind fun ys S6 => alloc S6 (.lst ys)) Q := oi
    by_cases hk : src.keep Si
    case neg => rw [if_neg hk] at oi; exact False.elim oi
    rw [if_pos hk] at oi
    obtain ⟨wgo, _⟩ := wk φi Si Hc (ei.up) Ri hk i
    obtain ⟨go, yld⟩ := wgo d eg
    refine ⟨go, fun H' => (i + 1) ≤ src.items.length ∧ ∃ φi Si acc avs, Ext X.K φ1 S1 H1 φi Si H' ∧ Rel X.K φi Si H' ∧ Off φi Si D ∧ H' D = some (.lst avs) ∧ RVs X.K φi Si.length H' acc avs ∧
      OutG X.K (RV X.K) φ1 S1 H1 ((lcGo body src.keep acc (src.items.drop (i + 1)) Si).bind fun ys S6 => alloc S6 (.lst ys)) Q, fun H' ⟨hl, hh⟩ => ⟨src.items.length - (i + 1), by omega, rfl, hl, hh⟩, fun x H' y => ?_⟩
    obtain ⟨ey, Ry, ry⟩ := yld x H' y
    rw [← hb] at oi
    unfold OutG at oi
    rw [wp_bind, wp_bind, wp_bind] at oi
    have rei : RE X.K φi Si.length H' env σ := (re1.mono (ei)).mono ey
    refine ⟨φi, Si, wipeE env own, d, Ry, rei.wipe own, ry, wp_mono oi fun env2 S3 o φ3 H2 σ2 e3 R3 ⟨re3, fr⟩ => ⟨wipe_frm fr hs, ?_⟩⟩
    rw [wp_bind] at o
    refine ⟨φ3, S3, env2, R3, re3, wp_mono o fun b S4 o φ4 H3 b' e4 R4 eb => ?_⟩
    subst eb
    have ex4 : Ext X.K φi Si Hc φ4 S4 H3 := (ey.trans e3).trans e4
    have nD : Hc D ≠ none := by rw [hDi]; simp
    cases b' with
    | false =>
      exact ⟨hlt, φ4, S4, acc, avs, ei.trans ex4, R4, off.ext ex4 nD, ex4.frame D _ hDi off, ra.mono ex4, by rw [hb] at o; exact (wp_bind.mpr o)⟩
    | true =>
      have o : ((evE (T.run k) T.shp e env2 S4).bind fun y S5 => Res.ok (some y) S5).wp _ := o
      rw [wp_bind] at o
      refine ⟨φ4, S4, env2, R4, re3.mono e4, wp_mono o fun y S5 o φ5 H4 yv e5 R5 r5 => ?_⟩
      have ex5 : Ext X.K φi Si Hc φ5 S5 H4 := ex4.trans e5
      have hD5 : H4 D = some (.lst avs) := ex5.frame D _ hDi off
      have off5 := off.ext ex5 nD
      rw [hb] at o
      have o : (if acc.length < sizeLine then lcGo body src.keep (acc ++ [y]) (src.items.drop (i + 1)) S5 else .no).wp _ := o
      have hz : acc.length < sizeLine := by
        by_cases hz : acc.length < sizeLine
        · exact hz
        · rw [if_neg hz] at o; exact False.elim o
      rw [if_pos hz] at o
      refine ⟨avs, hD5, by rw [← ra.length]; exact hz, hlt, φ5, S5, acc ++ [y], avs ++ [yv], (ei.trans ex5).off hD (dull_t hD5 trivial), R5.off off5 hD5 trivial, off5, upd_same, ((ra.mono ex5).append (.cons r5 .nil)).up (Up.off hD5 trivial), (wp_bind.mpr o)⟩
  · have e0 : i = src.items.length := by omega
    have ed : src.items.drop i = [] := List.drop_eq_nil_of_le (by omega)
    rw [ed] at oi
    have oi : OutG X.K (RV X.K) φ1 S1 H1 ((if src.keep Si then Res.ok acc Si else .no).bind fun ys S6 => alloc S6 (.lst ys)) Q := oi
    by_cases hk : src.keep Si
    case neg => rw [if_neg hk] at oi; exact False.elim oi
    rw [if_pos hk] at oi
    obtain ⟨_, wst⟩ := wk φi Si Hc (ei.up) Ri hk i
    refine .inl ⟨wst (by omega), ?_⟩
    have oi : ∀ φ' H' b, Ext X.K φ1 S1 H1 φ' (Si ++ [.lst acc]) H' → Rel X.K φ' (Si ++ [.lst acc]) H' → RV X.K φ' (Si ++ [O.lst acc]).length H' (.loc Si.length) b → Q b H' := oi
    have r : RV X.K (put φi Si.length D) (Si ++ [O.lst acc]).length Hc (.loc Si.length) (.ref (put φi Si.length D Si.length)) := .loc (by simp)
    rw [put_eq] at r
    exact oi _ Hc (.ref D) (ei.adopt hD) (Ri.adopt off ⟨avs, hDi, ra.up (Up.adopt fun l hl => put_lt hl)⟩) r
theorem ge_lc {own : List Nat} {t : Tg} {it : It} {cond : Oe} {e : E} (hi : GI T k it) (ht : GT T k t) (hcd : GC T k cond) (he : GE T k e) : GE T k (.lc own t it cond e) := by
  intro x c X hx h
  obtain ⟨elt, tg, iter, ifs, scope, pos, rfl, lk⟩ := inv_lc h
  have pe : PE X (.ListComp elt [⟨tg, iter, ifs, 0⟩] scope pos) (L X.K (RV X.K) (evE (T.run k) T.shp (.lc own t it cond e))) := by
    have := pe_lc (pos := pos) (g := LG X.K (slT t) (asT (T.run k) T.shp t)) (tt := L X.K rEq (tsO (T.run k) T.shp cond)) (te := L X.K (RV X.K) (evE (T.run k) T.shp e)) hx.calm hx.ndX (hi iter tg c X hx lk.it) (own := ownB c.N own) (blkOk_by (by rw [hx.eN, hx.eS]; exact lk.blk))
      (fun s H C cl fp => ht tg (c.blk scope) _ (blk_ok hx s H scope C cl fp) lk.tg)
      (fun s H C cl fp => gc_pts hcd (blk_ok hx s H scope C cl fp) lk.ifs)
      (fun s H C cl fp => (he elt (c.blk scope) _ (blk_ok hx s H scope C cl fp) lk.elt).1) (fold_ok lk.ns)
    rw [own_snd] at this
    exact this.imp fun σ H Q q => lc_step lk.sl q
  exact ⟨pe, pt_of pe rfl⟩

theorem inv_lrg1 {tp : Bool} {a : E} {x : Expr} (h : chkE T c (.lrg1 tp a) x = true) : ∃ y p1 r p2 z p3 p, x = .Call (.Name y p1) [.Call (.Name r p2) [z] [] p3] [] p ∧ (decide ((if tp = true then "tuple" else "list" : Str) = y) && decide (r = ("range" : Str)) && gloB c.sc y && gloB c.sc r && notStar z && chkE T c a z) = true := by
  have h : (match (generalizing := false) x with
    | .Call (.Name y _) [.Call (.Name r _) [z] [] _] [] _ => decide ((if tp = true then "tuple" else "list" : Str) = y) && decide (r = ("range" : Str)) && gloB c.sc y && gloB c.sc r && notStar z && chkE T c a z
    | _ => false) = true := h
  split at h
  · exact ⟨_, _, _, _, _, _, _, rfl, h⟩
  · cases h
theorem inv_lrg2 {tp : Bool} {a b : E} {x : Expr} (h : chkE T c (.lrg2 tp a b) x = true) : ∃ y p1 r p2 z w p3 p, x = .Call (.Name y p1) [.Call (.Name r p2) [z, w] [] p3] [] p ∧ (decide ((if tp = true then "tuple" else "list" : Str) = y) && decide (r = ("range" : Str)) && gloB c.sc y && gloB c.sc r && notStar z && notStar w && chkE T c a z && chkE T c b w) = true := by
  have h : (match (generalizing := false) x with
    | .Call (.Name y _) [.Call (.Name r _) [z, w] [] _] [] _ => decide ((if tp = true then "tuple" else "list" : Str) = y) && decide (r = ("range" : Str)) && gloB c.sc y && gloB c.sc r && notStar z && notStar w && chkE T c a z && chkE T c b w
    | _ => false) = true := h
  split at h
  · exact ⟨_, _, _, _, _, _, _, _, rfl, h⟩
  · cases h
theorem rvs_rg {K : PySem.W.Frag} {φ : Nat → Addr} {n : Nat} {H : Hp} {i j : Int} : RVs K φ n H (rgD i j) (rgV i j) := by
  unfold rgD rgV
  induction (List.range (j - i).toNat) with
  | nil => exact .nil
  | cons k r ih => exact .cons (.int _) ih
theorem lrg_fin {tp : Bool} {φ : Nat → Addr} {S : Sto} {H : Hp} {i j : Int} {Q : VK} (R : Rel X.K φ S H) (o : Out X.K φ S H (lrgop tp (.int i) (.int j) S) Q) :
    RgOk i j ∧ (tp = false → ∀ q, H q = none → Q (.ref q) (upd H q (.lst (rgV i j)))) ∧ (tp = true → ∀ q, H q = none → Q (.ref q) (upd H q (.tup (rgV i j)))) := by
  by_cases g : RgOk i j
  · refine ⟨g, fun e => ?_, fun e => ?_⟩
    · subst e
      have o : Out X.K φ S H (alloc S (.lst (rgD i j))) Q := by
        have e : lrgop false (.int i) (.int j) S = alloc S (.lst (rgD i j)) := if_pos g
        rw [e] at o; exact o
      exact o.alloc R rvs_rg
    · subst e
      have o : Out X.K φ S H (.ok (.tup (rgD i j)) S) Q := by
        have e : lrgop true (.int i) (.int j) S = .ok (.tup (rgD i j)) S := if_pos g
        rw [e] at o; exact o
      exact o.tup R rvs_rg
  · exfalso
    have e : lrgop tp (.int i) (.int j) S = .no := if_neg g
    rw [e] at o; exact o
theorem ge_lrg1 {tp : Bool} {a : E} (ha : GE T k a) : GE T k (.lrg1 tp a) := by
  intro x c X hx h
  replace h := inv_lrg1 h
  obtain ⟨y, p1, r, p2, z, p3, p, rfl, h⟩ := h
  simp only [Bool.and_eq_true, decide_eq_true_eq] at h
  obtain ⟨⟨⟨⟨⟨rfl, rfl⟩, h1⟩, h2⟩, h3⟩, h4⟩ := h
  have hr := prg_1 (pos := p3) (p := p2) (hx.glo h2) hx.nms.rng (ha z c X hx h4).1 (star_cons h3)
  have fin : ∀ {σ : L2.St} {H : Hp} {Q : VK}, L X.K (RV X.K) (evE (T.run k) T.shp (.lrg1 tp a)) σ H Q → L X.K (RV X.K) (evE (T.run k) T.shp a) σ H fun x H1 => ∃ n, x = .int n ∧ RgOk 0 n ∧ (tp = false → ∀ q, H1 q = none → Q (.ref q) (upd H1 q (.lst (rgV 0 n)))) ∧ (tp = true → ∀ q, H1 q = none → Q (.ref q) (upd H1 q (.tup (rgV 0 n)))) := fun {σ H Q} q => by
    obtain ⟨φ, S, env, R, re, o⟩ := L.step (R1 := RV X.K) (k := fun _ x S1 => lrgop tp (.int 0) x S1) q
    refine ⟨φ, S, env, R, re, wp_mono o fun d S1 q1 φ1 H1 v e1 R1 rv => ?_⟩
    obtain ⟨φ2, S2, env2, d2, R2, re2, rv2, o2⟩ := q1 φ1 H1 v e1 R1 rv
    cases rv2 with
    | int n => exact ⟨n, rfl, lrg_fin R2 o2⟩
    | _ => exact False.elim o2
  have pe : PE X (.Call (.Name (if tp = true then "tuple" else "list") p1) [.Call (.Name "range" p2) [z] [] p3] [] p) (L X.K (RV X.K) (evE (T.run k) T.shp (.lrg1 tp a))) := by
    cases tp with
    | false =>
      refine (pe_listRg hx.calm (hx.glo h1) (hx.nms.blt .list) hr).imp fun σ H Q q => ?_
      have f := fin q
      obtain ⟨φ, S, env, R, re, o⟩ := f
      exact ⟨φ, S, env, R, re, wp_mono o fun d S1 q1 φ1 H1 v e1 R1 rv => let ⟨n, e, g, g1, _⟩ := q1 φ1 H1 v e1 R1 rv; ⟨n, e, g, g1 rfl⟩⟩
    | true =>
      refine (pe_tupRg hx.calm (hx.glo h1) (hx.nms.blt .tuple) hr).imp fun σ H Q q => ?_
      have f := fin q
      obtain ⟨φ, S, env, R, re, o⟩ := f
      exact ⟨φ, S, env, R, re, wp_mono o fun d S1 q1 φ1 H1 v e1 R1 rv => let ⟨n, e, g, _, g1⟩ := q1 φ1 H1 v e1 R1 rv; ⟨n, e, g, g1 rfl⟩⟩
  exact ⟨pe, pt_of pe rfl⟩
theorem ge_lrg2 {tp : Bool} {a b : E} (ha : GE T k a) (hb : GE T k b) : GE T k (.lrg2 tp a b) := by
  intro x c X hx h
  replace h := inv_lrg2 h
  obtain ⟨y, p1, r, p2, z, w, p3, p, rfl, h⟩ := h
  simp only [Bool.and_eq_true, decide_eq_true_eq] at h
  obtain ⟨⟨⟨⟨⟨⟨⟨rfl, rfl⟩, h1⟩, h2⟩, h3⟩, h5⟩, h4⟩, h6⟩ := h
  have hr := prg_2 (pos := p3) (p := p2) (hx.glo h2) hx.nms.rng (ha z c X hx h4).1 (hb w c X hx h6).1 (star_cons h3) (star_cons h5) (star_any (by rw [List.all_cons, h5]; rfl))
  have fin : ∀ {σ : L2.St} {H : Hp} {Q : VK}, L X.K (RV X.K) (evE (T.run k) T.shp (.lrg2 tp a b)) σ H Q → L X.K (RV X.K) (evE (T.run k) T.shp a) σ H fun x H1 => L X.K (RV X.K) (evE (T.run k) T.shp b) σ H1 fun y H2 => ∃ m n, x = .int m ∧ y = .int n ∧ RgOk m n ∧ (tp = false → ∀ q, H2 q = none → Q (.ref q) (upd H2 q (.lst (rgV m n)))) ∧ (tp = true → ∀ q, H2 q = none → Q (.ref q) (upd H2 q (.tup (rgV m n)))) := fun {σ H Q} q => by
    obtain ⟨φ, S, env, R, re, o⟩ := L.step2 (R1 := RV X.K) (R2 := RV X.K) (g := fun env _ S1 => evE (T.run k) T.shp b env S1) (k := fun _ x y S2 => lrgop tp x y S2) mono_rv q
    refine ⟨φ, S, env, R, re, wp_mono o fun d S1 q1 φ1 H1 v e1 R1 rv => ?_⟩
    obtain ⟨φ2, S2, env2, d2, R2, re2, rv2, o2⟩ := q1 φ1 H1 v e1 R1 rv
    refine ⟨φ2, S2, env2, R2, re2, wp_mono o2 fun d3 S3 q3 φ3 H3 v3 e3 R3 rv3 => ?_⟩
    obtain ⟨φ4, S4, d4, R4, _, r1, r2, o4⟩ := q3 φ3 H3 v3 e3 R3 rv3
    cases r1 with
    | int m => cases r2 with
      | int n => exact ⟨m, n, rfl, rfl, lrg_fin R4 o4⟩
      | _ => exact False.elim o4
    | _ => exact False.elim o4
  have pe : PE X (.Call (.Name (if tp = true then "tuple" else "list") p1) [.Call (.Name "range" p2) [z, w] [] p3] [] p) (L X.K (RV X.K) (evE (T.run k) T.shp (.lrg2 tp a b))) := by
    cases tp with
    | false =>
      refine (pe_listRg hx.calm (hx.glo h1) (hx.nms.blt .list) hr).imp fun σ H Q q => ?_
      obtain ⟨φ, S, env, R, re, o⟩ := fin q
      refine ⟨φ, S, env, R, re, wp_mono o fun d S1 q1 φ1 H1 v e1 R1 rv => ?_⟩
      obtain ⟨φ2, S2, env2, R2, re2, o2⟩ := q1 φ1 H1 v e1 R1 rv
      exact ⟨φ2, S2, env2, R2, re2, wp_mono o2 fun d3 S3 q3 φ3 H3 v3 e3 R3 rv3 => let ⟨m, n, e, e', g, g1, _⟩ := q3 φ3 H3 v3 e3 R3 rv3; ⟨m, n, e, e', g, g1 rfl⟩⟩
    | true =>
      refine (pe_tupRg hx.calm (hx.glo h1) (hx.nms.blt .tuple) hr).imp fun σ H Q q => ?_
      obtain ⟨φ, S, env, R, re, o⟩ := fin q
      refine ⟨φ, S, env, R, re, wp_mono o fun d S1 q1 φ1 H1 v e1 R1 rv => ?_⟩
      obtain ⟨φ2, S2, env2, R2, re2, o2⟩ := q1 φ1 H1 v e1 R1 rv
      exact ⟨φ2, S2, env2, R2, re2, wp_mono o2 fun d3 S3 q3 φ3 H3 v3 e3 R3 rv3 => let ⟨m, n, e, e', g, _, g1⟩ := q3 φ3 H3 v3 e3 R3 rv3; ⟨m, n, e, e', g, g1 rfl⟩⟩
  exact ⟨pe, pt_of pe rfl⟩

/-! ### all of it -/
mutual
theorem ge_all : ∀ e : E, GE T k e
  | .var i => ge_var i
  | .int i => ge_int i
  | .str x => ge_str x
  | .bl b => ge_bl b
  | .non => ge_non
  | .glob i => ge_glob i
  | .tup es => ge_tup (ges_all es).1
  | .lst es => ge_lst (ges_all es).1
  | .dic ks vs => ge_dic (ges_all vs).2
  | .bin op a b => ge_bin (ge_all a) (ge_all b)
  | .neg a => ge_neg (ge_all a)
  | .not a => ge_not (ge_all a)
  | .cmp op a b => ge_cmp (ge_all a) (ge_all b)
  | .chain o1 o2 a b d => ge_chain (ge_all a) (ge_all b) (ge_all d)
  | .and es => ge_and (ges_all es).1
  | .or es => ge_or (ges_all es).1
  | .ite t a b => ge_ite (ge_all t) (ge_all a) (ge_all b)
  | .call f es => ge_call (ges_all es).1
  | .callK f h es ks => ge_callK (ges_all es).1 (ges_all ks).1
  | .blt f es => ge_blt (ges_all es).1
  | .isi a t => ge_isi (ge_all a)
  | .idx a i => ge_idx (ge_all a) (ge_all i)
  | .slc a lo hi => ge_slc (ge_all a) (go_all lo).1 (go_all hi).1
  | .rev a => ge_rev (ge_all a)
  | .mth m o es => ge_mth (ge_all o) (ges_all es).1
  | .lc own t it cond e => ge_lc (gi_all it) (gt_all t) (go_all cond).2 (ge_all e)
  | .lrg1 tp a => ge_lrg1 (ge_all a)
  | .lrg2 tp a b => ge_lrg2 (ge_all a) (ge_all b)
theorem ges_all : ∀ es : Es, GEs T k es ∧ GEs' T k es
  | .nil => ⟨ges_nil, .nil⟩
  | .cons e es => ⟨ges_cons (ge_all e) (ges_all es).1, .cons (ge_all e) (ges_all es).2⟩
theorem go_all : ∀ o : Oe, GO T k o ∧ GC T k o
  | .none => ⟨go_none, trivial⟩
  | .some e => ⟨go_some (ge_all e), ge_all e⟩
theorem gi_all : ∀ it : It, GI T k it
  | .seq e => gi_seq (ge_all e)
  | .rng1 a => gi_rng1 (ge_all a)
  | .rng2 a b => gi_rng2 (ge_all a) (ge_all b)
  | .rng3 a b d => gi_rng3 (ge_all a) (ge_all b) (ge_all d)
  | .enum e => gi_enum (ge_all e)
  | .zip a b => gi_zip (ge_all a) (ge_all b)
theorem gt_all : ∀ t : Tg, GT T k t
  | .name i => gt_name i
  | .tup ts => gt_tup (gts_all ts)
  | .sub o i => gt_sub (ge_all o) (ge_all i)
theorem gts_all : ∀ ts : Tgs, GTs T k ts
  | .nil => gts_nil
  | .cons t ts => gts_cons (gt_all t) (gts_all ts)
end
end
end Wk

set_option Elab.async false
set_option linter.all false
set_option maxRecDepth 100000
set_option maxHeartbeats 4000000
namespace Wk
open PySem PySem.Spec PyProof.Rows L2

/-! ### statements: the look at the text -/
/-- which stores a swap of pairs makes (none: a form that we do not serve) -/
def swS (sc : Scope) (tg v : Expr) : Option (Option (List Str)) := match tg, v with
  | .Tuple ts _ _, .Tuple vs _ _ =>
    if !(ts.length == 2 || ts.length == 3) || vs.length != ts.length then some none
    else if vs.any (fun | .Starred .. => true | _ => false) then some none
    else
      let line := (ts.head?.map (·.pos.line)).getD 0
      let names := ts.filterMap fun
        | .Name id pos => if sc.names.lookup id == some .local && pos.line == line then some id else none
        | _ => none
      if names.length != ts.length || names.eraseDups.length != names.length then some none
      else if vs.all (foldedForSure 8) then some none
      else if vs.all (constantsAlone 8) then none
      else some (some names)
  | .Tuple _ _ _, _ => some none
  | .Name _ _, _ => some none
  | .Subscript _ _ _, _ => some none
  | _, _ => none
def notComp : Expr → Bool
  | .ListComp _ _ _ _ => false | .SetComp _ _ _ _ => false | .DictComp _ _ _ _ _ => false | _ => true
/-- name = [..] with the name's own slot at hand -/
def selfLc (sc : Scope) (tg v : Expr) : Bool := match tg, v with
  | .Name y py, .ListComp _ _ scope p => decide (sc.names.lookup y = some .local) && (py.line == p.line) && !(scope.names.any fun (n, k) => n == y && (k == .local || k == .cell))
  | _, _ => false
def tupTg : Expr → Bool
  | .Tuple _ _ _ => true | .Subscript _ _ _ => true | _ => false
section
variable (T : Txt)
mutual
def chkC (c : Ck) : C → Stmt → Bool
  | .asg t e, x => match x with
    | .Assign [tg] v _ => chkE T c e v && chkT T c t tg && notStar tg && ((decide (swS c.sc tg v = some none) && (notComp v || tupTg tg)) || selfLc c.sc tg v)
    | _ => false
  | .par i j a b, x => match x with
    | .Assign [.Tuple [.Name y py, .Name z pz] k1 p1] (.Tuple [v, w] k2 p2) _ => decide (swS c.sc (.Tuple [.Name y py, .Name z pz] k1 p1) (.Tuple [v, w] k2 p2) = some (some [y, z])) && decide (c.N[i]? = some y) && decide (c.N[j]? = some z) && decide (i ≠ j) &&
        decide (c.sc.names.lookup y = some .local) && decide (c.sc.names.lookup z = some .local) && notStar v && notStar w && chkE T c a v && chkE T c b w
    | _ => false
  | .aug i op e, x => match x with
    | .AugAssign (.Name y _) o v _ => decide (c.N[i]? = some y) && c.so y && visB c.sc y && decide (o = opOf op) && chkE T c e v
    | _ => false
  | .expr e, x => match x with
    | .Expr v _ => notComp v && chkE T c e v
    | _ => false
  | .ret e, x => match x with
    | .Return (some v) _ => chkE T c e v
    | .Return none _ => (match e with | .non => true | _ => false)
    | _ => false
  | .ife t a b, x => match x with
    | .If w xs ys _ => chkE T c t w && chkCs c a xs && chkCs c b ys
    | _ => false
  | .whl t b, x => match x with
    | .While w xs [] _ => chkE T c t w && chkCs c b xs
    | _ => false
  | .for_ t it b, x => match x with
    | .For tg iter xs [] _ => notSet iter && chkI T c it iter tg && chkT T c t tg && chkCs c b xs
    | _ => false
  | .pass, x => match x with
    | .Pass _ => true
    | .Expr (.Constant (.str _) _ _) _ => true
    | _ => false
def chkCs (c : Ck) : Cs → List Stmt → Bool
  | .nil, xs => xs.isEmpty
  | .cons s ss, xs => match xs with
    | x :: r => chkC c s x && chkCs c ss r
    | [] => false
end
end

/-! ### their readings -/
def PostS (K : PySem.W.Frag) (φ : Nat → Addr) (S : Sto) (H : Hp) (D : Ends) (fl : Fl) (S' : Sto) : Prop := ∀ φ' H', Ext K φ S H φ' S' H' → Rel K φ' S' H' → match fl with
  | .nx env' => ∀ σ', RE K φ' S'.length H' env' σ' → D.nx σ' H'
  | .rt d => ∀ v, RV K φ' S'.length H' d v → D.rt v H'
def LS (K : PySem.W.Frag) (f : Env → Sto → Res Fl) : TS := fun D σ H => ∃ φ S env, Rel K φ S H ∧ RE K φ S.length H env σ ∧ (f env S).wp (PostS K φ S H D)
theorem PostS.pre {K : PySem.W.Frag} {φ φ1 : Nat → Addr} {S S1 S' : Sto} {H H1 : Hp} {D : Ends} {fl : Fl} (e : Ext K φ S H φ1 S1 H1) (h : PostS K φ S H D fl S') : PostS K φ1 S1 H1 D fl S' := fun φ' H' e' R => h φ' H' (e.trans e') R
section
variable {T : Txt} {k : Nat} {c : Ck} {X : Cx}
def GS (T : Txt) (k : Nat) (s : C) : Prop := ∀ (x : Stmt) (c : Ck) (X : Cx), XO T k c X → X.env.scope.kind = .function → chkC T c s x = true → PS X x (LS X.K (exC (T.run k) T.shp s))
def GSs (T : Txt) (k : Nat) (ss : Cs) : Prop := ∀ (xs : List Stmt) (c : Ck) (X : Cx), XO T k c X → X.env.scope.kind = .function → chkCs T c ss xs = true → PSs X xs (LS X.K (exCs (T.run k) T.shp ss))
theorem blkKind {env : PySem.Env} (h : env.scope.kind = .function) : env.blockKind = .function := by unfold PySem.Env.blockKind; rw [h]; rfl
theorem swaps_no {tg e : Expr} {l : Nat} {env : PySem.Env} (h : (notComp e || tupTg tg) = true) : swapsWithSole [tg] e l env = pure false := by
  show swapsWith e (some tg) l env = pure false
  rw [Bool.or_eq_true] at h
  rcases h with h | h
  · cases e <;> first | rfl | cases h
  · cases tg with
    | Tuple _ _ _ => cases e <;> rfl
    | Subscript _ _ _ => cases e <;> rfl
    | _ => cases h
theorem swS_ok {tg v : Expr} {env : PySem.Env} {r : Option (List Str)} (hk : env.scope.kind = .function) (h : swS env.scope tg v = some r) : swappedStores [tg] v env = pure r := by
  cases tg with
  | Tuple ts kt pt =>
    cases v with
    | Tuple vs kv pv =>
      unfold swS at h
      dsimp only at h
      unfold swappedStores
      have hb : (env.blockKind != .function) = false := by rw [blkKind hk]; rfl
      simp only [hb, Bool.or_false]
      by_cases c1 : (!(ts.length == 2 || ts.length == 3) || vs.length != ts.length) = true
      · rw [if_pos c1] at h; cases h; rw [if_pos c1]
      · rw [if_neg c1] at h; rw [if_neg c1]
        by_cases c2 : (vs.any (fun | .Starred .. => true | _ => false)) = true
        · rw [if_pos c2] at h; cases h; exact if_pos c2
        · rw [if_neg c2] at h
          refine (if_neg c2).trans ?_
          split at h
          · cases h; rename_i c3; exact if_pos c3
          · rename_i c3
            refine (if_neg c3).trans ?_
            split at h
            · cases h; rename_i c4; exact if_pos c4
            · rename_i c4
              refine (if_neg c4).trans ?_
              split at h
              · cases h
              · rename_i c5
                cases h
                exact if_neg c5
    | _ => cases h; rfl
  | Name _ _ => cases v <;> (cases h; rfl)
  | Subscript _ _ _ => cases v <;> (cases h; rfl)
  | _ => cases v <;> cases h
theorem asg_each {tg : Expr} {env : PySem.Env} (h : notStar tg = true) : (assignEach [tg] env).map (·.2) = [assign tg env] := by rw [ae_cons h]; rfl
theorem asg_step {t : Tg} {e : E} {D : Ends} {σ : L2.St} {H : Hp} (q : LS X.K (exC (T.run k) T.shp (.asg t e)) D σ H) : tAsg (L X.K (RV X.K) (evE (T.run k) T.shp e)) (LG X.K (slT t) (asT (T.run k) T.shp t)) D σ H := by
  obtain ⟨φ, S, env, R, re, o⟩ := q
  have o : ((evE (T.run k) T.shp e env S).bind fun x S1 => (asT (T.run k) T.shp t x env S1).bind fun env1 S2 => .ok (.nx env1) S2).wp (PostS X.K φ S H D) := o
  rw [wp_bind] at o
  refine ⟨φ, S, env, R, re, wp_mono o fun x S1 o φ1 H1 v e1 R1 rv => ?_⟩
  rw [wp_bind] at o
  exact ⟨φ1, S1, env, x, R1, re.mono e1, rv, wp_mono o fun env1 S2 o φ2 H2 σ2 e2 R2 r2 => (o : PostS X.K φ S H D (.nx env1) S2) φ2 H2 (e1.trans e2) R2 σ2 r2.1⟩
theorem gs_asg (t : Tg) (e : E) : GS T k (.asg t e) := by
  intro x c X hx hk h
  cases x with
  | Assign ts v pos =>
    rcases ts with _ | ⟨tg, _ | ⟨t2, ts⟩⟩
    · cases h
    · have h : (chkE T c e v && chkT T c t tg && notStar tg && ((decide (swS c.sc tg v = some none) && (notComp v || tupTg tg)) || selfLc c.sc tg v)) = true := h
      simp only [Bool.and_eq_true] at h
      obtain ⟨⟨⟨h1, h2⟩, h3⟩, h4⟩ := h
      rw [Bool.or_eq_true, Bool.and_eq_true, decide_eq_true_eq] at h4
      rcases h4 with ⟨h4, h5⟩ | h4
      · exact (ps_asg (ge_all e v c X hx h1).1 (gt_all t tg c X hx h2) (swaps_no h5) (swS_ok hk (by rw [hx.eS]; exact h4)) (asg_each h3)).imp fun D σ H q => asg_step q
      · cases tg with
        | Name y py =>
          cases v with
          | ListComp elt gs scope p =>
            have h4 : (decide (c.sc.names.lookup y = some .local) && (py.line == p.line) && !(scope.names.any fun (n, k) => n == y && (k == .local || k == .cell))) = true := h4
            simp only [Bool.and_eq_true, decide_eq_true_eq] at h4
            obtain ⟨⟨h5, h6⟩, h7⟩ := h4
            cases e with
            | lc own t' it cond e' =>
              obtain ⟨elt', tg', iter, ifs, scope', pos', ex, lk⟩ := inv_lc h1
              cases ex
              cases t with
              | name i =>
                have h2 : (decide (c.N[i]? = some y) && c.so y) = true := h2
                rw [Bool.and_eq_true, decide_eq_true_eq] at h2
                have := ps_setLc (i := i) (py := py) (pos := p) (spos := pos) (g := LG X.K (slT t') (asT (T.run k) T.shp t')) (tt := L X.K rEq (tsO (T.run k) T.shp cond)) (te := L X.K (RV X.K) (evE (T.run k) T.shp e')) hx.calm hx.ndX (by rw [hx.eN]; exact h2.1) (by rw [hx.eS]; exact h5)
                  (sw_true hk (by rw [hx.eS]; exact h5) h6 (by simpa using h7)) (gi_all it iter tg' c X hx lk.it) (own := ownB c.N own) (blkOk_by (by rw [hx.eN, hx.eS]; exact lk.blk))
                  (fun s H C cl fp => gt_all t' tg' (c.blk scope) _ (blk_ok hx s H scope C cl fp) lk.tg)
                  (fun s H C cl fp => gc_pts (go_all cond).2 (blk_ok hx s H scope C cl fp) lk.ifs)
                  (fun s H C cl fp => (ge_all e' elt (c.blk scope) _ (blk_ok hx s H scope C cl fp) lk.elt).1) (fold_ok lk.ns)
                rw [own_snd] at this
                refine this.imp fun D σ H q => ?_
                show tLc _ _ _ _ _ _ _ _
                refine lc_step lk.sl ?_
                have q2 := asg_step q
                obtain ⟨φ, S, env, R, re, o⟩ := q2
                refine ⟨φ, S, env, R, re, wp_mono o fun x S1 o φ1 H1 v e1 R1 rv => ?_⟩
                obtain ⟨φ2, S2, env2, d2, R2, re2, rv2, o2⟩ := o φ1 H1 v e1 R1 rv
                exact OutG.here (R1 := rT X.K [i] σ) o2 R2 ⟨re2.set rv2, by rw [List.length_set], fun j hj => List.getElem?_set_ne fun z => hj (by simp [z])⟩
              | tup _ => cases h2
              | sub _ _ => cases h2
            | _ => cases h1
          | _ => cases h4
        | _ => cases v <;> cases h4
    · cases h
  | _ => cases h
theorem gs_par (i j : Nat) (a b : E) : GS T k (.par i j a b) := by
  intro x c X hx hk h
  have inv : ∃ y py z pz k1 p1 v w k2 p2 pos, x = .Assign [.Tuple [.Name y py, .Name z pz] k1 p1] (.Tuple [v, w] k2 p2) pos ∧ (decide (swS c.sc (.Tuple [.Name y py, .Name z pz] k1 p1) (.Tuple [v, w] k2 p2) = some (some [y, z])) && decide (c.N[i]? = some y) && decide (c.N[j]? = some z) && decide (i ≠ j) &&
        decide (c.sc.names.lookup y = some .local) && decide (c.sc.names.lookup z = some .local) && notStar v && notStar w && chkE T c a v && chkE T c b w) = true := by
    cases x with
    | Assign ts vv pos =>
      rcases ts with _ | ⟨tg, _ | ⟨t2, ts⟩⟩
      · cases h
      · cases tg with
        | Tuple tt k1 p1 =>
          rcases tt with _ | ⟨n1, _ | ⟨n2, _ | ⟨n3, tt⟩⟩⟩
          · cases h
          · cases n1 <;> cases h
          · cases n1 with
            | Name y py =>
              cases n2 with
              | Name z pz =>
                cases vv with
                | Tuple vs k2 p2 =>
                  rcases vs with _ | ⟨v, _ | ⟨w, _ | ⟨w2, vs⟩⟩⟩
                  · cases h
                  · cases h
                  · exact ⟨_, _, _, _, _, _, _, _, _, _, _, rfl, h⟩
                  · cases h
                | _ => cases h
              | _ => cases h
            | _ => cases h
          · cases n1 with
            | Name y py => cases n2 <;> cases h
            | _ => cases h
        | _ => cases h
      · cases tg with
        | Tuple tt k1 p1 =>
          rcases tt with _ | ⟨n1, _ | ⟨n2, _ | ⟨n3, tt⟩⟩⟩
          · cases h
          · cases n1 <;> cases h
          · cases n1 with
            | Name y py => cases n2 <;> cases h
            | _ => cases h
          · cases n1 with
            | Name y py => cases n2 <;> cases h
            | _ => cases h
        | _ => cases h
    | _ => cases h
  clear h
  obtain ⟨y, py, z, pz, k1, p1, v, w, k2, p2, pos, rfl, h⟩ := inv
  simp only [Bool.and_eq_true, decide_eq_true_eq] at h
  obtain ⟨⟨⟨⟨⟨⟨⟨⟨⟨h1, h2⟩, h3⟩, h4⟩, h5⟩, h6⟩, h7⟩, h8⟩, h9⟩, h10⟩ := h
  refine (ps_par hx.calm hx.ndX (by rw [hx.eN]; exact h2) (by rw [hx.eN]; exact h3) h4 (by rw [hx.eS]; exact h5) (by rw [hx.eS]; exact h6) ((ges_cons (ge_all a) (ges_cons (ge_all b) ges_nil)).pa [v, w] c X hx (by show (notStar v && chkE T c a v && (notStar w && chkE T c b w && true)) = true; rw [h7, h8, h9, h10]; rfl))
    (swS_ok hk (by rw [hx.eS]; exact h1))).imp fun D σ H q => ?_
  obtain ⟨φ, S, env, R, re, o⟩ := q
  refine ⟨φ, S, env, R, re, ?_⟩
  have o : ((evE (T.run k) T.shp a env S).bind fun x S1 => (evE (T.run k) T.shp b env S1).bind fun y S2 => .ok (.nx ((env.set i (some x)).set j (some y))) S2).wp (PostS X.K φ S H D) := o
  show ((evE (T.run k) T.shp a env S).bind fun x S1 => ((evE (T.run k) T.shp b env S1).bind fun x S2 => (Res.ok [] S2).bind fun xs S2 => .ok (x :: xs) S2).bind fun xs S2 => .ok (x :: xs) S2).wp _
  rw [wp_bind] at o ⊢
  refine wp_mono o fun d S1 o => ?_
  rw [wp_bind] at o ⊢
  rw [wp_bind]
  refine wp_mono o fun d2 S2 o φ1 H1 v e1 R1 rv => ?_
  cases rv with
  | @cons _ _ v1 _ rv rn =>
    cases rn with
    | @cons _ _ v2 _ rv2 rn =>
      cases rn
      exact ⟨v1, v2, rfl, (o : PostS X.K φ S H D (.nx _) S2) φ1 H1 e1 R1 _ (((re.mono e1).set rv).set rv2)⟩
theorem gs_aug (i : Nat) (op : BOp) (e : E) : GS T k (.aug i op e) := by
  intro x c X hx hk h
  cases x with
  | AugAssign tg o v pos =>
    cases tg with
    | Name y py =>
      have h : (decide (c.N[i]? = some y) && c.so y && visB c.sc y && decide (o = opOf op) && chkE T c e v) = true := h
      simp only [Bool.and_eq_true, decide_eq_true_eq] at h
      obtain ⟨⟨⟨⟨h1, h2⟩, h3⟩, rfl⟩, h5⟩ := h
      obtain ⟨h6, h7⟩ := hx.so y h2
      by_cases hop : op = .add ∨ op = .sub
      case neg =>
        refine ⟨fun pins s σ H D I q => ?_⟩
        obtain ⟨φ, S, env, R, re, o⟩ := q
        exfalso
        have o : (match env[i]? with
          | some (some x) => (evE (T.run k) T.shp e env S).bind fun y S1 => if augOk op x then (binop op x y S1).bind fun z S2 => Res.ok (Fl.nx (env.set i (some z))) S2 else .no
          | _ => .no).wp (PostS X.K φ S H D) := o
        split at o
        · rename_i d ed
          rw [wp_bind] at o
          cases ee : evE (T.run k) T.shp e env S with
          | no => rw [ee] at o; exact o
          | ok d2 S1 =>
            rw [ee] at o
            have : augOk op d = false := by
              cases op <;> first | rfl | exact absurd (.inl rfl) hop | exact absurd (.inr rfl) hop
            rw [wp_ok, this] at o
            exact o
        · exact o
      refine (ps_aug hx.ndX (by rw [hx.eN]; exact h1) h6 (ge_all e v c X hx h5).1 (op_aug op hop) h7).imp fun D σ H q => ?_
      obtain ⟨φ, S, env, R, re, o⟩ := q
      have o : (match env[i]? with
        | some (some x) => (evE (T.run k) T.shp e env S).bind fun y S1 => if augOk op x then (binop op x y S1).bind fun z S2 => Res.ok (Fl.nx (env.set i (some z))) S2 else .no
        | _ => .no).wp (PostS X.K φ S H D) := o
      split at o
      · rename_i d ed
        obtain ⟨u, eu, ru⟩ := re.2 i d ed
        rw [wp_bind] at o
        refine ⟨u, eu, φ, S, env, R, re, wp_mono o fun d2 S1 o φ1 H1 v1 e1 R1 rv => ?_⟩
        by_cases ha : augOk op d = true
        case neg => rw [if_neg ha] at o; exact False.elim o
        rw [if_pos ha, wp_bind] at o
        refine ⟨φ1, S1, d, d2, R1, ru.mono e1, rv, ?_, wp_mono o fun d3 S2 o φ2 H2 v2 e2 R2 rv2 => ?_⟩
        · cases op <;> cases d <;> first | trivial | cases ha
        · exact (o : PostS X.K φ S H D (.nx _) S2) φ2 H2 (e1.trans e2) R2 _ ((re.mono (e1.trans e2)).set rv2)
      · exact False.elim o
    | _ => cases h
  | _ => cases h
theorem swaps_none {e : Expr} {l : Nat} {env : PySem.Env} (h : notComp e = true) : swapsWith e none l env = pure false := by
  cases e <;> first | rfl | cases h
theorem gs_expr (e : E) : GS T k (.expr e) := by
  intro x c X hx hk h
  cases x with
  | Expr v pos =>
    have h : (notComp v && chkE T c e v) = true := h
    rw [Bool.and_eq_true] at h
    refine (ps_expr (ge_all e v c X hx h.2).1 (swaps_none h.1)).imp fun D σ H q => ?_
    obtain ⟨φ, S, env, R, re, o⟩ := q
    have o : ((evE (T.run k) T.shp e env S).bind fun _ S1 => .ok (.nx env) S1).wp (PostS X.K φ S H D) := o
    rw [wp_bind] at o
    exact ⟨φ, S, env, R, re, wp_mono o fun d S1 o φ1 H1 v e1 R1 rv => (o : PostS X.K φ S H D (.nx _) S1) φ1 H1 e1 R1 σ (re.mono e1)⟩
  | _ => cases h
theorem gs_ret (e : E) : GS T k (.ret e) := by
  intro x c X hx hk h
  cases x with
  | Return v pos =>
    cases v with
    | some v =>
      have h : chkE T c e v = true := h
      refine (ps_ret (ge_all e v c X hx h).1).imp fun D σ H q => ?_
      obtain ⟨φ, S, env, R, re, o⟩ := q
      have o : ((evE (T.run k) T.shp e env S).bind fun x S1 => .ok (.rt x) S1).wp (PostS X.K φ S H D) := o
      rw [wp_bind] at o
      exact ⟨φ, S, env, R, re, wp_mono o fun d S1 o φ1 H1 v e1 R1 rv => (o : PostS X.K φ S H D (.rt _) S1) φ1 H1 e1 R1 v rv⟩
    | none =>
      cases e with
      | non =>
        refine ps_retN.imp fun D σ H q => ?_
        obtain ⟨φ, S, env, R, re, o⟩ := q
        exact (o : PostS X.K φ S H D (.rt .non) S) φ H .refl R .non .non
      | _ => cases h
  | _ => cases h
theorem gs_pass : GS T k .pass := by
  intro x c X hx hk h
  have go : ∀ {D : Ends} {σ : L2.St} {H : Hp}, LS X.K (exC (T.run k) T.shp .pass) D σ H → D.nx σ H := fun {D σ H} ⟨φ, S, env, R, re, o⟩ => (o : PostS X.K φ S H D (.nx env) S) φ H .refl R σ re
  cases x with
  | Pass pos => exact ps_pass.imp fun D σ H q => go q
  | Expr v pos =>
    cases v with
    | Constant cc a p =>
      cases cc with
      | str z => exact ps_doc.imp fun D σ H q => go q
      | _ => cases h
    | _ => cases h
  | _ => cases h
theorem gs_ife (t : E) {a b : Cs} (ha : GSs T k a) (hb : GSs T k b) : GS T k (.ife t a b) := by
  intro x c X hx hk h
  cases x with
  | If w xs ys pos =>
    have h : (chkE T c t w && chkCs T c a xs && chkCs T c b ys) = true := h
    simp only [Bool.and_eq_true] at h
    obtain ⟨⟨h1, h2⟩, h3⟩ := h
    refine (ps_if (ge_all t w c X hx h1).2 (ha xs c X hx hk h2) (hb ys c X hx hk h3)).imp fun D σ H q => ?_
    obtain ⟨φ, S, env, R, re, o⟩ := q
    have o : ((evE (T.run k) T.shp t env S).bind fun x S1 => match truth S1 x with
      | some true => exCs (T.run k) T.shp a env S1
      | some false => exCs (T.run k) T.shp b env S1
      | none => .no).wp (PostS X.K φ S H D) := o
    refine ⟨φ, S, env, R, re, ?_⟩
    show ((evE (T.run k) T.shp t env S).bind fun d S1 => ofO (truth S1 d) S1).wp _
    rw [wp_bind] at o ⊢
    refine wp_mono o fun d S1 o => ?_
    cases e : truth S1 d with
    | none => rw [e] at o; exact False.elim o
    | some bb =>
      rw [e] at o
      intro φ1 H1 b' e1 R1 eb
      subst eb
      cases b' with
      | true => exact iteT ⟨φ1, S1, env, R1, re.mono e1, wp_mono o fun fl S2 p => p.pre e1⟩
      | false => exact iteF ⟨φ1, S1, env, R1, re.mono e1, wp_mono o fun fl S2 p => p.pre e1⟩
  | _ => cases h
theorem gs_whl (t : E) {b : Cs} (hb : GSs T k b) : GS T k (.whl t b) := by
  intro x c X hx hk h
  cases x with
  | While w xs ys pos =>
    cases ys with
    | cons _ _ => cases h
    | nil =>
      have h : (chkE T c t w && chkCs T c b xs) = true := h
      simp only [Bool.and_eq_true] at h
      refine (ps_while hx.never (ge_all t w c X hx h.1).2 (hb xs c X hx hk h.2)).imp fun D σ H q => ?_
      obtain ⟨φ, S, env, R, re, o⟩ := q
      have o : (whlGo (fun env S => (evE (T.run k) T.shp t env S).bind fun x S1 => ofO (truth S1 x) S1) (fun env S => exCs (T.run k) T.shp b env S) whlMost env S).wp (PostS X.K φ S H D) := o
      refine ⟨fun m σ' H' => ∃ φi Si envi, Ext X.K φ S H φi Si H' ∧ Rel X.K φi Si H' ∧ RE X.K φi Si.length H' envi σ' ∧ (whlGo (fun env S => (evE (T.run k) T.shp t env S).bind fun x S1 => ofO (truth S1 x) S1) (fun env S => exCs (T.run k) T.shp b env S) m envi Si).wp (PostS X.K φ S H D),
        ⟨whlMost, φ, S, env, .refl, R, re, o⟩, ?_⟩
      rintro m σ1 H1 ⟨φi, Si, envi, ei, Ri, rei, oi⟩
      cases m with
      | zero => exact False.elim oi
      | succ m =>
        have oi : (((evE (T.run k) T.shp t envi Si).bind fun x S1 => ofO (truth S1 x) S1).bind fun bb S1 => if bb then (exCs (T.run k) T.shp b envi S1).bind fun f S2 => match f with
          | .nx env1 => whlGo (fun env S => (evE (T.run k) T.shp t env S).bind fun x S1 => ofO (truth S1 x) S1) (fun env S => exCs (T.run k) T.shp b env S) m env1 S2
          | .rt d => .ok (.rt d) S2
          else .ok (.nx envi) S1).wp (PostS X.K φ S H D) := oi
        rw [wp_bind] at oi
        refine ⟨φi, Si, envi, Ri, rei, wp_mono oi fun bb S1 o φ1 H2 b' e1 R1 eb => ?_⟩
        subst eb
        cases b' with
        | true =>
          refine iteT ⟨_, fun σ' H' hh => ⟨m, Nat.lt_succ_self m, hh⟩, φ1, S1, envi, R1, rei.mono e1, ?_⟩
          have o : ((exCs (T.run k) T.shp b envi S1).bind fun f S2 => match f with
            | .nx env1 => whlGo (fun env S => (evE (T.run k) T.shp t env S).bind fun x S1 => ofO (truth S1 x) S1) (fun env S => exCs (T.run k) T.shp b env S) m env1 S2
            | .rt d => .ok (.rt d) S2).wp (PostS X.K φ S H D) := o
          rw [wp_bind] at o
          refine wp_mono o fun fl S2 o φ2 H3 e2 R2 => ?_
          cases fl with
          | nx env1 => exact fun σ2 re2 => ⟨φ2, S2, env1, (ei.trans e1).trans e2, R2, re2, o⟩
          | rt d => exact fun v rv => (o : PostS X.K φ S H D (.rt d) S2) φ2 H3 ((ei.trans e1).trans e2) R2 v rv
        | false => exact iteF ((o : PostS X.K φ S H D (.nx envi) S1) φ1 H2 (ei.trans e1) R1 σ1 (rei.mono e1))
  | _ => cases h
open Classical in
theorem gs_for (t : Tg) (it : It) {b : Cs} (hb : GSs T k b) : GS T k (.for_ t it b) := by
  intro x c X hx hk h
  cases x with
  | For tg iter xs ys pos =>
    cases ys with
    | cons _ _ => cases h
    | nil =>
      have h : (notSet iter && chkI T c it iter tg && chkT T c t tg && chkCs T c b xs) = true := h
      simp only [Bool.and_eq_true] at h
      obtain ⟨⟨⟨h1, h2⟩, h3⟩, h4⟩ := h
      refine (ps_for hx.never hx.calm (gi_all it iter tg c X hx h2) (gt_all t tg c X hx h3) (hb xs c X hx hk h4) (fold_ok h1)).imp fun D σ H q => ?_
      obtain ⟨φ, S, env, R, re, o⟩ := q
      generalize ht : (fun (x : Wk.D) (env : Env) (S : Sto) => (asT (T.run k) T.shp t x env S).bind fun env1 S1 => exCs (T.run k) T.shp b env1 S1) = turn
      have o : ((evI (T.run k) T.shp it env S).bind fun src S1 => forGo turn src.keep src.items env S1).wp (PostS X.K φ S H D) := by rw [← ht]; exact o
      rw [wp_bind] at o
      refine ⟨φ, S, env, R, re, wp_mono o fun src S1 o φ1 H1 J e1 R1 wk => ?_⟩
      have re1 := re.mono e1
      refine ⟨fun i m σ' H' => m = src.items.length - i ∧ i ≤ src.items.length ∧ ∃ φi Si envi, Ext X.K φ1 S1 H1 φi Si H' ∧ Rel X.K φi Si H' ∧ RE X.K φi Si.length H' envi σ' ∧ (forGo turn src.keep (src.items.drop i) envi Si).wp (PostS X.K φ S H D),
        ⟨src.items.length, rfl, Nat.zero_le _, φ1, S1, env, .refl, R1, re1, o⟩, ?_⟩
      rintro i m σ1 Hc ⟨rfl, hi, φi, Si, envi, ei, Ri, rei, oi⟩
      by_cases hlt : i < src.items.length
      · refine .inr ?_
        have ed : src.items.drop i = src.items[i] :: src.items.drop (i + 1) := List.drop_eq_getElem_cons hlt
        have eg : src.items[i]? = some src.items[i] := List.getElem?_eq_getElem hlt
        generalize src.items[i] = d at ed eg
        rw [ed] at oi
        have oi : (if src.keep Si then (turn d envi Si).bind fun f S1 => match f with
          | .nx env1 => forGo turn src.keep (src.items.drop (i + 1)) env1 S1
          | .rt d => .ok (.rt d) S1
          else .no).wp (PostS X.K φ S H D) := oi
        by_cases hkp : src.keep Si
        case neg => rw [if_neg hkp] at oi; exact False.elim oi
        rw [if_pos hkp] at oi
        obtain ⟨wgo, _⟩ := wk φi Si Hc ei.up Ri hkp i
        obtain ⟨go, yld⟩ := wgo d eg
        refine ⟨go, fun σ' H' => (i + 1) ≤ src.items.length ∧ ∃ φi Si envi, Ext X.K φ1 S1 H1 φi Si H' ∧ Rel X.K φi Si H' ∧ RE X.K φi Si.length H' envi σ' ∧ (forGo turn src.keep (src.items.drop (i + 1)) envi Si).wp (PostS X.K φ S H D),
          fun σ' H' ⟨hl, hh⟩ => ⟨src.items.length - (i + 1), by omega, rfl, hl, hh⟩, fun x H' y => ?_⟩
        obtain ⟨ey, Ry, ry⟩ := yld x H' y
        rw [wp_bind, ← ht, wp_bind] at oi
        refine ⟨φi, Si, envi, d, Ry, rei.mono ey, ry, wp_mono oi fun env2 S3 o φ3 H2 σ2 e3 R3 r3 => ⟨φ3, S3, env2, R3, r3.1, wp_mono o fun fl S4 o φ4 H4 e4 R4 => ?_⟩⟩
        have ex : Ext X.K φ1 S1 H1 φ4 S4 H4 := ((ei.trans ey).trans e3).trans e4
        cases fl with
        | nx env1 => exact fun σ4 re4 => ⟨hlt, φ4, S4, env1, ex, R4, re4, by rw [ht] at o; exact o⟩
        | rt d => exact fun v rv => (o : PostS X.K φ S H D (.rt d) S4) φ4 H4 (e1.trans ex) R4 v rv
      · have ed : src.items.drop i = [] := List.drop_eq_nil_of_le (by omega)
        rw [ed] at oi
        have oi : (if src.keep Si then Res.ok (.nx envi) Si else .no).wp (PostS X.K φ S H D) := oi
        by_cases hkp : src.keep Si
        case neg => rw [if_neg hkp] at oi; exact False.elim oi
        rw [if_pos hkp] at oi
        obtain ⟨_, wst⟩ := wk φi Si Hc ei.up Ri hkp i
        exact .inl ⟨wst (by omega), (oi : PostS X.K φ S H D (.nx envi) Si) φi Hc (e1.trans ei) Ri σ1 rei⟩
  | _ => cases h
theorem gss_nil : GSs T k .nil := by
  intro xs c X hx hk h
  cases xs with
  | cons _ _ => cases h
  | nil => exact pss_nil.imp fun D σ H ⟨φ, S, env, R, re, o⟩ => (o : PostS X.K φ S H D (.nx env) S) φ H .refl R σ re
theorem gss_cons {s : C} {ss : Cs} (hs : GS T k s) (hss : GSs T k ss) : GSs T k (.cons s ss) := by
  intro xs c X hx hk h
  cases xs with
  | nil => cases h
  | cons x r =>
    have h : (chkC T c s x && chkCs T c ss r) = true := h
    rw [Bool.and_eq_true] at h
    refine (pss_cons (hs x c X hx hk h.1) (hss r c X hx hk h.2)).imp fun D σ H q => ?_
    obtain ⟨φ, S, env, R, re, o⟩ := q
    have o : ((exC (T.run k) T.shp s env S).bind fun f S1 => match f with
      | .nx env1 => exCs (T.run k) T.shp ss env1 S1
      | .rt d => .ok (.rt d) S1).wp (PostS X.K φ S H D) := o
    rw [wp_bind] at o
    refine ⟨φ, S, env, R, re, wp_mono o fun fl S1 o φ1 H1 e1 R1 => ?_⟩
    cases fl with
    | nx env1 => exact fun σ1 re1 => ⟨φ1, S1, env1, R1, re1, wp_mono o fun fl S2 p => p.pre e1⟩
    | rt d => exact fun v rv => (o : PostS X.K φ S H D (.rt d) S1) φ1 H1 e1 R1 v rv
mutual
theorem gs_all : ∀ s : C, GS T k s
  | .asg t e => gs_asg t e
  | .par i j a b => gs_par i j a b
  | .aug i op e => gs_aug i op e
  | .expr e => gs_expr e
  | .ret e => gs_ret e
  | .ife t a b => gs_ife t (gss_all a) (gss_all b)
  | .whl t b => gs_whl t (gss_all b)
  | .for_ t it b => gs_for t it (gss_all b)
  | .pass => gs_pass
theorem gss_all : ∀ ss : Cs, GSs T k ss
  | .nil => gss_nil
  | .cons s ss => gss_cons (gs_all s) (gss_all ss)
end
end
end Wk

set_option Elab.async false
set_option linter.all false
set_option maxRecDepth 100000
set_option maxHeartbeats 4000000
namespace Wk
open PySem PySem.Spec PyProof.Rows L2

/-! ### the defs keep their promises -/
/-- the rule for a def where no repr is under way -/
theorem fnG_of {P : Program} {w : World} {K : PySem.W.Frag} {mg : Str → Option Value} {base : Heap} {k : Nat} {f : Addr} {name qual : Str} {params : Arguments} {body : List Stmt} {scope : Scope} {dV kV doc pm cdv ct oc : Value} {an od : Option Addr}
    {osl : Array (Option Value)} {N ps : List Str} {sp : Sp} (lk : K.lookup f = some ⟨oc, od, .func (PySem.W.fnOf name qual params body scope dV kV doc pm an cdv ct), osl⟩) (hcd : PySem.W.codeIn K cdv qual = true) (S : FnScope N ps scope)
    (len : ∀ vs H Q E, sp vs H Q E → vs.length = ps.length)
    (hbody : ∀ (A : Around) (outer : List PySem.Env) (s : Shared) (H : Hp) (vs : List V) (Q : VK) (E : XK), A.guards = some [] → Room k (A.deeper (envOfC qual scope s.heap.objs.size f cdv)) → sp vs H Q E →
      ∃ t, PSs (cxOf CX0 P w K mg base N qual scope f cdv A outer s H E).nox body t ∧ t { nx := fun _ H' => Q .non H', rt := Q } (start N vs) H) :
    FnG P w K mg base (k + 1) f (PySem.W.fnOf name qual params body scope dV kV doc pm an cdv ct) ps sp := by
  refine ⟨len, fun A outer s H args us vs Q E hg hr e0 hb r hsp => ?_⟩
  have hl := len _ _ _ _ hsp
  have KX : K.In s.heap := e0.mod.kin.keeps fun b o e => (e0.bs b o e).1
  have lim : s.heap.NoLimit := e0.mod.nolimit.keeps fun b o e => (e0.bs b o e).1
  have hkind : ∀ y ∈ ps.zip us, scope.names.lookup y.1 = some .local ∨ (scope.names.lookup y.1 = some .cell ∧ ((cellsFrom (s.heap.objs.size + 1) scope.names []).lookup y.1).isSome = true) := fun ⟨n, v⟩ hy => by
    rcases S.par n (List.of_mem_zip hy).1 with q | q
    · exact .inl q
    · exact .inr ⟨q, PySem.W.cellsFrom_some _ _ _ (.inl q)⟩
  refine codeAny_call_function hr.depth (KX _ _ lk) rfl S.co S.gen rfl (PySem.W.codeRec_of KX hcd) (hb _ _ _ _ ?_)
  refine wpAny_newFunctionEnv_cells S.kind hkind fun env he s1 x => ?_
  subst he
  refine ⟨lim.keeps x.toInCall.keep, codeAny_func ?_⟩
  obtain ⟨t, ht, hq⟩ := hbody A outer s H vs Q E hg (hr.deeper _) hsp
  have I : Inv (cxOf CX0 P w K mg base N qual scope f cdv A outer s H E) [] (start N vs) H s1 := inv_start S hr.hd e0 hl r x
  refine wpAny_mono (ht.nox.run [] s1 (start N vs) H _ I hq) (fun fl s' hs => ?_) fun e s' hs => hs
  have fin : ∀ {σ' : L2.St} {H' : Hp} {v : V} {u : Value}, Inv (cxOf CX0 P w K mg base N qual scope f cdv A outer s H E) [] σ' H' s' → RelV v u → Q v H' → CE outer P w H s Q u s' :=
    fun {σ' H' v u} J rv q => ⟨v, H', J.os, J.bare, J.base, J.hok, rv, q⟩
  cases fl with
  | ret u =>
    obtain ⟨v, σ', H', J, rv, q⟩ := hs
    exact fin J rv q
  | next =>
    obtain ⟨σ', H', J, q⟩ := hs
    exact fin (v := V.non) (u := Value.none) J rfl q
  | brk =>
    obtain ⟨_, _, _, q⟩ := hs
    exact False.elim q
  | cont =>
    obtain ⟨_, _, _, q⟩ := hs
    exact False.elim q
/-- the names that a def's body may store -/
def soOf (sc : Scope) (y : Str) : Bool := match sc.names.lookup y with
  | some .local => true | some .cell => true | _ => false
/-- a def as it stands behind the top -/
structure DefIn (T : Txt) (K : PySem.W.Frag) (mg : Str → Option Value) (i : Nat) (fi : Fi) (f : Addr) (fd : FuncData) : Prop where
  at_ : mg fi.name = some (.ref f)
  ex : ∃ (oc : Value) (od : Option Addr) (dV kV doc pm : Value) (an : Option Addr) (cdv ct : Value) (osl : Array (Option Value)),
    fd = PySem.W.fnOf fi.name fi.name (defArgs fi.st) (defBody fi.st) (defScope fi.st) dV kV doc pm an cdv ct ∧ K.lookup f = some ⟨oc, od, .func fd, osl⟩ ∧ PySem.W.codeIn K cdv fi.name = true
  kp : PySem.W.keepIn K (.ref f) = true
  sc : FnScope fi.N fi.ps (defScope fi.st)
  chk : chkCs T ⟨fi.N, defScope fi.st, soOf (defScope fi.st)⟩ fi.body (defBody fi.st) = true
  bd : fi.plain = true → Binds K fd fi.ps []
  sh : ∀ (h : Nat) (s : ShI), T.shs[h]? = some s → s.f = i → ShOk T K fd fi.ps s
theorem re_start {K : PySem.W.Frag} {φ : Nat → Addr} {n : Nat} {H : Hp} {ds : List D} {vs : List V} (r : RVs K φ n H ds vs) (N : List Str) (d : Dfn) (hd : d.slots = N.length) : RE K φ n H (start0 d ds) (start N vs) := by
  have hl := r.length
  refine ⟨by simp [start0, L2.start, hd, hl], fun i e h => ?_⟩
  unfold start0 at h
  by_cases hi : i < ds.length
  · rw [List.getElem?_append_left (by simpa using hi), List.getElem?_map] at h
    cases e2 : ds[i]? with
    | none => rw [e2] at h; cases h
    | some x =>
      rw [e2] at h; cases h
      obtain ⟨v, h1, h2⟩ := r.get e2
      refine ⟨v, ?_, h2⟩
      unfold L2.start
      rw [List.getElem?_append_left (by rw [List.length_map]; omega), List.getElem?_map, h1]; rfl
  · rw [List.getElem?_append_right (by simpa using hi), List.getElem?_replicate] at h
    split at h <;> cases h
theorem run_succ {T : Txt} {k i : Nat} {fi : Fi} (h : T.tab[i]? = some fi) (ds : List D) (S : Sto) :
    T.run (k + 1) i ds S = if ds.length = fi.ps.length then (exCs (T.run k) T.shp fi.body (start0 fi.dfn ds) S).bind fun fl S1 => .ok (retOf fl) S1 else .no := by
  show (match (T.tab.map Fi.dfn)[i]? with
        | some d => if ds.length = d.pars then (exCs (Wk.run (T.tab.map Fi.dfn) T.shp k) T.shp d.body (start0 d ds) S).bind fun fl S1 => Res.ok (retOf fl) S1 else .no
        | none => .no) = _
  rw [List.getElem?_map, h]
  rfl
theorem defs_ok {T : Txt} {K : PySem.W.Frag} {mg : Str → Option Value} (dn : ∀ (i : Nat) (fi : Fi), T.tab[i]? = some fi → ∃ f fd, DefIn T K mg i fi f fd) (nm : Names T K mg) (P : Program) (w : World) (base : Heap) :
    ∀ (k i : Nat) (fi : Fi), T.tab[i]? = some fi → ∀ f fd, DefIn T K mg i fi f fd → DefOk T k P w K mg base i fi f fd := by
  intro k
  induction k with
  | zero =>
    intro i fi hi f fd di
    refine ⟨di.at_, di.kp, ⟨fun vs H Q E h => ?_, fun A outer s H args us vs Q E hg hr e0 hb r hsp => ?_⟩, di.bd, di.sh⟩
    · obtain ⟨φ, S, ds, R, rs, hl, o⟩ := h
      rw [← rs.length]; exact hl
    · obtain ⟨φ, S, ds, R, rs, hl, o⟩ := hsp
      exact False.elim o
  | succ k ih =>
    intro i fi hi f fd di
    have fns : ∀ (i : Nat) (fi : Fi), T.tab[i]? = some fi → ∃ f fd, DefOk T k P w K mg base i fi f fd := fun i fi hi => let ⟨f, fd, di⟩ := dn i fi hi; ⟨f, fd, ih i fi hi f fd di⟩
    refine ⟨di.at_, di.kp, ?_, di.bd, di.sh⟩
    obtain ⟨oc, od, dV, kV, doc, pm, an, cdv, ct, osl, rfl, lk, hcd⟩ := di.ex
    refine fnG_of lk hcd di.sc (fun vs H Q E h => ?_) fun A outer s H vs Q E hg hr hsp => ?_
    · obtain ⟨φ, S, ds, R, rs, hl, o⟩ := h
      rw [← rs.length]; exact hl
    · have hx : XO T k ⟨fi.N, defScope fi.st, soOf (defScope fi.st)⟩ (cxOf CX0 P w K mg base fi.N fi.name (defScope fi.st) f cdv A outer s H E).nox := by
        refine ⟨rfl, rfl, di.sc.nd, rfl, rfl, hr, hg, fun y hy => ?_, fns, nm⟩
        have hy : soOf (defScope fi.st) y = true := hy
        unfold soOf at hy
        refine ⟨?_, .inl rfl⟩
        show (defScope fi.st).names.lookup y = some .local ∨ (defScope fi.st).names.lookup y = some .cell
        split at hy
        · rename_i e; exact .inl e
        · rename_i e; exact .inr e
        · cases hy
      refine ⟨_, gss_all fi.body (defBody fi.st) _ _ hx di.sc.kind di.chk, ?_⟩
      obtain ⟨φ, S, ds, R, rs, hl, o⟩ := hsp
      have o : Out K φ S H (T.run (k + 1) i ds S) Q := o
      rw [run_succ hi, if_pos hl] at o
      unfold Out at o
      rw [wp_bind] at o
      refine ⟨φ, S, start0 fi.dfn ds, R, re_start rs fi.N _ rfl, wp_mono o fun fl S1 o φ' H' e R' => ?_⟩
      have o : ∀ φ' H' v, Ext K φ S H φ' S1 H' → Rel K φ' S1 H' → RV K φ' S1.length H' (retOf fl) v → Q v H' := o
      cases fl with
      | nx env' => exact fun σ' _ => o φ' H' .non e R' .non
      | rt d => exact fun v rv => o φ' H' v e R' rv

/-! ### the head -/
theorem law_callG {P : Program} {w : World} {K : PySem.W.Frag} {mg mb : Str → Option Value} {k : Nat} {fa a : Addr} {fd : FuncData} {x : Str} {sp : Sp} {s₁ : Shared} {vs : List Value} {ns : List Int}
    (KX : K.In s₁.heap) (hns : s₁.heap.Ns mainGlobals mg) (hb : s₁.heap.Ns builtinsNs mb) (hbb : ∀ x : Str, x ≠ "__name__" → mb x = bootBuiltins x) (hlim : s₁.heap.NoLimit) (hg : s₁.gens = #[])
    (ha : s₁.heap.get? a = some { cls := .type "list", data := .seq vs.toArray }) (hi : IntsAre vs ns) (hl : ns.length ≤ sizeLine) (hr : Room k callerA)
    (F : ∀ base : Heap, K.In base → base.Ns mainGlobals mg → FnG P w K mg base k fa fd [x] sp) (hbind : BindsTo s₁ fd ⟨[.ref a], []⟩ [(x, .ref a)])
    (hsp : ∀ H : Hp, Only H → SqL K H a (ns.map V.int) → sp [.ref a] H (fun v _ => v = .bl true) fun _ _ _ => False) :
    codeAny (model P w) callerA (.call (.ref fa) ⟨[.ref a], []⟩) (fun r s' => r = .ok (.ret (.bool true)) ∧ OldK s₁.heap s'.heap ∧ s'.os = s₁.os ∧ AllBare s'.gens) s₁ := by
  have rv := vals_ints hi
  have lenV := hi.length
  have core : ∀ H : Hp, Only H → SqL K H a (ns.map V.int) → HOk P w H s₁.heap → (∀ b, H b ≠ none → b = a) → (H a ≠ none → K.lookup a = none) →
      codeAny (model P w) callerA (.call (.ref fa) ⟨[.ref a], []⟩) (fun r s' => r = .ok (.ret (.bool true)) ∧ OldK s₁.heap s'.heap ∧ s'.os = s₁.os ∧ AllBare s'.gens) s₁ := by
    intro H hO hS hok hA hK
    have base_of : ∀ {b : Addr} {o : Obj}, s₁.heap.get? b = some o → H b = none → (hidT s₁.heap H).get? b = some o := fun e n => hidT_get e n
    have noA : ∀ {b : Addr} {o : Obj} {es : Array DictEntry} {ep : Nat}, s₁.heap.get? b = some o → o.data = .dict es ep → H b = none := fun {b o es ep} e d => by
      cases q : H b with
      | none => rfl
      | some u =>
        have e' : b = a := hA b (by rw [q]; simp)
        subst e'
        rw [ha] at e; cases e
        have d' : Data.seq vs.toArray _ = Data.dict es ep := d
        cases d'
    have nsK : ∀ {b : Addr} {m : Str → Option Value}, s₁.heap.Ns b m → (hidT s₁.heap H).Ns b m := fun {b m} ⟨o, es, ep, e, d, r⟩ => ⟨o, es, ep, base_of e (noA e d), d, r⟩
    have hKb : K.In (hidT s₁.heap H) := fun b o e => base_of (KX b o e) (by
      cases q : H b with
      | none => rfl
      | some u =>
        have e' : b = a := hA b (by rw [q]; simp)
        subst e'
        rw [hK (by rw [q]; simp)] at e; cases e)
    have hM : Mod K mg (hidT s₁.heap H) := ⟨hKb, nsK hns, ⟨mb, nsK hb, hbb⟩, let ⟨mc, h1, h2⟩ := hlim; ⟨mc, nsK h1, h2⟩⟩
    have e0 : Env0 P w K mg (hidT s₁.heap H) callerA [] s₁ H := ⟨rfl, hM, fun b o e => of_hidT e, Nat.le_of_eq (hidT_size _ _), trivial, fun b hb => absurd (show b ∈ ([] : List Addr) from hb) (by simp), hok, .of_eq hg⟩
    refine codeAny_mono ((F _ hKb (nsK hns)).run callerA [] s₁ H ⟨[.ref a], []⟩ [.ref a] [.ref a] _ _ rfl hr e0 hbind (.cons rfl .nil) (hsp H hO hS)) fun r s' h => ?_
    cases r with
    | error e => exact False.elim h
    | ok fl =>
      cases fl with
      | next => exact False.elim h
      | brk => exact False.elim h
      | cont => exact False.elim h
      | ret u =>
        obtain ⟨v, H', os, bare, un, hok', r', q⟩ := h
        have q' : v = .bl true := q
        subst q'
        obtain rfl : u = Value.bool true := r'
        refine ⟨rfl, OldK.of_keep fun b o e => ?_, os, bare⟩
        cases q : H b with
        | none => exact un.keep b o e q (by intro z; exact absurd (show b ∈ ([] : List Addr) from z) (by simp)) (by simp)
        | some u =>
          rcases hO b with z | ⟨ob, xs, z⟩
          · rw [q] at z; cases z
          · have z2 := un.frzs b ob _ z
            obtain ⟨e1, _⟩ := hok b _ z
            obtain ⟨e2, _⟩ := hok' b _ z2
            rw [e] at e1; cases e1
            exact e2
  cases hk : K.lookup a with
  | some o =>
    have e := KX a o hk
    rw [ha] at e
    cases e
    refine core (fun _ => none) (fun _ => .inl rfl) (.inr ⟨_, vs.toArray, _, hk, rfl, rfl, rfl, by rw [List.size_toArray, lenV]; exact hl, by simpa using rv⟩) (fun b u z => by have z' : (none : Option HO) = some u := z; cases z') (fun b z => absurd rfl z) fun z => absurd rfl z
  | none =>
    refine core (fun b => if b = a then some (.frz { cls := .type "list", data := .seq vs.toArray } (.lst (ns.map V.int))) else none) (fun b => ?_) (.inl (.inr ⟨{ cls := .type "list", data := .seq vs.toArray }, if_pos rfl⟩)) (fun b u z => ?_) (fun b z => ?_) fun _ => hk
    · by_cases hb : b = a
      · exact .inr ⟨_, _, if_pos hb⟩
      · exact .inl (if_neg hb)
    · by_cases hb : b = a
      · have z' := (if_pos hb).symm.trans z
        cases z'
        subst hb
        exact ⟨ha, by rw [List.length_map]; exact hl, vs, _, rv, ha⟩
      · have z' := (if_neg hb).symm.trans z
        cases z'
    · by_cases hb : b = a
      · exact hb
      · exact absurd (if_neg hb) z
/-- every def of a list stands behind the top -/
def DnAll (T : Txt) (K : PySem.W.Frag) (mg : Str → Option Value) : Nat → List Fi → Prop
  | _, [] => True
  | i, fi :: r => (∃ f fd, DefIn T K mg i fi f fd) ∧ DnAll T K mg (i + 1) r
theorem dn_at {T : Txt} {K : PySem.W.Frag} {mg : Str → Option Value} : ∀ {l : List Fi} {i0 i : Nat} {fi : Fi}, DnAll T K mg i0 l → l[i]? = some fi → ∃ f fd, DefIn T K mg (i0 + i) fi f fd
  | [], _, _, _, _, h => by cases h
  | _ :: _, _, 0, _, a, h => by cases h; exact a.1
  | _ :: r, i0, i + 1, fi, a, h => by
    have := dn_at (i := i) (fi := fi) a.2 (by simpa using h)
    rw [Nat.add_assoc, Nat.add_comm 1 i] at this
    exact this
theorem dn_of {T : Txt} {K : PySem.W.Frag} {mg : Str → Option Value} (a : DnAll T K mg 0 T.tab) : ∀ (i : Nat) (fi : Fi), T.tab[i]? = some fi → ∃ f fd, DefIn T K mg i fi f fd := fun i fi h => by
  have := dn_at a h
  rw [Nat.zero_add] at this
  exact this
/-- THE END: a law whose def is the li-th of the text. What is asked: the text's facts, and that the law's function is true -/
theorem walkG {l : PySem.W.OpenLaw} {n k li : Nat} {q : Program} {loose : List Str} {XP : (Str → Option Value) → Heap → Prop} {YP : World → Heap → Prop} {d : DefRec} {K : Params → PySem.W.Frag} {x : Str} {T : Txt} {fi : Fi}
    (hn : l.most = some n) (hn2 : n ≤ sizeLine) (hdf : d.params.defaults = []) (hr : Room k callerA) (hY : ∀ (w : World) (h : Heap), YP w h → (K w.params).In h)
    (hfi : T.tab[li]? = some fi) (hname : fi.name = d.name) (hps : fi.ps = [x]) (hpl : fi.plain = true)
    (F : ∀ (w : World) (mg : Str → Option Value) (h : Heap), (K w.params).In h → h.Ns mainGlobals mg → Names T (K w.params) mg ∧ DnAll T (K w.params) mg 0 T.tab)
    (hsp : ∀ ns : List Int, ns.length ≤ n → (∀ z ∈ ns, Builtin.Int.intBits z ≤ 1048576) → (T.run k li [.loc 0] [.scr (ns.map D.int)]).wp fun v _ => v = .bl true) :
    PySem.W.WalkO q loose XP YP l.row.toRowW d [] (fun f vs => PySem.call f vs) := by
  refine Att.attach_callB hn hdf fun w s₀ s₁ mg mb fa o pm cd doc a vs ns G Y ho hd hcd hmg hobj hints hlen hbits hg => ?_
  have KX := hY w _ Y
  obtain ⟨nm, da⟩ := F w mg _ KX G.T.g
  have dn := dn_of da
  obtain ⟨f, fd, di⟩ := dn li fi hfi
  have e : f = fa := by
    have := di.at_
    rw [hname, hmg] at this
    cases this; rfl
  subst e
  refine law_callG (x := x) (sp := spF T (K w.params) k li 1) KX G.T.g G.T.b G.T.builtins G.T.nolimit hg hobj hints (Nat.le_trans hlen hn2) hr (fun base _ _ => ?_) (by have := di.bd hpl s₁ [.ref a] KX (by rw [hps]; rfl); rw [hps] at this; exact this) fun H hO hS => ?_
  · have := (defs_ok dn nm l.prog w base k li fi hfi f fd di).fn
    rw [hps] at this
    exact this
  · have rd : RdL (K w.params) H a (ns.map V.int) := by
      rcases hS with (h | h) | h
      · rcases hO a with z | ⟨o, xs, z⟩
        · rw [h] at z; cases z
        · rw [h] at z; cases z
      · exact .inl h
      · exact .inr h
    have rl : Rel (K w.params) (fun _ => a) [.scr (ns.map D.int)] H := by
      refine ⟨fun l o e => ?_, fun l m o u e e' mo mu _ => ?_⟩
      · cases l with
        | zero => cases e; exact ⟨_, rd, RVs.of_ints ns⟩
        | succ l => cases e
      · cases l with
        | zero => cases e; cases mo
        | succ l => cases e
    refine ⟨fun _ => a, [.scr (ns.map D.int)], [.loc 0], rl, .cons (.loc (by simp)) .nil, rfl, wp_mono (hsp ns hlen hbits) fun d S' hd φ' H' v _ _ rv => ?_⟩
    subst hd
    cases rv
    rfl
end Wk

set_option Elab.async false
set_option linter.all false
set_option maxRecDepth 100000
set_option maxHeartbeats 4000000
namespace Wk
open PySem PySem.Spec PyProof.Rows L2

/-! ### the machine's steps as equations -/
def tcase {α : Type} (o : Option Bool) (x y : Res α) : Res α := match o with
  | some true => x
  | some false => y
  | none => .no
def bcase {α : Type} (d : D) (x y : Res α) : Res α := match d with
  | .bl true => x
  | .bl false => y
  | _ => .no
def icase {α : Type} (d : D) (f : Int → Res α) : Res α := match d with
  | .int i => f i
  | _ => .no
def flcase (fl : Fl) (f : Env → Res Fl) (S : Sto) : Res Fl := match fl with
  | .nx env => f env
  | .rt d => .ok (.rt d) S
def gcase {α : Type} (o : Option (Option D)) (f : D → Res α) : Res α := match o with
  | some (some d) => f d
  | _ => .no
def listIt (ds : List D) (l : Nat) : Src := ⟨ds, fun S => items S (.loc l) = some ds⟩
def scase (d : D) (S : Sto) : Res Src := match d with
  | .str z => .ok ⟨z.cps.toList.map fun c => .str ⟨#[c]⟩, fun _ => True⟩ S
  | .tup ds => .ok ⟨ds, fun _ => True⟩ S
  | .loc l => match items S (.loc l) with
    | some ds => .ok ⟨ds, fun S => items S (.loc l) = some ds⟩ S
    | none => .no
  | _ => .no
section
variable {α : Type} {F : Orc} {G : Shp} {env : Env} {S : Sto}
theorem tcase_some {b : Bool} {x y : Res α} : tcase (some b) x y = if b = true then x else y := by cases b <;> rfl
theorem bcase_bl {b : Bool} {x y : Res α} : bcase (.bl b) x y = if b = true then x else y := by cases b <;> rfl
theorem icase_int {i : Int} {f : Int → Res α} : icase (.int i) f = f i := rfl
theorem flcase_nx {env : Env} {f : Env → Res Fl} {S : Sto} : flcase (.nx env) f S = f env := rfl
theorem flcase_rt {d : D} {f : Env → Res Fl} {S : Sto} : flcase (.rt d) f S = .ok (.rt d) S := rfl
theorem gcase_some {d : D} {f : D → Res α} : gcase (some (some d)) f = f d := rfl
theorem e_var {i : Nat} : evE F G (.var i) env S = gcase env[i]? fun d => .ok d S := rfl
theorem e_int {i : Int} : evE F G (.int i) env S = .ok (.int i) S := rfl
theorem e_str {x : Str} : evE F G (.str x) env S = .ok (.str x) S := rfl
theorem e_bl {b : Bool} : evE F G (.bl b) env S = .ok (.bl b) S := rfl
theorem e_non : evE F G .non env S = .ok .non S := rfl
theorem e_glob {i : Nat} : evE F G (.glob i) env S = .ok (G.cst i) S := rfl
theorem e_tup {es : Es} : evE F G (.tup es) env S = (evEs F G es env S).bind fun ds S1 => if ds.length ≤ 1000 then .ok (.tup ds) S1 else .no := rfl
theorem e_lst {es : Es} : evE F G (.lst es) env S = (evEs F G es env S).bind fun ds S1 => if ds.length ≤ 1000 then alloc S1 (.lst ds) else .no := rfl
open Classical in
theorem e_dic {ks : List Str} {vs : Es} : evE F G (.dic ks vs) env S = (evEs F G vs env S).bind fun ds S1 => if ks.length = ds.length ∧ ks.length ≤ 15 ∧ ks.Nodup then alloc S1 (.dK ((ks.map Sum.inr).zip ds)) else .no := rfl
theorem e_bin {op : BOp} {a b : E} : evE F G (.bin op a b) env S = (evE F G a env S).bind fun x S1 => (evE F G b env S1).bind fun y S2 => binop op x y S2 := rfl
theorem e_neg {a : E} : evE F G (.neg a) env S = (evE F G a env S).bind fun x S1 => icase x fun i => .ok (.int (-i)) S1 := rfl
theorem e_not {a : E} : evE F G (.not a) env S = (evE F G a env S).bind fun x S1 => ofO ((truth S1 x).map fun c => .bl (!c)) S1 := rfl
theorem e_cmp {op : COp} {a b : E} : evE F G (.cmp op a b) env S = (evE F G a env S).bind fun x S1 => (evE F G b env S1).bind fun y S2 => cmpop op x y S2 := rfl
theorem e_chain {o1 o2 : COp} {a b c : E} : evE F G (.chain o1 o2 a b c) env S = (evE F G a env S).bind fun x S1 => (evE F G b env S1).bind fun y S2 => (cmpop o1 x y S2).bind fun r S3 => bcase r ((evE F G c env S3).bind fun z S4 => cmpop o2 y z S4) (.ok (.bl false) S3) := rfl
theorem e_and {es : Es} : evE F G (.and es) env S = evAnd F G es env S := rfl
theorem e_or {es : Es} : evE F G (.or es) env S = evOr F G es env S := rfl
theorem e_ite {c a b : E} : evE F G (.ite c a b) env S = (evE F G c env S).bind fun x S1 => tcase (truth S1 x) (evE F G a env S1) (evE F G b env S1) := rfl
theorem e_call {f : Nat} {es : Es} : evE F G (.call f es) env S = (evEs F G es env S).bind fun ds S1 => F f ds S1 := rfl
theorem e_callK {f h : Nat} {es ks : Es} : evE F G (.callK f h es ks) env S = (evEs F G es env S).bind fun ds S1 => (evEs F G ks env S1).bind fun ws S2 => F f (G.shp h ds ws) S2 := rfl
theorem e_blt {f : Blt} {es : Es} : evE F G (.blt f es) env S = (evEs F G es env S).bind fun ds S1 => bltop f ds S1 := rfl
theorem e_isi {a : E} {t : Ty} : evE F G (.isi a t) env S = (evE F G a env S).bind fun x S1 => ofO ((isTy S1 x t).map .bl) S1 := rfl
theorem e_idx {a i : E} : evE F G (.idx a i) env S = (evE F G a env S).bind fun x S1 => (evE F G i env S1).bind fun y S2 => ixop x y S2 := rfl
theorem e_slc {a : E} {lo hi : Oe} : evE F G (.slc a lo hi) env S = (evE F G a env S).bind fun x S1 => (evO F G lo env S1).bind fun l S2 => (evO F G hi env S2).bind fun h S3 => slop x l h S3 := rfl
def revop (x : D) (S : Sto) : Res D := match x with
  | .tup ds => .ok (.tup ds.reverse) S
  | .loc l => match items S (.loc l) with
    | some ds => alloc S (.lst ds.reverse)
    | none => .no
  | _ => .no
theorem e_rev {a : E} : evE F G (.rev a) env S = (evE F G a env S).bind fun x S1 => revop x S1 := rfl
theorem e_mth {m : Mth} {o : E} {es : Es} : evE F G (.mth m o es) env S = (evE F G o env S).bind fun x S1 => if mthTy m x S1 then (evEs F G es env S1).bind fun ds S2 => mthop m x ds S2 else .no := rfl
noncomputable def lcBody (F : Orc) (G : Shp) (own : List Nat) (t : Tg) (c : Oe) (e : E) (env : Env) (x : D) (S2 : Sto) : Res (Option D) :=
  (asT F G t x (wipeE env own) S2).bind fun env2 S3 => (tsO F G c env2 S3).bind fun b S4 => if b then (evE F G e env2 S4).bind fun y S5 => .ok (some y) S5 else .ok none S4
theorem e_lc {own : List Nat} {t : Tg} {it : It} {c : Oe} {e : E} : evE F G (.lc own t it c e) env S = (evI F G it env S).bind fun src S1 => (lcGo (lcBody F G own t c e env) src.keep [] src.items S1).bind fun ys S6 => alloc S6 (.lst ys) := rfl
theorem an_1 {e : E} : evAnd F G (.cons e .nil) env S = evE F G e env S := rfl
theorem an_2 {e e2 : E} {es : Es} : evAnd F G (.cons e (.cons e2 es)) env S = (evE F G e env S).bind fun x S1 => bcase x (evAnd F G (.cons e2 es) env S1) (.ok (.bl false) S1) := rfl
theorem or_1 {e : E} : evOr F G (.cons e .nil) env S = evE F G e env S := rfl
theorem or_2 {e e2 : E} {es : Es} : evOr F G (.cons e (.cons e2 es)) env S = (evE F G e env S).bind fun x S1 => bcase x (.ok (.bl true) S1) (evOr F G (.cons e2 es) env S1) := rfl
theorem es_nil : evEs F G .nil env S = .ok [] S := rfl
theorem es_cons {e : E} {es : Es} : evEs F G (.cons e es) env S = (evE F G e env S).bind fun x S1 => (evEs F G es env S1).bind fun xs S2 => .ok (x :: xs) S2 := rfl
theorem o_none : evO F G .none env S = .ok none S := rfl
theorem o_some {e : E} : evO F G (.some e) env S = (evE F G e env S).bind fun x S1 => icase x fun i => .ok (some i) S1 := rfl
theorem ts_none : tsO F G .none env S = .ok true S := rfl
theorem ts_some {e : E} : tsO F G (.some e) env S = (evE F G e env S).bind fun x S1 => ofO (truth S1 x) S1 := rfl
theorem i_seq {e : E} : evI F G (.seq e) env S = (evE F G e env S).bind fun x S1 => scase x S1 := rfl
def rng1op (x : D) (S : Sto) : Res Src := match x with
  | .int j => if -(2 ^ 62) ≤ j ∧ j < 2 ^ 62 then .ok ⟨(List.range j.toNat).map fun k => .int (k : Nat), fun _ => True⟩ S else .no
  | _ => .no
def rng2op (x y : D) (S : Sto) : Res Src := match x, y with
  | .int i, .int j => if -(2 ^ 62) ≤ i ∧ i < 2 ^ 62 ∧ -(2 ^ 62) ≤ j ∧ j < 2 ^ 62 then .ok ⟨(List.range (j - i).toNat).map fun k => .int (i + (k : Nat)), fun _ => True⟩ S else .no
  | _, _ => .no
theorem i_rng1 {a : E} : evI F G (.rng1 a) env S = (evE F G a env S).bind fun x S1 => rng1op x S1 := rfl
theorem i_rng2 {a b : E} : evI F G (.rng2 a b) env S = (evE F G a env S).bind fun x S1 => (evE F G b env S1).bind fun y S2 => rng2op x y S2 := rfl
theorem t_name {i : Nat} {d : D} : asT F G (.name i) d env S = .ok (env.set i (some d)) S := rfl
def tupcase {α : Type} (d : D) (f : List D → Res α) : Res α := match d with
  | .tup ds => f ds
  | _ => .no
theorem tupcase_tup {ds : List D} {f : List D → Res α} : tupcase (.tup ds) f = f ds := rfl
theorem t_tup {ts : Tgs} {d : D} : asT F G (.tup ts) d env S = tupcase d fun ds => asTs F G ts ds env S := rfl
theorem t_sub {o i : E} {d : D} : asT F G (.sub o i) d env S = (evE F G o env S).bind fun x S1 => (evE F G i env S1).bind fun y S2 => (setop x y d S2).bind fun _ S3 => .ok env S3 := rfl
theorem ts_nil : asTs F G .nil [] env S = .ok env S := rfl
theorem ts_nilc {d : D} {r : List D} : asTs F G .nil (d :: r) env S = .no := rfl
theorem ts_consn {t : Tg} {ts : Tgs} : asTs F G (.cons t ts) [] env S = .no := rfl
theorem ts_cons {t : Tg} {ts : Tgs} {d : D} {r : List D} : asTs F G (.cons t ts) (d :: r) env S = (asT F G t d env S).bind fun env1 S1 => asTs F G ts r env1 S1 := rfl
theorem c_asg {t : Tg} {e : E} : exC F G (.asg t e) env S = (evE F G e env S).bind fun x S1 => (asT F G t x env S1).bind fun env1 S2 => .ok (.nx env1) S2 := rfl
theorem c_par {i j : Nat} {a b : E} : exC F G (.par i j a b) env S = (evE F G a env S).bind fun x S1 => (evE F G b env S1).bind fun y S2 => .ok (.nx ((env.set i (some x)).set j (some y))) S2 := rfl
theorem c_aug {i : Nat} {op : BOp} {e : E} : exC F G (.aug i op e) env S = gcase env[i]? fun x => (evE F G e env S).bind fun y S1 => if augOk op x then (binop op x y S1).bind fun z S2 => .ok (.nx (env.set i (some z))) S2 else .no := rfl
theorem c_expr {e : E} : exC F G (.expr e) env S = (evE F G e env S).bind fun _ S1 => .ok (.nx env) S1 := rfl
theorem c_ret {e : E} : exC F G (.ret e) env S = (evE F G e env S).bind fun x S1 => .ok (.rt x) S1 := rfl
theorem c_ife {c : E} {a b : Cs} : exC F G (.ife c a b) env S = (evE F G c env S).bind fun x S1 => tcase (truth S1 x) (exCs F G a env S1) (exCs F G b env S1) := rfl
noncomputable def whlTest (F : Orc) (G : Shp) (c : E) (env : Env) (S : Sto) : Res Bool := (evE F G c env S).bind fun x S1 => ofO (truth S1 x) S1
theorem c_whl {c : E} {b : Cs} : exC F G (.whl c b) env S = whlGo (whlTest F G c) (exCs F G b) whlMost env S := rfl
noncomputable def forTurn (F : Orc) (G : Shp) (t : Tg) (b : Cs) (x : D) (env : Env) (S : Sto) : Res Fl := (asT F G t x env S).bind fun env1 S1 => exCs F G b env1 S1
theorem c_for {t : Tg} {it : It} {b : Cs} : exC F G (.for_ t it b) env S = (evI F G it env S).bind fun src S1 => forGo (forTurn F G t b) src.keep src.items env S1 := rfl
theorem c_pass : exC F G .pass env S = .ok (.nx env) S := rfl
theorem cs_nil : exCs F G .nil env S = .ok (.nx env) S := rfl
theorem cs_cons {c : C} {cs : Cs} : exCs F G (.cons c cs) env S = (exC F G c env S).bind fun f S1 => flcase f (fun env1 => exCs F G cs env1 S1) S1 := rfl

/-! ### operators where their conditions are plain -/
theorem b_add {i j : Int} : binop .add (.int i) (.int j) S = .ok (.int (i + j)) S := rfl
theorem b_sub {i j : Int} : binop .sub (.int i) (.int j) S = .ok (.int (i - j)) S := rfl
theorem b_mulL {i j : Int} (h : -18446744073709551616 < i ∧ i < 18446744073709551616) : binop .mul (.int i) (.int j) S = .ok (.int (i * j)) S := by
  unfold binop; exact if_pos (.inl (.inl h))
theorem b_mulR {i j : Int} (h : -18446744073709551616 < j ∧ j < 18446744073709551616) : binop .mul (.int i) (.int j) S = .ok (.int (i * j)) S := by
  unfold binop; exact if_pos (.inl (.inr h))
theorem b_fdiv {i j : Int} (h : 0 < j ∧ j < 1073741824) : binop .fdiv (.int i) (.int j) S = .ok (.int (i / j)) S := by
  unfold binop; exact if_pos (.inl h)
theorem b_mod {i j : Int} (h : 0 < j) : binop .mod (.int i) (.int j) S = .ok (.int (i % j)) S := by
  unfold binop; exact if_pos h
theorem b_pow {i j : Int} (h : 0 ≤ j ∧ j ≤ 1000000 ∧ -18446744073709551616 < i ∧ i < 18446744073709551616) : binop .pow (.int i) (.int j) S = .ok (.int (i ^ j.toNat)) S := by
  unfold binop; exact if_pos ⟨h.1, h.2.1, by omega⟩
theorem m_lt {i j : Int} : cmpop .lt (.int i) (.int j) S = .ok (.bl (decide (i < j))) S := rfl
theorem m_le {i j : Int} : cmpop .le (.int i) (.int j) S = .ok (.bl (decide (i ≤ j))) S := rfl
theorem m_gt {i j : Int} : cmpop .gt (.int i) (.int j) S = .ok (.bl (decide (j < i))) S := rfl
theorem m_ge {i j : Int} : cmpop .ge (.int i) (.int j) S = .ok (.bl (decide (j ≤ i))) S := rfl
theorem m_eq {a b : D} {c : Bool} (h : eqD S a b = some c) : cmpop .eq a b S = .ok (.bl c) S := by unfold cmpop; simp only [h]; rfl
theorem m_ne {a b : D} {c : Bool} (h : eqD S a b = some c) : cmpop .ne a b S = .ok (.bl (!c)) S := by unfold cmpop; simp only [h]; rfl
theorem m_eqi {i j : Int} : cmpop .eq (.int i) (.int j) S = .ok (.bl (i == j)) S := rfl
theorem m_nei {i j : Int} : cmpop .ne (.int i) (.int j) S = .ok (.bl (!(i == j))) S := rfl
theorem m_eqb {i j : Bool} : cmpop .eq (.bl i) (.bl j) S = .ok (.bl (i == j)) S := rfl
theorem m_neb {i j : Bool} : cmpop .ne (.bl i) (.bl j) S = .ok (.bl (!(i == j))) S := rfl
theorem m_eqs {i j : Str} : cmpop .eq (.str i) (.str j) S = .ok (.bl (i == j)) S := rfl
theorem m_nes {i j : Str} : cmpop .ne (.str i) (.str j) S = .ok (.bl (!(i == j))) S := rfl
theorem tr_bl {b : Bool} : truth S (.bl b) = some b := rfl
theorem tr_int {i : Int} : truth S (.int i) = some (i != 0) := rfl
theorem tr_non : truth S .non = some false := rfl
theorem ixt_eq {ds : List D} {i : Int} : ixop (.tup ds) (.int i) S = ofO (atI ds i) S := rfl
theorem ix_lst {l : Nat} {ds : List D} {i : Int} (h : S[l]? = some (.lst ds)) : ixop (.loc l) (.int i) S = ofO (atI ds i) S := by unfold ixop; simp only [h]
theorem ix_scr {l : Nat} {ds : List D} {i : Int} (h : S[l]? = some (.scr ds)) : ixop (.loc l) (.int i) S = ofO (atI ds i) S := by unfold ixop; simp only [h]
theorem ix_dK {l : Nat} {kvs : List (Key × D)} {x : Str} (h : S[l]? = some (.dK kvs)) : ixop (.loc l) (.str x) S = ofO (valD kvs (.inr x)) S := by unfold ixop; simp only [h]
theorem st_dK {l : Nat} {kvs : List (Key × D)} {x : Str} {d : D} (h : S[l]? = some (.dK kvs)) (hl : kvs.length < 10000) : setop (.loc l) (.str x) d S = .ok () (S.set l (.dK (putD kvs (.inr x) d))) := by unfold setop; simp only [h, hl, if_true]
theorem it_lst {l : Nat} {ds : List D} (h : S[l]? = some (.lst ds)) : items S (.loc l) = some ds := by unfold items; simp only [h]
theorem it_scr {l : Nat} {ds : List D} (h : S[l]? = some (.scr ds)) : items S (.loc l) = some ds := by unfold items; simp only [h]
theorem len_loc {l : Nat} {ds : List D} (h : items S (.loc l) = some ds) : bltop .len [.loc l] S = .ok (.int ds.length) S := by
  show ofO ((items S (.loc l)).map fun ds => D.int ds.length) S = _; rw [h]; rfl
theorem l_t0 : bltop .len [.tup []] S = .ok (.int 0) S := rfl
theorem l_t1 {a : D} : bltop .len [.tup [a]] S = .ok (.int 1) S := rfl
theorem l_t2 {a b : D} : bltop .len [.tup [a, b]] S = .ok (.int 2) S := rfl
theorem l_t3 {a b c : D} {r : List D} : bltop .len [.tup (a :: b :: c :: r)] S = .ok (.int ((r.length : Int) + 3)) S := rfl
theorem ne3 {r : List D} : (((r.length : Int) + 3) == 2) = false := beq_eq_false_iff_ne.mpr (by omega)
theorem len_tup {ds : List D} : bltop .len [.tup ds] S = .ok (.int ds.length) S := rfl
theorem abs_int {i : Int} : bltop .abs [.int i] S = .ok (.int (if i < 0 then -i else i)) S := rfl
theorem int_bl {b : Bool} : bltop .int [.bl b] S = .ok (.int (if b then 1 else 0)) S := rfl
theorem int_int {i : Int} : bltop .int [.int i] S = .ok (.int i) S := rfl
theorem al_eq {o : O} : alloc S o = .ok (.loc S.length) (S ++ [o]) := rfl
theorem len0 : ([] : List D).length ≤ 1000 := by decide
end

/-! ### the store -/
section
variable {S S1 S2 : Sto} {l p : Nat} {o o' : O}
theorem ap_get (h : S[l]? = some o) : (S ++ [o'])[l]? = some o := by rw [List.getElem?_append_left (get_lt h)]; exact h
theorem ap_new : (S ++ [o])[S.length]? = some o := by simp
theorem set_get (h : S[l]? = some o) (hn : l ≠ p) : (S.set p o')[l]? = some o := by rw [List.getElem?_set_ne (Ne.symm hn)]; exact h
theorem set_new (h : S[p]? = some o) : (S.set p o')[p]? = some o' := List.getElem?_set_self (get_lt h)
/-- but for p, all is as it was; there may be more -/
def Kp (p : Nat) (S S' : Sto) : Prop := S.length ≤ S'.length ∧ ∀ l, l < S.length → l ≠ p → S'[l]? = S[l]?
/-- all is as it was; there may be more -/
def Ke (S S' : Sto) : Prop := S.length ≤ S'.length ∧ ∀ l, l < S.length → S'[l]? = S[l]?
theorem Ke.refl : Ke S S := ⟨Nat.le_refl _, fun _ _ => rfl⟩
theorem Ke.ap : Ke S (S ++ [o]) := ⟨by simp, fun l h => List.getElem?_append_left h⟩
theorem Ke.trans (a : Ke S S1) (b : Ke S1 S2) : Ke S S2 := ⟨Nat.le_trans a.1 b.1, fun l h => (b.2 l (Nat.lt_of_lt_of_le h a.1)).trans (a.2 l h)⟩
theorem Ke.get (a : Ke S S1) (h : S[l]? = some o) : S1[l]? = some o := by rw [a.2 l (get_lt h)]; exact h
theorem Ke.kp (a : Ke S S1) : Kp p S S1 := ⟨a.1, fun l h _ => a.2 l h⟩
theorem Kp.refl : Kp p S S := ⟨Nat.le_refl _, fun _ _ _ => rfl⟩
theorem Kp.trans (a : Kp p S S1) (b : Kp p S1 S2) : Kp p S S2 := ⟨Nat.le_trans a.1 b.1, fun l h hn => (b.2 l (Nat.lt_of_lt_of_le h a.1) hn).trans (a.2 l h hn)⟩
theorem Kp.set : Kp p S (S.set p o) := ⟨by simp, fun l h hn => List.getElem?_set_ne (Ne.symm hn)⟩
theorem Kp.get (a : Kp p S S1) (h : S[l]? = some o) (hn : l ≠ p) : S1[l]? = some o := by rw [a.2 l (get_lt h) hn]; exact h
end
end Wk

set_option Elab.async false
set_option linter.all false
set_option maxRecDepth 100000
set_option maxHeartbeats 4000000
namespace Wk
open PySem PySem.Spec PyProof.Rows L2

/-! ### pens that are dicts -/
def penKv (c : Nat) (a l : Int) : List (Key × D) := [(.inr "cells", .loc c), (.inr "at", .int a), (.inr "left", .int l)]
theorem dk1 : (("cells" : Str) = "at") = False := eq_false (by decide +kernel)
theorem dk2 : (("cells" : Str) = "left") = False := eq_false (by decide +kernel)
theorem dk3 : (("at" : Str) = "left") = False := eq_false (by decide +kernel)
theorem dk4 : (("left" : Str) = "at") = False := eq_false (by decide +kernel)
section
variable {c : Nat} {a l : Int} {S : Sto} {p : Nat} {F : Orc} {G : Shp}
theorem kv_cells : valD (penKv c a l) (.inr "cells") = some (.loc c) := by simp [valD, penKv]
theorem kv_at : valD (penKv c a l) (.inr "at") = some (.int a) := by simp [valD, penKv, dk1]
theorem kv_left : valD (penKv c a l) (.inr "left") = some (.int l) := by simp [valD, penKv, dk2, dk3]
theorem kp_at {a' : Int} : putD (penKv c a l) (.inr "at") (.int a') = penKv c a' l := by simp [putD, penKv, dk1, dk4]
theorem kp_left {l' : Int} : putD (penKv c a l) (.inr "left") (.int l') = penKv c a l' := by simp [putD, penKv, dk2, dk3]
theorem st_pen {x : Str} {d : D} (h : S[p]? = some (.dK (penKv c a l))) : setop (.loc p) (.str x) d S = .ok () (S.set p (.dK (putD (penKv c a l) (.inr x) d))) := st_dK h (by show 3 < 10000; decide)
theorem fzs_ints {g : Nat → Option PyData} : ∀ ns : List Int, fzs g (ns.map D.int) = some (ns.map PyData.int)
  | [] => rfl
  | i :: r => by
    have h : (match fz g (.int i) with | some q => (fzs g (r.map D.int)).map (q :: ·) | none => none) = some (PyData.int i :: r.map PyData.int) := by
      show (fzs g (r.map D.int)).map (PyData.int i :: ·) = _
      rw [fzs_ints r]; rfl
    exact h
theorem sh_ints : ∀ ns : List Int, PyData.canLayAll0 (ns.map PyData.int) = true
  | [] => by simp [PyData.canLayAll0]
  | i :: r => by simp [PyData.canLayAll0, PyData.canLay0, sh_ints r]
theorem dp_ints : ∀ ns : List Int, PyData.depthAll (ns.map PyData.int) = 0
  | [] => by simp [PyData.depthAll]
  | i :: r => by simp [PyData.depthAll, PyData.depth, dp_ints r]
theorem dat_ints {l : Nat} {ns : List Int} (h : S[l]? = some (.lst (ns.map D.int))) : dat S (.loc l) = some (.list (ns.map PyData.int)) := by
  show stoG S 12 l = _
  unfold stoG
  simp only [h, fzs_ints]
  rfl
theorem shaped_ints (ns : List Int) : SeqAt.shaped (.list (ns.map PyData.int)) = true := by
  unfold SeqAt.shaped
  simp [PyData.canLay0, sh_ints, PyData.depth, dp_ints]
/-- a list of ints against [] -/
theorem eq_empty {k : Nat} {ns : List Int} (h : S[l.toNat]? = some (.lst (ns.map D.int))) (h2 : S[k]? = some (.lst [])) : eqD S (.loc l.toNat) (.loc k) = some ns.isEmpty := by
  have h2' : S[k]? = some (.lst (([] : List Int).map D.int)) := h2
  have e1 := dat_ints h
  have e2 := dat_ints h2'
  have s1 := shaped_ints ns
  have s2 := shaped_ints []
  show deepEq S _ _ = _
  unfold deepEq
  simp only [e1, e2]
  rw [if_pos ⟨s1, s2⟩]
  cases ns with
  | nil => simp [PyData.eqv, PyData.eqvAll]
  | cons i r => simp [PyData.eqv, PyData.eqvAll]
theorem eq_empty' {j k : Nat} {ns : List Int} (h : S[j]? = some (.lst (ns.map D.int))) (h2 : S[k]? = some (.lst [])) : eqD S (.loc j) (.loc k) = some ns.isEmpty := eq_empty (l := (j : Int)) (by simpa using h) h2
theorem atI_map {ns : List Int} {i : Int} (h0 : 0 ≤ i) (h1 : i < ns.length) : ∃ z, atI (ns.map D.int) i = some (.int z) ∧ z ∈ ns := by
  refine ⟨ns[i.toNat]'(by omega), ?_, List.getElem_mem _⟩
  unfold atI
  simp [ixN, h0, h1]
def mixA : Cs := (.cons 
  (.asg (.name 6) (.bin .mod (.bin .pow (.bin .add (.bin .add (.bin .mod (.var 4) (.int 2147483587)) (.bin .mul (.int 61031) (.var 3))) (.int 101)) (.int 5)) (.int 2147483629))) (.cons 
  (.asg (.name 7) (.bin .mod (.bin .pow (.bin .add (.bin .add (.bin .mul (.var 6) (.bin .add (.bin .mul (.int 3) (.var 3)) (.int 7))) (.bin .mul (.bin .mul (.int 45007) (.var 3)) (.var 3))) (.int 11)) (.int 3)) (.int 2147483563))) (.cons 
  (.ret (.bin .mod (.bin .fdiv (.var 7) (.int 64)) (.var 1))) .nil)))
def penA3 : Cs := (.cons 
  (.ife (.and (.cons (.cmp .lt (.var 3) (.blt .len (.cons (.idx (.var 0) (.str "cells")) .nil))) (.cons (.cmp .ge (.blt .abs (.cons (.var 4) .nil)) (.bin .pow (.int 10) (.int 18))) .nil))) ((.cons 
    (.asg (.name 5) (.bin .add (.bin .mul (.int 2) (.blt .abs (.cons (.var 4) .nil))) (.blt .int (.cons (.cmp .lt (.var 4) (.int 0)) .nil)))) (.cons 
    (.asg (.sub (.var 0) (.str "left")) (.bin .fdiv (.var 5) (.var 1))) (.cons 
    (.ret (.bin .mod (.var 5) (.var 1))) .nil)))) .nil) mixA)
def penA2 : Cs := (.cons 
  (.asg (.name 3) (.idx (.var 0) (.str "at"))) (.cons 
  (.asg (.sub (.var 0) (.str "at")) (.bin .add (.var 3) (.int 1))) (.cons 
  (.asg (.name 4) (.bin .add (.bin .mul (.int 52361) (.var 3)) (.int 829))) (.cons 
  (.ife (.cmp .ne (.idx (.var 0) (.str "cells")) (.lst .nil)) ((.cons 
    (.asg (.name 4) (.idx (.idx (.var 0) (.str "cells")) (.bin .mod (.var 3) (.blt .len (.cons (.idx (.var 0) (.str "cells")) .nil))))) .nil)) .nil) penA3))))
def penA : Cs := (.cons 
  (.ife (.cmp .gt (.idx (.var 0) (.str "left")) (.int 0)) ((.cons 
    (.asg (.name 2) (.bin .mod (.idx (.var 0) (.str "left")) (.var 1))) (.cons 
    (.asg (.sub (.var 0) (.str "left")) (.bin .fdiv (.idx (.var 0) (.str "left")) (.var 1))) (.cons 
    (.ret (.var 2)) .nil)))) .nil) penA2)
/-- a pen stands at p: it has been at most t times at its cells -/
structure Pen (S : Sto) (p : Nat) (t : Int) : Prop where
  ex : ∃ (c : Nat) (a l : Int) (ns : List Int), S[p]? = some (.dK (penKv c a l)) ∧ S[c]? = some (.lst (ns.map D.int)) ∧ 0 ≤ a ∧ a ≤ t ∧ 0 ≤ l
theorem Pen.ke {S' : Sto} {t : Int} (h : Pen S p t) (k : Ke S S') : Pen S' p t := by
  obtain ⟨c, a, l, ns, h1, h2, h3⟩ := h.ex
  exact ⟨c, a, l, ns, k.get h1, k.get h2, h3⟩
theorem Pen.le {t t' : Int} (h : Pen S p t) (k : t ≤ t') : Pen S p t' := by
  obtain ⟨c, a, l, ns, h1, h2, h3, h4, h5⟩ := h.ex
  exact ⟨c, a, l, ns, h1, h2, h3, by omega, h5⟩
theorem em_pos {x m : Int} (h : 0 < m) : 0 ≤ x % m ∧ x % m < m := ⟨Int.emod_nonneg _ (by omega), Int.emod_lt_of_pos _ h⟩
theorem drawA {t m : Int} (pen : Pen S p t) (ht : t < 1000000) (hm : 0 < m) (hm2 : m < 1073741824) :
    ∃ r S', exCs F G penA [some (.loc p), some (.int m), none, none, none, none, none, none] S = .ok (.rt (.int r)) S' ∧ 0 ≤ r ∧ r < m ∧ Kp p S S' ∧ Pen S' p (t + 1) := by
  obtain ⟨c, a, l, ns, hp, hc, ha, hat, hl⟩ := pen.ex
  have hpc : c ≠ p := fun e => by rw [e, hp] at hc; cases hc
  by_cases h0 : 0 < l
  · simp (disch := first | omega | assumption) only [e_var, e_int, e_str, e_bl, e_non, e_glob, e_tup, e_lst, e_bin, e_neg, e_not, e_cmp, e_chain, e_and, e_or, e_ite, e_call, e_callK, e_blt, e_isi, e_idx, e_slc, e_rev, e_mth, e_lc, an_1, an_2, or_1, or_2, es_nil, es_cons, o_none, o_some, ts_none, ts_some, i_seq, i_rng1, i_rng2, t_name, t_tup, t_sub, Wk.ts_nil, Wk.ts_cons, ts_nilc, ts_consn, tupcase_tup, c_asg, c_par, c_aug, c_expr, c_ret, c_ife, c_whl, c_for, c_pass, Wk.cs_nil, Wk.cs_cons, gcase_some, icase_int, flcase_nx, flcase_rt, tcase_some, bcase_bl, bind_ok, bind_no, wp_ok, ofO_some, Option.map_some, b_add, b_sub, m_lt, m_le, m_gt, m_ge, m_eqi, m_nei, m_eqb, m_neb, m_eqs, m_nes, tr_bl, tr_int, tr_non, ixt_eq, l_t0, l_t1, l_t2, l_t3, ne3, beq_self_eq_true, Int.reduceBEq, Int.reduceLT, Int.reduceLE, Int.reduceNeg, abs_int, int_bl, int_int, al_eq, len0, List.getElem?_cons_zero, List.getElem?_cons_succ, List.set_cons_zero, List.set_cons_succ, if_true, if_false, Bool.false_eq_true, decide_eq_true_eq, Bool.not_eq_true', List.length_cons, List.length_nil, b_mod, b_fdiv, b_mulL, b_mulR, b_pow, Nat.reduceLeDiff, Nat.reduceAdd, Nat.zero_le, Nat.reduceLT, m_ne, m_eq, reduceCtorEq, Bool.true_eq_false, penA, ix_dK hp, kv_left, kv_cells, kv_at, h0, st_pen hp, kp_left]
    refine ⟨_, _, rfl, (em_pos hm).1, (em_pos hm).2, Kp.set, ⟨c, a, l / m, ns, set_new hp, set_get hc hpc, ha, by omega, Int.ediv_nonneg hl (by omega)⟩⟩
  · have g1 : (S.set p (.dK (penKv c (a + 1) l)))[p]? = some (.dK (penKv c (a + 1) l)) := set_new hp
    have g2 : (S.set p (.dK (penKv c (a + 1) l)))[c]? = some (.lst (ns.map D.int)) := set_get hc hpc
    generalize hS1 : S.set p (.dK (penKv c (a + 1) l)) = S1 at g1 g2
    have g3 : (S1 ++ [O.lst []])[p]? = some (.dK (penKv c (a + 1) l)) := ap_get g1
    have g4 : (S1 ++ [O.lst []])[c]? = some (.lst (ns.map D.int)) := ap_get g2
    have ee := eq_empty' g4 ap_new
    have k1 : Kp p S (S1 ++ [O.lst []]) := by rw [← hS1]; exact Kp.set.trans Ke.ap.kp
    have mix : ∀ (z : Int) (S2 : Sto), ∃ w : Int, exCs F G mixA [some (.loc p), some (.int m), none, some (.int a), some (.int z), none, none, none] S2 = .ok (.rt (.int (w % m))) S2 := by
      intro z S2
      have b1 := em_pos (x := z) (m := 2147483587) (by decide)
      have b2 := em_pos (x := (z % 2147483587 + 61031 * a + 101) ^ (5 : Int).toNat) (m := 2147483629) (by decide)
      generalize h1 : (z % 2147483587 + 61031 * a + 101) ^ (5 : Int).toNat % 2147483629 = one at b2
      have b3 : 0 ≤ one * (3 * a + 7) ∧ one * (3 * a + 7) ≤ 2147483629 * 3000007 := ⟨Int.mul_nonneg b2.1 (by omega), Int.mul_le_mul (by omega) (by omega) (by omega) (by omega)⟩
      have b4 : 0 ≤ 45007 * a * a ∧ 45007 * a * a ≤ 45007000000 * 1000000 := ⟨Int.mul_nonneg (by omega) ha, Int.mul_le_mul (by omega) (by omega) (by omega) (by omega)⟩
      refine ⟨(one * (3 * a + 7) + 45007 * a * a + 11) ^ (3 : Int).toNat % 2147483563 / 64, ?_⟩
      simp (disch := first | omega | assumption) only [e_var, e_int, e_str, e_bl, e_non, e_glob, e_tup, e_lst, e_bin, e_neg, e_not, e_cmp, e_chain, e_and, e_or, e_ite, e_call, e_callK, e_blt, e_isi, e_idx, e_slc, e_rev, e_mth, e_lc, an_1, an_2, or_1, or_2, es_nil, es_cons, o_none, o_some, ts_none, ts_some, i_seq, i_rng1, i_rng2, t_name, t_tup, t_sub, Wk.ts_nil, Wk.ts_cons, ts_nilc, ts_consn, tupcase_tup, c_asg, c_par, c_aug, c_expr, c_ret, c_ife, c_whl, c_for, c_pass, Wk.cs_nil, Wk.cs_cons, gcase_some, icase_int, flcase_nx, flcase_rt, tcase_some, bcase_bl, bind_ok, bind_no, wp_ok, ofO_some, Option.map_some, b_add, b_sub, m_lt, m_le, m_gt, m_ge, m_eqi, m_nei, m_eqb, m_neb, m_eqs, m_nes, tr_bl, tr_int, tr_non, ixt_eq, l_t0, l_t1, l_t2, l_t3, ne3, beq_self_eq_true, Int.reduceBEq, Int.reduceLT, Int.reduceLE, Int.reduceNeg, abs_int, int_bl, int_int, al_eq, len0, List.getElem?_cons_zero, List.getElem?_cons_succ, List.set_cons_zero, List.set_cons_succ, if_true, if_false, Bool.false_eq_true, decide_eq_true_eq, Bool.not_eq_true', List.length_cons, List.length_nil, b_mod, b_fdiv, b_mulL, b_mulR, b_pow, Nat.reduceLeDiff, Nat.reduceAdd, Nat.zero_le, Nat.reduceLT, m_ne, m_eq, reduceCtorEq, Bool.true_eq_false, mixA, h1]
    -- with the cell read
    have last : ∀ z : Int, ∃ r S', exCs F G penA3 [some (.loc p), some (.int m), none, some (.int a), some (.int z), none, none, none] (S1 ++ [O.lst []]) = .ok (.rt (.int r)) S' ∧ 0 ≤ r ∧ r < m ∧ Kp p S S' ∧ Pen S' p (t + 1) := by
      intro z
      obtain ⟨r, er⟩ := mix z (S1 ++ [O.lst []])
      have e18 : (10 : Int) ^ (18 : Int).toNat = 1000000000000000000 := rfl
      by_cases h1 : a < (ns.length : Int)
      · by_cases h2 : (1000000000000000000 : Int) ≤ if z < 0 then -z else z
        · simp (disch := first | omega | assumption) only [e_var, e_int, e_str, e_bl, e_non, e_glob, e_tup, e_lst, e_bin, e_neg, e_not, e_cmp, e_chain, e_and, e_or, e_ite, e_call, e_callK, e_blt, e_isi, e_idx, e_slc, e_rev, e_mth, e_lc, an_1, an_2, or_1, or_2, es_nil, es_cons, o_none, o_some, ts_none, ts_some, i_seq, i_rng1, i_rng2, t_name, t_tup, t_sub, Wk.ts_nil, Wk.ts_cons, ts_nilc, ts_consn, tupcase_tup, c_asg, c_par, c_aug, c_expr, c_ret, c_ife, c_whl, c_for, c_pass, Wk.cs_nil, Wk.cs_cons, gcase_some, icase_int, flcase_nx, flcase_rt, tcase_some, bcase_bl, bind_ok, bind_no, wp_ok, ofO_some, Option.map_some, b_add, b_sub, m_lt, m_le, m_gt, m_ge, m_eqi, m_nei, m_eqb, m_neb, m_eqs, m_nes, tr_bl, tr_int, tr_non, ixt_eq, l_t0, l_t1, l_t2, l_t3, ne3, beq_self_eq_true, Int.reduceBEq, Int.reduceLT, Int.reduceLE, Int.reduceNeg, abs_int, int_bl, int_int, al_eq, len0, List.getElem?_cons_zero, List.getElem?_cons_succ, List.set_cons_zero, List.set_cons_succ, if_true, if_false, Bool.false_eq_true, decide_eq_true_eq, Bool.not_eq_true', List.length_cons, List.length_nil, b_mod, b_fdiv, b_mulL, b_mulR, b_pow, Nat.reduceLeDiff, Nat.reduceAdd, Nat.zero_le, Nat.reduceLT, m_ne, m_eq, reduceCtorEq, Bool.true_eq_false, penA3, ix_dK g3, kv_cells, len_loc (it_lst g4), List.length_map, h1, h2, e18, decide_true, st_pen g3, kp_left]
          refine ⟨_, _, rfl, (em_pos hm).1, (em_pos hm).2, k1.trans Kp.set, ⟨c, a + 1, _, ns, set_new g3, set_get g4 hpc, by omega, by omega, Int.ediv_nonneg ?_ (by omega)⟩⟩
          split <;> omega
        · simp (disch := first | omega | assumption) only [e_var, e_int, e_str, e_bl, e_non, e_glob, e_tup, e_lst, e_bin, e_neg, e_not, e_cmp, e_chain, e_and, e_or, e_ite, e_call, e_callK, e_blt, e_isi, e_idx, e_slc, e_rev, e_mth, e_lc, an_1, an_2, or_1, or_2, es_nil, es_cons, o_none, o_some, ts_none, ts_some, i_seq, i_rng1, i_rng2, t_name, t_tup, t_sub, Wk.ts_nil, Wk.ts_cons, ts_nilc, ts_consn, tupcase_tup, c_asg, c_par, c_aug, c_expr, c_ret, c_ife, c_whl, c_for, c_pass, Wk.cs_nil, Wk.cs_cons, gcase_some, icase_int, flcase_nx, flcase_rt, tcase_some, bcase_bl, bind_ok, bind_no, wp_ok, ofO_some, Option.map_some, b_add, b_sub, m_lt, m_le, m_gt, m_ge, m_eqi, m_nei, m_eqb, m_neb, m_eqs, m_nes, tr_bl, tr_int, tr_non, ixt_eq, l_t0, l_t1, l_t2, l_t3, ne3, beq_self_eq_true, Int.reduceBEq, Int.reduceLT, Int.reduceLE, Int.reduceNeg, abs_int, int_bl, int_int, al_eq, len0, List.getElem?_cons_zero, List.getElem?_cons_succ, List.set_cons_zero, List.set_cons_succ, if_true, if_false, Bool.false_eq_true, decide_eq_true_eq, Bool.not_eq_true', List.length_cons, List.length_nil, b_mod, b_fdiv, b_mulL, b_mulR, b_pow, Nat.reduceLeDiff, Nat.reduceAdd, Nat.zero_le, Nat.reduceLT, m_ne, m_eq, reduceCtorEq, Bool.true_eq_false, penA3, ix_dK g3, kv_cells, len_loc (it_lst g4), List.length_map, h1, h2, e18, decide_true, decide_false, er]
          exact ⟨_, _, rfl, (em_pos hm).1, (em_pos hm).2, k1, ⟨c, a + 1, l, ns, g3, g4, by omega, by omega, hl⟩⟩
      · simp (disch := first | omega | assumption) only [e_var, e_int, e_str, e_bl, e_non, e_glob, e_tup, e_lst, e_bin, e_neg, e_not, e_cmp, e_chain, e_and, e_or, e_ite, e_call, e_callK, e_blt, e_isi, e_idx, e_slc, e_rev, e_mth, e_lc, an_1, an_2, or_1, or_2, es_nil, es_cons, o_none, o_some, ts_none, ts_some, i_seq, i_rng1, i_rng2, t_name, t_tup, t_sub, Wk.ts_nil, Wk.ts_cons, ts_nilc, ts_consn, tupcase_tup, c_asg, c_par, c_aug, c_expr, c_ret, c_ife, c_whl, c_for, c_pass, Wk.cs_nil, Wk.cs_cons, gcase_some, icase_int, flcase_nx, flcase_rt, tcase_some, bcase_bl, bind_ok, bind_no, wp_ok, ofO_some, Option.map_some, b_add, b_sub, m_lt, m_le, m_gt, m_ge, m_eqi, m_nei, m_eqb, m_neb, m_eqs, m_nes, tr_bl, tr_int, tr_non, ixt_eq, l_t0, l_t1, l_t2, l_t3, ne3, beq_self_eq_true, Int.reduceBEq, Int.reduceLT, Int.reduceLE, Int.reduceNeg, abs_int, int_bl, int_int, al_eq, len0, List.getElem?_cons_zero, List.getElem?_cons_succ, List.set_cons_zero, List.set_cons_succ, if_true, if_false, Bool.false_eq_true, decide_eq_true_eq, Bool.not_eq_true', List.length_cons, List.length_nil, b_mod, b_fdiv, b_mulL, b_mulR, b_pow, Nat.reduceLeDiff, Nat.reduceAdd, Nat.zero_le, Nat.reduceLT, m_ne, m_eq, reduceCtorEq, Bool.true_eq_false, penA3, ix_dK g3, kv_cells, len_loc (it_lst g4), List.length_map, h1, decide_false, er]
        exact ⟨_, _, rfl, (em_pos hm).1, (em_pos hm).2, k1, ⟨c, a + 1, l, ns, g3, g4, by omega, by omega, hl⟩⟩
    cases ns with
    | nil =>
      obtain ⟨r, S', er, h⟩ := last (52361 * a + 829)
      simp (disch := first | omega | assumption) only [e_var, e_int, e_str, e_bl, e_non, e_glob, e_tup, e_lst, e_bin, e_neg, e_not, e_cmp, e_chain, e_and, e_or, e_ite, e_call, e_callK, e_blt, e_isi, e_idx, e_slc, e_rev, e_mth, e_lc, an_1, an_2, or_1, or_2, es_nil, es_cons, o_none, o_some, ts_none, ts_some, i_seq, i_rng1, i_rng2, t_name, t_tup, t_sub, Wk.ts_nil, Wk.ts_cons, ts_nilc, ts_consn, tupcase_tup, c_asg, c_par, c_aug, c_expr, c_ret, c_ife, c_whl, c_for, c_pass, Wk.cs_nil, Wk.cs_cons, gcase_some, icase_int, flcase_nx, flcase_rt, tcase_some, bcase_bl, bind_ok, bind_no, wp_ok, ofO_some, Option.map_some, b_add, b_sub, m_lt, m_le, m_gt, m_ge, m_eqi, m_nei, m_eqb, m_neb, m_eqs, m_nes, tr_bl, tr_int, tr_non, ixt_eq, l_t0, l_t1, l_t2, l_t3, ne3, beq_self_eq_true, Int.reduceBEq, Int.reduceLT, Int.reduceLE, Int.reduceNeg, abs_int, int_bl, int_int, al_eq, len0, List.getElem?_cons_zero, List.getElem?_cons_succ, List.set_cons_zero, List.set_cons_succ, if_true, if_false, Bool.false_eq_true, decide_eq_true_eq, Bool.not_eq_true', List.length_cons, List.length_nil, b_mod, b_fdiv, b_mulL, b_mulR, b_pow, Nat.reduceLeDiff, Nat.reduceAdd, Nat.zero_le, Nat.reduceLT, m_ne, m_eq, reduceCtorEq, Bool.true_eq_false, penA, penA2, ix_dK hp, kv_left, kv_cells, kv_at, h0, st_pen hp, kp_at, hS1, ix_dK g1, ix_dK g3, m_ne ee, List.isEmpty_nil, Bool.not_true, er]
      exact ⟨r, S', rfl, h⟩
    | cons z0 zs =>
      have hlen : (0 : Int) < ((zs.length + 1 : Nat) : Int) := by omega
      obtain ⟨z, hz, _⟩ := atI_map (ns := z0 :: zs) (em_pos (x := a) hlen).1 (em_pos (x := a) hlen).2
      obtain ⟨r, S', er, h⟩ := last z
      simp (disch := first | omega | assumption) only [e_var, e_int, e_str, e_bl, e_non, e_glob, e_tup, e_lst, e_bin, e_neg, e_not, e_cmp, e_chain, e_and, e_or, e_ite, e_call, e_callK, e_blt, e_isi, e_idx, e_slc, e_rev, e_mth, e_lc, an_1, an_2, or_1, or_2, es_nil, es_cons, o_none, o_some, ts_none, ts_some, i_seq, i_rng1, i_rng2, t_name, t_tup, t_sub, Wk.ts_nil, Wk.ts_cons, ts_nilc, ts_consn, tupcase_tup, c_asg, c_par, c_aug, c_expr, c_ret, c_ife, c_whl, c_for, c_pass, Wk.cs_nil, Wk.cs_cons, gcase_some, icase_int, flcase_nx, flcase_rt, tcase_some, bcase_bl, bind_ok, bind_no, wp_ok, ofO_some, Option.map_some, b_add, b_sub, m_lt, m_le, m_gt, m_ge, m_eqi, m_nei, m_eqb, m_neb, m_eqs, m_nes, tr_bl, tr_int, tr_non, ixt_eq, l_t0, l_t1, l_t2, l_t3, ne3, beq_self_eq_true, Int.reduceBEq, Int.reduceLT, Int.reduceLE, Int.reduceNeg, abs_int, int_bl, int_int, al_eq, len0, List.getElem?_cons_zero, List.getElem?_cons_succ, List.set_cons_zero, List.set_cons_succ, if_true, if_false, Bool.false_eq_true, decide_eq_true_eq, Bool.not_eq_true', List.length_cons, List.length_nil, b_mod, b_fdiv, b_mulL, b_mulR, b_pow, Nat.reduceLeDiff, Nat.reduceAdd, Nat.zero_le, Nat.reduceLT, m_ne, m_eq, reduceCtorEq, Bool.true_eq_false, penA, penA2, ix_dK hp, kv_left, kv_cells, kv_at, h0, st_pen hp, kp_at, hS1, ix_dK g1, ix_dK g3, m_ne ee, ix_lst g4, len_loc (it_lst g4), List.isEmpty_cons, Bool.not_false, List.length_map, hz, er]
      exact ⟨r, S', rfl, h⟩
end
end Wk

set_option Elab.async false
set_option linter.all false
set_option maxRecDepth 100000
set_option maxHeartbeats 4000000
namespace Wk
open PySem PySem.Spec PyProof.Rows L2

/-! ### loops -/
section
variable {α : Type} {S : Sto} {env : Env}
theorem fg_nil {turn : D → Env → Sto → Res Fl} {keep : Sto → Prop} (h : keep S) : forGo turn keep [] env S = .ok (.nx env) S := by unfold forGo; exact if_pos h
open Classical in
theorem fg_cons {turn : D → Env → Sto → Res Fl} {keep : Sto → Prop} {x : D} {xs : List D} (h : keep S) : forGo turn keep (x :: xs) env S = (turn x env S).bind fun f S1 => flcase f (fun env1 => forGo turn keep xs env1 S1) S1 := by
  show (if keep S then (turn x env S).bind _ else .no) = _
  exact if_pos h
theorem forGo_wp {turn : D → Env → Sto → Res Fl} {keep : Sto → Prop} {Q : Fl → Sto → Prop} {items : List D} (I : Nat → Env → Sto → Prop)
    (hs : ∀ (i : Nat) (x : D) (env : Env) (S : Sto), items[i]? = some x → I i env S → keep S ∧ (turn x env S).wp fun fl S' => match fl with | .nx env' => I (i + 1) env' S' | .rt d => Q (.rt d) S')
    (he : ∀ (env : Env) (S : Sto), I items.length env S → keep S ∧ Q (.nx env) S) (h0 : I 0 env S) : (forGo turn keep items env S).wp Q := by
  have go : ∀ (xs : List D) (i : Nat) (env : Env) (S : Sto), items.drop i = xs → i ≤ items.length → I i env S → (forGo turn keep xs env S).wp Q := by
    intro xs
    induction xs with
    | nil =>
      intro i env S hd hi h
      have e : i = items.length := by have := congrArg List.length hd; rw [List.length_drop, List.length_nil] at this; omega
      subst e
      obtain ⟨k, q⟩ := he env S h
      rw [fg_nil k]; exact q
    | cons x xs ih =>
      intro i env S hd hi h
      have hl : i < items.length := by have := congrArg List.length hd; rw [List.length_drop, List.length_cons] at this; omega
      rw [List.drop_eq_getElem_cons hl] at hd
      injection hd with h1 h2
      obtain ⟨k, q⟩ := hs i x env S (by rw [List.getElem?_eq_getElem hl, h1]) h
      rw [fg_cons k, wp_bind]
      refine wp_mono q fun fl S' q => ?_
      cases fl with
      | nx env' => exact ih (i + 1) env' S' h2 hl q
      | rt d => exact q
  exact go items 0 env S rfl (Nat.zero_le _) h0
theorem whl_wp {test : Env → Sto → Res Bool} {turn : Env → Sto → Res Fl} {Q : Fl → Sto → Prop} (I : Nat → Env → Sto → Prop)
    (hs : ∀ (n : Nat) (env : Env) (S : Sto), I n env S → (test env S).wp fun b S1 => if b = true then (turn env S1).wp fun fl S2 => match fl with | .nx env' => ∃ m, m < n ∧ I m env' S2 | .rt d => Q (.rt d) S2 else Q (.nx env) S1) :
    ∀ (fuel n : Nat) (env : Env) (S : Sto), n < fuel → I n env S → (whlGo test turn fuel env S).wp Q
  | 0, _, _, _, h, _ => absurd h (Nat.not_lt_zero _)
  | fuel + 1, n, env, S, h, hi => by
    have q := hs n env S hi
    show ((test env S).bind fun b S1 => if b then (turn env S1).bind fun f S2 => match f with
      | .nx env1 => whlGo test turn fuel env1 S2
      | .rt d => .ok (.rt d) S2
      else .ok (.nx env) S1).wp Q
    rw [wp_bind]
    refine wp_mono q fun b S1 q => ?_
    cases b with
    | false => exact q
    | true =>
      have q : (turn env S1).wp fun fl S2 => match fl with | .nx env' => ∃ m, m < n ∧ I m env' S2 | .rt d => Q (.rt d) S2 := q
      show ((turn env S1).bind fun f S2 => match f with
        | .nx env1 => whlGo test turn fuel env1 S2
        | .rt d => .ok (.rt d) S2).wp Q
      rw [wp_bind]
      refine wp_mono q fun fl S2 q => ?_
      cases fl with
      | nx env' => obtain ⟨m, hm, q⟩ := q; exact whl_wp I hs fuel m env' S2 (by omega) q
      | rt d => exact q
open Classical in
/-- a comprehension whose turns do not touch the store -/
theorem lcGo_map {body : D → Sto → Res (Option D)} {keep : Sto → Prop} {f : D → D} (hk : keep S) : ∀ (xs acc : List D), (∀ x ∈ xs, body x S = .ok (some (f x)) S) → acc.length + xs.length ≤ sizeLine → lcGo body keep acc xs S = .ok (acc ++ xs.map f) S
  | [], acc, _, _ => by
    show (if keep S then Res.ok acc S else .no) = _
    rw [if_pos hk, List.map_nil, List.append_nil]
  | x :: xs, acc, hb, hl => by
    rw [List.length_cons] at hl
    show (if keep S then (body x S).bind fun o S1 => match o with
        | some y => if acc.length < sizeLine then lcGo body keep (acc ++ [y]) xs S1 else .no
        | none => lcGo body keep acc xs S1 else .no) = _
    rw [if_pos hk, hb x List.mem_cons_self, bind_ok]
    show (if acc.length < sizeLine then lcGo body keep (acc ++ [f x]) xs S else .no) = _
    rw [if_pos (by omega), lcGo_map hk xs (acc ++ [f x]) (fun y hy => hb y (List.mem_cons_of_mem _ hy)) (by rw [List.length_append, List.length_cons, List.length_nil]; omega), List.append_assoc]
    rfl
theorem ret_rt {d : D} : retOf (.rt d) = d := rfl
theorem ret_nx {env : Env} : retOf (.nx env) = .non := rfl
theorem sc_loc {l : Nat} {ds : List D} (h : items S (.loc l) = some ds) : scase (.loc l) S = .ok (listIt ds l) S := by unfold scase; simp only [h]; rfl
theorem sc_tup {ds : List D} : scase (.tup ds) S = .ok ⟨ds, fun _ => True⟩ S := rfl
theorem r1_int {j : Int} (h : -4611686018427387904 ≤ j ∧ j < 4611686018427387904) : rng1op (.int j) S = .ok ⟨(List.range j.toNat).map fun k => .int (k : Nat), fun _ => True⟩ S := if_pos h
theorem r2_int {i j : Int} (h : -4611686018427387904 ≤ i ∧ i < 4611686018427387904 ∧ -4611686018427387904 ≤ j ∧ j < 4611686018427387904) : rng2op (.int i) (.int j) S = .ok ⟨(List.range (j - i).toNat).map fun k => .int (i + (k : Nat)), fun _ => True⟩ S := if_pos h
end

/-! ### data that repr can show -/
/-- a datum of depth at most dp and weight at most w, all of it showable -/
structure OkP (d : PyData) (dp w : Nat) : Prop where
  lay : d.canLay0 = true
  dep : d.depth ≤ dp
  sho : d.showable = true
  lea : d.leavesShort 1921 = true
  wei : d.weight ≤ w
structure OkPs (ds : List PyData) (dp w : Nat) : Prop where
  lay : PyData.canLayAll0 ds = true
  dep : PyData.depthAll ds ≤ dp
  sho : PyData.showableAll ds = true
  lea : PyData.leavesShortAll 1921 ds = true
  wei : PyData.weightAll ds ≤ w
theorem OkP.end {d : PyData} {dp w : Nat} (h : OkP d dp w) (h1 : dp ≤ 60) (h2 : w ≤ 8000) : SeqAt.shaped d = true ∧ d.showable = true ∧ d.shown.length ≤ sizeLine := by
  refine ⟨?_, h.sho, ?_⟩
  · unfold SeqAt.shaped
    have := h.dep
    rw [h.lay, decide_eq_true (by omega)]; rfl
  · have q := PyData.shown_le 1921 (by decide) d h.lea
    have e : sizeLine = 16777216 := by decide
    have := h.wei
    have : (1921 + 2) * d.weight ≤ (1921 + 2) * 8000 := Nat.mul_le_mul_left _ (by omega)
    omega
theorem OkP.mono {d : PyData} {dp w dp' w' : Nat} (h : OkP d dp w) (h1 : dp ≤ dp') (h2 : w ≤ w') : OkP d dp' w' := ⟨h.lay, Nat.le_trans h.dep h1, h.sho, h.lea, Nat.le_trans h.wei h2⟩
theorem okp_int {i : Int} {k : Nat} (hk : k ≤ 1900) (h : i.natAbs < 2 ^ k) : OkP (.int i) 0 (k + 1) := by
  have hl : i.natAbs.log2 < 1920 := by
    by_cases h0 : i.natAbs = 0
    · rw [h0]; decide
    · have := (Nat.log2_lt h0).mpr h; omega
  refine ⟨by simp [PyData.canLay0], by simp [PyData.depth], by simp [PyData.showable, hl], ?_, ?_⟩
  · simp only [PyData.leavesShort, decide_eq_true_eq]
    have := int_text_len_1921 hl
    simp only [PyData.shown]; exact this
  · simp only [PyData.weight]
    by_cases h0 : i = 0
    · simp [h0]
    · have h1 : i.natAbs ≠ 0 := by omega
      have := (Nat.log2_lt h1).mpr h
      split <;> omega
theorem okp_bool {b : Bool} : OkP (.bool b) 0 0 := ⟨by simp [PyData.canLay0], by simp [PyData.depth], by simp [PyData.showable], by simp [PyData.leavesShort], by simp [PyData.weight]⟩
theorem okp_none : OkP .none 0 0 := ⟨by simp [PyData.canLay0], by simp [PyData.depth], by simp [PyData.showable], by simp [PyData.leavesShort], by simp [PyData.weight]⟩
theorem okps_nil : OkPs [] 0 0 := ⟨by simp [PyData.canLayAll0], by simp [PyData.depthAll], by simp [PyData.showableAll], by simp [PyData.leavesShortAll], by simp [PyData.weightAll]⟩
theorem okps_cons {x : PyData} {xs : List PyData} {dp w w' : Nat} (h : OkP x dp w) (hs : OkPs xs dp w') : OkPs (x :: xs) dp (w + w' + 1) :=
  ⟨by simp [PyData.canLayAll0, h.lay, hs.lay], by simp only [PyData.depthAll]; have := h.dep; have := hs.dep; omega, by simp [PyData.showableAll, h.sho, hs.sho], by simp [PyData.leavesShortAll, h.lea, hs.lea],
    by simp only [PyData.weightAll]; have := h.wei; have := hs.wei; omega⟩
theorem OkPs.mono {d : List PyData} {dp w dp' w' : Nat} (h : OkPs d dp w) (h1 : dp ≤ dp') (h2 : w ≤ w') : OkPs d dp' w' := ⟨h.lay, Nat.le_trans h.dep h1, h.sho, h.lea, Nat.le_trans h.wei h2⟩
theorem okp_tuple {xs : List PyData} {dp w : Nat} (h : OkPs xs dp w) : OkP (.tuple xs) (dp + 1) w :=
  ⟨by simp [PyData.canLay0, h.lay], by simp only [PyData.depth]; have := h.dep; omega, by simp [PyData.showable, h.sho], by simp [PyData.leavesShort, h.lea], by simp only [PyData.weight]; exact h.wei⟩
theorem okp_list {xs : List PyData} {dp w : Nat} (h : OkPs xs dp w) : OkP (.list xs) (dp + 1) w :=
  ⟨by simp [PyData.canLay0, h.lay], by simp only [PyData.depth]; have := h.dep; omega, by simp [PyData.showable, h.sho], by simp [PyData.leavesShort, h.lea], by simp only [PyData.weight]; exact h.wei⟩
theorem okp_str {x : Str} (h : (x.cps.all fun c => decide (c < 0x110000)) = true) (h2 : (x.cps.toList.all fun c => decide (c < 16 ^ 8)) = true) : OkP (.str x) 0 x.cps.size :=
  ⟨by simp only [PyData.canLay0]; exact h, by simp [PyData.depth], by simp [PyData.showable], by simp only [PyData.leavesShort]; exact h2, by simp [PyData.weight]⟩
/-- a value whose lists are nested at most n deep, all of it showable -/
def Gd (S : Sto) (n : Nat) (d : D) (dp w : Nat) : Prop := ∃ q, fz (stoG S n) d = some q ∧ OkP q dp w
def Gds (S : Sto) (n : Nat) (ds : List D) (dp w : Nat) : Prop := ∃ qs, fzs (stoG S n) ds = some qs ∧ OkPs qs dp w
section
variable {S S' : Sto} {n dp w w' : Nat} {d : D} {ds : List D}
theorem Gd.mono {dp' w' : Nat} (h : Gd S n d dp w) (h1 : dp ≤ dp') (h2 : w ≤ w') : Gd S n d dp' w' := let ⟨q, a, b⟩ := h; ⟨q, a, b.mono h1 h2⟩
theorem Gds.mono {dp' w' : Nat} (h : Gds S n ds dp w) (h1 : dp ≤ dp') (h2 : w ≤ w') : Gds S n ds dp' w' := let ⟨q, a, b⟩ := h; ⟨q, a, b.mono h1 h2⟩
theorem gd_int {i : Int} {k : Nat} (hk : k ≤ 1900) (h : i.natAbs < 2 ^ k) : Gd S n (.int i) 0 (k + 1) := ⟨_, rfl, okp_int hk h⟩
theorem gd_bl {b : Bool} : Gd S n (.bl b) 0 0 := ⟨_, rfl, okp_bool⟩
theorem gd_non : Gd S n .non 0 0 := ⟨_, rfl, okp_none⟩
theorem gd_str {x : Str} (h : (x.cps.all fun c => decide (c < 0x110000)) = true) (h2 : (x.cps.toList.all fun c => decide (c < 16 ^ 8)) = true) : Gd S n (.str x) 0 x.cps.size := ⟨_, rfl, okp_str h h2⟩
theorem gds_nil : Gds S n [] 0 0 := ⟨_, rfl, okps_nil⟩
theorem gds_cons (h : Gd S n d dp w) (hs : Gds S n ds dp w') : Gds S n (d :: ds) dp (w + w' + 1) := by
  obtain ⟨q, a, b⟩ := h
  obtain ⟨qs, as, bs⟩ := hs
  refine ⟨q :: qs, ?_, okps_cons b bs⟩
  show (match fz (stoG S n) d with | some p => (fzs (stoG S n) ds).map (p :: ·) | none => none) = _
  rw [a, as]; rfl
theorem gd_tup (h : Gds S n ds dp w) : Gd S n (.tup ds) (dp + 1) w := by
  obtain ⟨qs, as, bs⟩ := h
  exact ⟨.tuple qs, by show (fzs (stoG S n) ds).map _ = _; rw [as]; rfl, okp_tuple bs⟩
theorem gd_lst {l : Nat} (hl : S[l]? = some (.lst ds)) (h : Gds S n ds dp w) : Gd S (n + 1) (.loc l) (dp + 1) w := by
  obtain ⟨qs, as, bs⟩ := h
  refine ⟨.list qs, ?_, okp_list bs⟩
  show stoG S (n + 1) l = _
  unfold stoG
  simp only [hl, as]
  rfl
/-- what is no dict stays -/
def Ls (S S' : Sto) : Prop := ∀ (l : Nat) (o : O), S[l]? = some o → (∀ kvs, o ≠ .dK kvs) → S'[l]? = some o
theorem Ke.ls (k : Ke S S') : Ls S S' := fun l o h _ => k.get h
theorem Kp.ls {p : Nat} {kvs : List (Key × D)} (k : Kp p S S') (h : S[p]? = some (.dK kvs)) : Ls S S' := fun l o e hn => k.get e fun z => by subst z; rw [h] at e; cases e; exact hn _ rfl
theorem Ls.trans {S2 : Sto} (a : Ls S S') (b : Ls S' S2) : Ls S S2 := fun l o h hn => b l o (a l o h hn) hn
mutual
theorem fz_ls {g g' : Nat → Option PyData} (hg : ∀ l q, g l = some q → g' l = some q) : ∀ {d : D} {q : PyData}, fz g d = some q → fz g' d = some q
  | .non, _, h => h
  | .bl _, _, h => h
  | .int _, _, h => h
  | .str _, _, h => h
  | .tup ds, q, h => by
    have h : (fzs g ds).map PyData.tuple = some q := h
    cases e : fzs g ds with
    | none => rw [e] at h; cases h
    | some qs =>
      rw [e] at h
      show (fzs g' ds).map PyData.tuple = some q
      rw [fzs_ls hg e]; exact h
  | .loc l, q, h => hg l q h
theorem fzs_ls {g g' : Nat → Option PyData} (hg : ∀ l q, g l = some q → g' l = some q) : ∀ {ds : List D} {qs : List PyData}, fzs g ds = some qs → fzs g' ds = some qs
  | [], _, h => h
  | d :: ds, qs, h => by
    have h : (match fz g d with | some p => (fzs g ds).map (p :: ·) | none => none) = some qs := h
    show (match fz g' d with | some p => (fzs g' ds).map (p :: ·) | none => none) = some qs
    cases e : fz g d with
    | none => rw [e] at h; cases h
    | some q =>
      rw [e] at h
      have h : (fzs g ds).map (q :: ·) = some qs := h
      cases e2 : fzs g ds with
      | none => rw [e2] at h; cases h
      | some qs2 => rw [e2] at h; rw [fz_ls hg e, fzs_ls hg e2]; exact h
end
theorem stoG_ls (k : Ls S S') : ∀ (n l : Nat) (q : PyData), stoG S n l = some q → stoG S' n l = some q
  | 0, _, _, h => by cases h
  | n + 1, l, q, h => by
    unfold stoG at h ⊢
    cases e : S[l]? with
    | none => rw [e] at h; cases h
    | some o =>
      rw [e] at h
      cases o with
      | dK _ => cases h
      | lst ds =>
        rw [k l _ e (fun _ z => nomatch z)]
        have h : (fzs (stoG S n) ds).map PyData.list = some q := h
        show (fzs (stoG S' n) ds).map PyData.list = some q
        cases e2 : fzs (stoG S n) ds with
        | none => rw [e2] at h; cases h
        | some qs => rw [e2] at h; rw [fzs_ls (stoG_ls k n) e2]; exact h
      | scr ds =>
        rw [k l _ e (fun _ z => nomatch z)]
        have h : (fzs (stoG S n) ds).map PyData.list = some q := h
        show (fzs (stoG S' n) ds).map PyData.list = some q
        cases e2 : fzs (stoG S n) ds with
        | none => rw [e2] at h; cases h
        | some qs => rw [e2] at h; rw [fzs_ls (stoG_ls k n) e2]; exact h
theorem Gd.ls (h : Gd S n d dp w) (k : Ls S S') : Gd S' n d dp w := let ⟨q, a, b⟩ := h; ⟨q, fz_ls (stoG_ls k n) a, b⟩
theorem stoG_up : ∀ (n l : Nat) (q : PyData), stoG S n l = some q → stoG S (n + 1) l = some q
  | 0, _, _, h => by cases h
  | n + 1, l, q, h => by
    unfold stoG at h ⊢
    cases e : S[l]? with
    | none => rw [e] at h; cases h
    | some o =>
      rw [e] at h
      cases o with
      | dK _ => cases h
      | lst ds =>
        have h : (fzs (stoG S n) ds).map PyData.list = some q := h
        show (fzs (stoG S (n + 1)) ds).map PyData.list = some q
        cases e2 : fzs (stoG S n) ds with
        | none => rw [e2] at h; cases h
        | some qs => rw [e2] at h; rw [fzs_ls (stoG_up n) e2]; exact h
      | scr ds =>
        have h : (fzs (stoG S n) ds).map PyData.list = some q := h
        show (fzs (stoG S (n + 1)) ds).map PyData.list = some q
        cases e2 : fzs (stoG S n) ds with
        | none => rw [e2] at h; cases h
        | some qs => rw [e2] at h; rw [fzs_ls (stoG_up n) e2]; exact h
theorem Gd.up (h : Gd S n d dp w) : Gd S (n + 1) d dp w := let ⟨q, a, b⟩ := h; ⟨q, fz_ls (stoG_up n) a, b⟩
theorem Gd.le {m : Nat} (h : Gd S n d dp w) (hm : n ≤ m) : Gd S m d dp w := by
  induction m with
  | zero => have : n = 0 := by omega
            subst this; exact h
  | succ m ih =>
    by_cases e : n = m + 1
    · subst e; exact h
    · exact (ih (by omega)).up
/-- repr of a good value, here and wherever its lists stay -/
theorem repr_gd (h : Gd S n d dp w) (hn : n ≤ 12) (h1 : dp ≤ 60) (h2 : w ≤ 8000) : ∃ x : Str, ∀ S', Ls S S' → reprD S' d = some x := by
  obtain ⟨q, a, b⟩ := h.le hn
  obtain ⟨e1, e2, e3⟩ := b.end h1 h2
  refine ⟨q.shown, fun S' k => ?_⟩
  have : dat S' d = some q := fz_ls (stoG_ls k 12) a
  unfold reprD
  simp only [this]
  exact if_pos ⟨e1, e2, e3⟩
theorem blt_repr {x : Str} (hi : ∀ i, d ≠ .int i) (h : reprD S d = some x) : bltop .repr [d] S = .ok (.str x) S := by
  cases d with
  | int i => exact absurd rfl (hi i)
  | non => show ofO ((reprD S .non).map D.str) S = _; rw [h]; rfl
  | bl b => show ofO ((reprD S (.bl b)).map D.str) S = _; rw [h]; rfl
  | str y => show ofO ((reprD S (.str y)).map D.str) S = _; rw [h]; rfl
  | tup ds => show ofO ((reprD S (.tup ds)).map D.str) S = _; rw [h]; rfl
  | loc l => show ofO ((reprD S (.loc l)).map D.str) S = _; rw [h]; rfl
theorem blt_repr_int {i : Int} (h : i.natAbs.log2 < 1920) : bltop .repr [.int i] S = .ok (.str (toString i)) S := by
  show (if i.natAbs.log2 < 1920 then Res.ok (D.str (toString i)) S else .no) = _
  exact if_pos h
/-- repr of a good value -/
theorem repr_good (h : Gd S n d dp w) (hn : n ≤ 12) (h1 : dp ≤ 60) (h2 : w ≤ 8000) : ∃ x : Str, ∀ S', Ls S S' → bltop .repr [d] S' = .ok (.str x) S' := by
  cases d with
  | int i =>
    obtain ⟨q, a, b⟩ := h
    cases a
    have hl : i.natAbs.log2 < 1920 := by have := b.sho; simpa [PyData.showable] using this
    exact ⟨_, fun S' _ => blt_repr_int hl⟩
  | _ =>
    obtain ⟨x, hx⟩ := repr_gd h hn h1 h2
    exact ⟨x, fun S' k => blt_repr (fun i z => nomatch z) (hx S' k)⟩
end
end Wk

set_option Elab.async false
set_option linter.all false
set_option maxRecDepth 100000
set_option maxHeartbeats 4000000
namespace Wk
open PySem PySem.Spec PyProof.Rows L2
/-! ### pens by kind: where the cells stand is told -/
def PenD (S : Sto) (p c t : Nat) : Prop := ∃ (a l : Int) (ns : List Int), S[p]? = some (.dK (penKv c a l)) ∧ S[c]? = some (.lst (ns.map D.int)) ∧ 0 ≤ a ∧ a ≤ t ∧ 0 ≤ l
def PenL (S : Sto) (p c t : Nat) : Prop := ∃ (a l : Int) (ns : List Int), S[p]? = some (.lst [.loc c, .int a, .int l]) ∧ S[c]? = some (.lst (ns.map D.int)) ∧ 0 ≤ a ∧ a ≤ t ∧ 0 ≤ l
theorem b_fdivL {i j : Int} {S : Sto} (h : 0 < j ∧ j < 1606938044258990275541962092341162602522202993782792835301376) : binop .fdiv (.int i) (.int j) S = .ok (.int (i / j)) S := by
  have h2 : j.natAbs.log2 < 9000 := by
    have : j.natAbs.log2 < 200 := by
      have h0 : j.natAbs ≠ 0 := by omega
      exact (Nat.log2_lt h0).mpr (Nat.lt_of_lt_of_le (show j.natAbs < 1606938044258990275541962092341162602522202993782792835301376 by omega) (by decide))
    omega
  unfold binop; exact if_pos (.inr ⟨h.1, h2⟩)
theorem st_pl1 {S : Sto} {p : Nat} {x y z d : D} (h : S[p]? = some (.lst [x, y, z])) : setop (.loc p) (.int 1) d S = .ok () (S.set p (.lst [x, d, z])) := by
  have e : ixN 3 1 = some 1 := by decide
  unfold setop; simp only [h, List.length_cons, List.length_nil, Nat.zero_add, Nat.reduceAdd, e]; rfl
theorem st_pl2 {S : Sto} {p : Nat} {x y z d : D} (h : S[p]? = some (.lst [x, y, z])) : setop (.loc p) (.int 2) d S = .ok () (S.set p (.lst [x, y, d])) := by
  have e : ixN 3 2 = some 2 := by decide
  unfold setop; simp only [h, List.length_cons, List.length_nil, Nat.zero_add, Nat.reduceAdd, e]; rfl
theorem at3_0 {x y z : D} : atI [x, y, z] 0 = some x := rfl
theorem at3_1 {x y z : D} : atI [x, y, z] 1 = some y := rfl
theorem at3_2 {x y z : D} : atI [x, y, z] 2 = some z := rfl
section
variable {S : Sto} {p c : Nat} {F : Orc} {G : Shp}
def penL3 (mix : Cs) : Cs := (.cons 
  (.ife (.and (.cons (.cmp .lt (.var 3) (.blt .len (.cons (.idx (.var 0) (.int 0)) .nil))) (.cons (.cmp .ge (.blt .abs (.cons (.var 4) .nil)) (.bin .pow (.int 10) (.int 18))) .nil))) ((.cons 
    (.asg (.name 5) (.bin .add (.bin .mul (.int 2) (.blt .abs (.cons (.var 4) .nil))) (.blt .int (.cons (.cmp .lt (.var 4) (.int 0)) .nil)))) (.cons 
    (.asg (.sub (.var 0) (.int 2)) (.bin .fdiv (.var 5) (.var 1))) (.cons 
    (.ret (.bin .mod (.var 5) (.var 1))) .nil)))) .nil) mix)
def penL2 (e0 : E) (mix : Cs) : Cs := (.cons 
  (.asg (.name 3) (.idx (.var 0) (.int 1))) (.cons 
  (.asg (.sub (.var 0) (.int 1)) (.bin .add (.var 3) (.int 1))) (.cons 
  (.asg (.name 4) e0) (.cons 
  (.ife (.cmp .ne (.idx (.var 0) (.int 0)) (.lst .nil)) ((.cons 
    (.asg (.name 4) (.idx (.idx (.var 0) (.int 0)) (.bin .mod (.var 3) (.blt .len (.cons (.idx (.var 0) (.int 0)) .nil))))) .nil)) .nil) (penL3 mix)))))
def penL1 (e0 : E) (mix : Cs) : Cs := (.cons 
  (.ife (.cmp .gt (.idx (.var 0) (.int 2)) (.int 0)) ((.cons 
    (.asg (.name 2) (.bin .mod (.idx (.var 0) (.int 2)) (.var 1))) (.cons 
    (.asg (.sub (.var 0) (.int 2)) (.bin .fdiv (.idx (.var 0) (.int 2)) (.var 1))) (.cons 
    (.ret (.var 2)) .nil)))) .nil) (penL2 e0 mix))
theorem drawL {e0 : E} {mx : Cs} {rest : Env} {t : Nat} {m : Int} (pen : PenL S p c t) (hpc : c ≠ p) (ht : t < 1000000) (hm : 0 < m) (hm2 : m < 1606938044258990275541962092341162602522202993782792835301376)
    (he : ∀ (a : Int) (S1 : Sto), 0 ≤ a → a < 1000000 → ∃ z, evE F G e0 (some (.loc p) :: some (.int m) :: none :: some (.int a) :: none :: none :: rest) S1 = .ok (.int z) S1)
    (hmix : ∀ (a z : Int) (S2 : Sto), 0 ≤ a → a < 1000000 → ∃ w : Int, exCs F G mx (some (.loc p) :: some (.int m) :: none :: some (.int a) :: some (.int z) :: none :: rest) S2 = .ok (.rt (.int (w % m))) S2) :
    ∃ r S', exCs F G (penL1 e0 mx) (some (.loc p) :: some (.int m) :: none :: none :: none :: none :: rest) S = .ok (.rt (.int r)) S' ∧ 0 ≤ r ∧ r < m ∧ Kp p S S' ∧ PenL S' p c (t + 1) := by
  obtain ⟨a, l, ns, hp, hc, ha, hat, hl⟩ := pen
  by_cases h0 : 0 < l
  · simp (disch := first | omega | assumption) only [e_var, e_int, e_str, e_bl, e_non, e_glob, e_tup, e_lst, e_bin, e_neg, e_not, e_cmp, e_chain, e_and, e_or, e_ite, e_call, e_callK, e_blt, e_isi, e_idx, e_slc, e_rev, e_mth, e_lc, an_1, an_2, or_1, or_2, es_nil, es_cons, o_none, o_some, ts_none, ts_some, i_seq, i_rng1, i_rng2, t_name, t_tup, t_sub, Wk.ts_nil, Wk.ts_cons, ts_nilc, ts_consn, tupcase_tup, c_asg, c_par, c_aug, c_expr, c_ret, c_ife, c_whl, c_for, c_pass, Wk.cs_nil, Wk.cs_cons, gcase_some, icase_int, flcase_nx, flcase_rt, tcase_some, bcase_bl, bind_ok, bind_no, wp_ok, ofO_some, Option.map_some, b_add, b_sub, m_lt, m_le, m_gt, m_ge, m_eqi, m_nei, m_eqb, m_neb, m_eqs, m_nes, tr_bl, tr_int, tr_non, ixt_eq, l_t0, l_t1, l_t2, l_t3, ne3, beq_self_eq_true, Int.reduceBEq, Int.reduceLT, Int.reduceLE, Int.reduceNeg, abs_int, int_bl, int_int, al_eq, len0, List.getElem?_cons_zero, List.getElem?_cons_succ, List.set_cons_zero, List.set_cons_succ, if_true, if_false, Bool.false_eq_true, decide_eq_true_eq, Bool.not_eq_true', List.length_cons, List.length_nil, b_mod, b_fdiv, b_mulL, b_mulR, b_pow, Nat.reduceLeDiff, Nat.reduceAdd, Nat.zero_le, Nat.reduceLT, m_ne, m_eq, reduceCtorEq, Bool.true_eq_false, penL1, ix_lst hp, at3_2, h0, st_pl2 hp, b_fdivL]
    exact ⟨_, _, rfl, (em_pos hm).1, (em_pos hm).2, Kp.set, ⟨a, l / m, ns, set_new hp, set_get hc hpc, ha, by omega, Int.ediv_nonneg hl (by omega)⟩⟩
  · have g1 : (S.set p (.lst [.loc c, .int (a + 1), .int l]))[p]? = some (.lst [.loc c, .int (a + 1), .int l]) := set_new hp
    have g2 : (S.set p (.lst [.loc c, .int (a + 1), .int l]))[c]? = some (.lst (ns.map D.int)) := set_get hc hpc
    generalize hS1 : S.set p (.lst [.loc c, .int (a + 1), .int l]) = S1 at g1 g2
    have g3 : (S1 ++ [O.lst []])[p]? = some (.lst [.loc c, .int (a + 1), .int l]) := ap_get g1
    have g4 : (S1 ++ [O.lst []])[c]? = some (.lst (ns.map D.int)) := ap_get g2
    have ee := eq_empty' g4 ap_new
    have k1 : Kp p S (S1 ++ [O.lst []]) := by rw [← hS1]; exact Kp.set.trans Ke.ap.kp
    have last : ∀ z : Int, ∃ r S', exCs F G (penL3 mx) (some (.loc p) :: some (.int m) :: none :: some (.int a) :: some (.int z) :: none :: rest) (S1 ++ [O.lst []]) = .ok (.rt (.int r)) S' ∧ 0 ≤ r ∧ r < m ∧ Kp p S S' ∧ PenL S' p c (t + 1) := by
      intro z
      obtain ⟨r, er⟩ := hmix a z (S1 ++ [O.lst []]) ha (by omega)
      have e18 : (10 : Int) ^ (18 : Int).toNat = 1000000000000000000 := rfl
      by_cases h1 : a < (ns.length : Int)
      · by_cases h2 : (1000000000000000000 : Int) ≤ if z < 0 then -z else z
        · simp (disch := first | omega | assumption) only [e_var, e_int, e_str, e_bl, e_non, e_glob, e_tup, e_lst, e_bin, e_neg, e_not, e_cmp, e_chain, e_and, e_or, e_ite, e_call, e_callK, e_blt, e_isi, e_idx, e_slc, e_rev, e_mth, e_lc, an_1, an_2, or_1, or_2, es_nil, es_cons, o_none, o_some, ts_none, ts_some, i_seq, i_rng1, i_rng2, t_name, t_tup, t_sub, Wk.ts_nil, Wk.ts_cons, ts_nilc, ts_consn, tupcase_tup, c_asg, c_par, c_aug, c_expr, c_ret, c_ife, c_whl, c_for, c_pass, Wk.cs_nil, Wk.cs_cons, gcase_some, icase_int, flcase_nx, flcase_rt, tcase_some, bcase_bl, bind_ok, bind_no, wp_ok, ofO_some, Option.map_some, b_add, b_sub, m_lt, m_le, m_gt, m_ge, m_eqi, m_nei, m_eqb, m_neb, m_eqs, m_nes, tr_bl, tr_int, tr_non, ixt_eq, l_t0, l_t1, l_t2, l_t3, ne3, beq_self_eq_true, Int.reduceBEq, Int.reduceLT, Int.reduceLE, Int.reduceNeg, abs_int, int_bl, int_int, al_eq, len0, List.getElem?_cons_zero, List.getElem?_cons_succ, List.set_cons_zero, List.set_cons_succ, if_true, if_false, Bool.false_eq_true, decide_eq_true_eq, Bool.not_eq_true', List.length_cons, List.length_nil, b_mod, b_fdiv, b_mulL, b_mulR, b_pow, Nat.reduceLeDiff, Nat.reduceAdd, Nat.zero_le, Nat.reduceLT, m_ne, m_eq, reduceCtorEq, Bool.true_eq_false, penL3, ix_lst g3, at3_0, len_loc (it_lst g4), List.length_map, h1, h2, e18, decide_true, st_pl2 g3, b_fdivL]
          refine ⟨_, _, rfl, (em_pos hm).1, (em_pos hm).2, k1.trans Kp.set, ⟨a + 1, _, ns, set_new g3, set_get g4 hpc, by omega, by omega, Int.ediv_nonneg ?_ (by omega)⟩⟩
          split <;> omega
        · simp (disch := first | omega | assumption) only [e_var, e_int, e_str, e_bl, e_non, e_glob, e_tup, e_lst, e_bin, e_neg, e_not, e_cmp, e_chain, e_and, e_or, e_ite, e_call, e_callK, e_blt, e_isi, e_idx, e_slc, e_rev, e_mth, e_lc, an_1, an_2, or_1, or_2, es_nil, es_cons, o_none, o_some, ts_none, ts_some, i_seq, i_rng1, i_rng2, t_name, t_tup, t_sub, Wk.ts_nil, Wk.ts_cons, ts_nilc, ts_consn, tupcase_tup, c_asg, c_par, c_aug, c_expr, c_ret, c_ife, c_whl, c_for, c_pass, Wk.cs_nil, Wk.cs_cons, gcase_some, icase_int, flcase_nx, flcase_rt, tcase_some, bcase_bl, bind_ok, bind_no, wp_ok, ofO_some, Option.map_some, b_add, b_sub, m_lt, m_le, m_gt, m_ge, m_eqi, m_nei, m_eqb, m_neb, m_eqs, m_nes, tr_bl, tr_int, tr_non, ixt_eq, l_t0, l_t1, l_t2, l_t3, ne3, beq_self_eq_true, Int.reduceBEq, Int.reduceLT, Int.reduceLE, Int.reduceNeg, abs_int, int_bl, int_int, al_eq, len0, List.getElem?_cons_zero, List.getElem?_cons_succ, List.set_cons_zero, List.set_cons_succ, if_true, if_false, Bool.false_eq_true, decide_eq_true_eq, Bool.not_eq_true', List.length_cons, List.length_nil, b_mod, b_fdiv, b_mulL, b_mulR, b_pow, Nat.reduceLeDiff, Nat.reduceAdd, Nat.zero_le, Nat.reduceLT, m_ne, m_eq, reduceCtorEq, Bool.true_eq_false, penL3, ix_lst g3, at3_0, len_loc (it_lst g4), List.length_map, h1, h2, e18, decide_true, decide_false, er]
          exact ⟨_, _, rfl, (em_pos hm).1, (em_pos hm).2, k1, ⟨a + 1, l, ns, g3, g4, by omega, by omega, hl⟩⟩
      · simp (disch := first | omega | assumption) only [e_var, e_int, e_str, e_bl, e_non, e_glob, e_tup, e_lst, e_bin, e_neg, e_not, e_cmp, e_chain, e_and, e_or, e_ite, e_call, e_callK, e_blt, e_isi, e_idx, e_slc, e_rev, e_mth, e_lc, an_1, an_2, or_1, or_2, es_nil, es_cons, o_none, o_some, ts_none, ts_some, i_seq, i_rng1, i_rng2, t_name, t_tup, t_sub, Wk.ts_nil, Wk.ts_cons, ts_nilc, ts_consn, tupcase_tup, c_asg, c_par, c_aug, c_expr, c_ret, c_ife, c_whl, c_for, c_pass, Wk.cs_nil, Wk.cs_cons, gcase_some, icase_int, flcase_nx, flcase_rt, tcase_some, bcase_bl, bind_ok, bind_no, wp_ok, ofO_some, Option.map_some, b_add, b_sub, m_lt, m_le, m_gt, m_ge, m_eqi, m_nei, m_eqb, m_neb, m_eqs, m_nes, tr_bl, tr_int, tr_non, ixt_eq, l_t0, l_t1, l_t2, l_t3, ne3, beq_self_eq_true, Int.reduceBEq, Int.reduceLT, Int.reduceLE, Int.reduceNeg, abs_int, int_bl, int_int, al_eq, len0, List.getElem?_cons_zero, List.getElem?_cons_succ, List.set_cons_zero, List.set_cons_succ, if_true, if_false, Bool.false_eq_true, decide_eq_true_eq, Bool.not_eq_true', List.length_cons, List.length_nil, b_mod, b_fdiv, b_mulL, b_mulR, b_pow, Nat.reduceLeDiff, Nat.reduceAdd, Nat.zero_le, Nat.reduceLT, m_ne, m_eq, reduceCtorEq, Bool.true_eq_false, penL3, ix_lst g3, at3_0, len_loc (it_lst g4), List.length_map, h1, decide_false, er]
        exact ⟨_, _, rfl, (em_pos hm).1, (em_pos hm).2, k1, ⟨a + 1, l, ns, g3, g4, by omega, by omega, hl⟩⟩
    obtain ⟨zz, ez⟩ := he a S1 ha (by omega)
    cases ns with
    | nil =>
      obtain ⟨r, S', er, h⟩ := last zz
      simp (disch := first | omega | assumption) only [e_var, e_int, e_str, e_bl, e_non, e_glob, e_tup, e_lst, e_bin, e_neg, e_not, e_cmp, e_chain, e_and, e_or, e_ite, e_call, e_callK, e_blt, e_isi, e_idx, e_slc, e_rev, e_mth, e_lc, an_1, an_2, or_1, or_2, es_nil, es_cons, o_none, o_some, ts_none, ts_some, i_seq, i_rng1, i_rng2, t_name, t_tup, t_sub, Wk.ts_nil, Wk.ts_cons, ts_nilc, ts_consn, tupcase_tup, c_asg, c_par, c_aug, c_expr, c_ret, c_ife, c_whl, c_for, c_pass, Wk.cs_nil, Wk.cs_cons, gcase_some, icase_int, flcase_nx, flcase_rt, tcase_some, bcase_bl, bind_ok, bind_no, wp_ok, ofO_some, Option.map_some, b_add, b_sub, m_lt, m_le, m_gt, m_ge, m_eqi, m_nei, m_eqb, m_neb, m_eqs, m_nes, tr_bl, tr_int, tr_non, ixt_eq, l_t0, l_t1, l_t2, l_t3, ne3, beq_self_eq_true, Int.reduceBEq, Int.reduceLT, Int.reduceLE, Int.reduceNeg, abs_int, int_bl, int_int, al_eq, len0, List.getElem?_cons_zero, List.getElem?_cons_succ, List.set_cons_zero, List.set_cons_succ, if_true, if_false, Bool.false_eq_true, decide_eq_true_eq, Bool.not_eq_true', List.length_cons, List.length_nil, b_mod, b_fdiv, b_mulL, b_mulR, b_pow, Nat.reduceLeDiff, Nat.reduceAdd, Nat.zero_le, Nat.reduceLT, m_ne, m_eq, reduceCtorEq, Bool.true_eq_false, penL1, penL2, ix_lst hp, at3_0, at3_1, at3_2, h0, st_pl1 hp, hS1, ez, ix_lst g1, ix_lst g3, m_ne ee, List.isEmpty_nil, Bool.not_true, er]
      exact ⟨r, S', rfl, h⟩
    | cons z0 zs =>
      have hlen : (0 : Int) < ((zs.length + 1 : Nat) : Int) := by omega
      obtain ⟨z, hz, _⟩ := atI_map (ns := z0 :: zs) (em_pos (x := a) hlen).1 (em_pos (x := a) hlen).2
      obtain ⟨r, S', er, h⟩ := last z
      simp (disch := first | omega | assumption) only [e_var, e_int, e_str, e_bl, e_non, e_glob, e_tup, e_lst, e_bin, e_neg, e_not, e_cmp, e_chain, e_and, e_or, e_ite, e_call, e_callK, e_blt, e_isi, e_idx, e_slc, e_rev, e_mth, e_lc, an_1, an_2, or_1, or_2, es_nil, es_cons, o_none, o_some, ts_none, ts_some, i_seq, i_rng1, i_rng2, t_name, t_tup, t_sub, Wk.ts_nil, Wk.ts_cons, ts_nilc, ts_consn, tupcase_tup, c_asg, c_par, c_aug, c_expr, c_ret, c_ife, c_whl, c_for, c_pass, Wk.cs_nil, Wk.cs_cons, gcase_some, icase_int, flcase_nx, flcase_rt, tcase_some, bcase_bl, bind_ok, bind_no, wp_ok, ofO_some, Option.map_some, b_add, b_sub, m_lt, m_le, m_gt, m_ge, m_eqi, m_nei, m_eqb, m_neb, m_eqs, m_nes, tr_bl, tr_int, tr_non, ixt_eq, l_t0, l_t1, l_t2, l_t3, ne3, beq_self_eq_true, Int.reduceBEq, Int.reduceLT, Int.reduceLE, Int.reduceNeg, abs_int, int_bl, int_int, al_eq, len0, List.getElem?_cons_zero, List.getElem?_cons_succ, List.set_cons_zero, List.set_cons_succ, if_true, if_false, Bool.false_eq_true, decide_eq_true_eq, Bool.not_eq_true', List.length_cons, List.length_nil, b_mod, b_fdiv, b_mulL, b_mulR, b_pow, Nat.reduceLeDiff, Nat.reduceAdd, Nat.zero_le, Nat.reduceLT, m_ne, m_eq, reduceCtorEq, Bool.true_eq_false, penL1, penL2, ix_lst hp, at3_0, at3_1, at3_2, h0, st_pl1 hp, hS1, ez, ix_lst g1, ix_lst g3, m_ne ee, ix_lst g4, len_loc (it_lst g4), List.isEmpty_cons, Bool.not_false, List.length_map, hz, er]
      exact ⟨r, S', rfl, h⟩
/-! the three kinds of list pens -/
def e0B : E := .bin .add (.bin .mul (.int 68111) (.var 3)) (.int 47)
def mixB : Cs := (.cons 
  (.asg (.name 6) (.bin .mod (.bin .pow (.bin .add (.bin .add (.bin .mod (.var 4) (.int 2147483587)) (.bin .mul (.int 52067) (.var 3))) (.int 19)) (.int 3)) (.int 2147483629))) (.cons 
  (.asg (.name 6) (.bin .mod (.bin .pow (.bin .add (.bin .add (.bin .mul (.var 6) (.bin .add (.bin .mul (.int 2) (.var 3)) (.int 41))) (.bin .mul (.bin .mul (.int 30013) (.var 3)) (.var 3))) (.int 5)) (.int 5)) (.int 2147483543))) (.cons 
  (.ret (.bin .mod (.bin .fdiv (.var 6) (.int 16)) (.var 1))) .nil)))
theorem mixB_ok {m : Int} (hm : 0 < m) (a z : Int) (S2 : Sto) (ha : 0 ≤ a) (ht : a < 1000000) : ∃ w : Int, exCs F G mixB (some (.loc p) :: some (.int m) :: none :: some (.int a) :: some (.int z) :: none :: [none]) S2 = .ok (.rt (.int (w % m))) S2 := by
  have b1 := em_pos (x := z) (m := 2147483587) (by decide)
  have b2 := em_pos (x := (z % 2147483587 + 52067 * a + 19) ^ (3 : Int).toNat) (m := 2147483629) (by decide)
  generalize h1 : (z % 2147483587 + 52067 * a + 19) ^ (3 : Int).toNat % 2147483629 = one at b2
  have b3 : 0 ≤ one * (2 * a + 41) ∧ one * (2 * a + 41) ≤ 2147483629 * 2000041 := ⟨Int.mul_nonneg b2.1 (by omega), Int.mul_le_mul (by omega) (by omega) (by omega) (by omega)⟩
  have b4 : 0 ≤ 30013 * a * a ∧ 30013 * a * a ≤ 30013000000 * 1000000 := ⟨Int.mul_nonneg (by omega) ha, Int.mul_le_mul (by omega) (by omega) (by omega) (by omega)⟩
  refine ⟨(one * (2 * a + 41) + 30013 * a * a + 5) ^ (5 : Int).toNat % 2147483543 / 16, ?_⟩
  simp (disch := first | omega | assumption) only [e_var, e_int, e_str, e_bl, e_non, e_glob, e_tup, e_lst, e_bin, e_neg, e_not, e_cmp, e_chain, e_and, e_or, e_ite, e_call, e_callK, e_blt, e_isi, e_idx, e_slc, e_rev, e_mth, e_lc, an_1, an_2, or_1, or_2, es_nil, es_cons, o_none, o_some, ts_none, ts_some, i_seq, i_rng1, i_rng2, t_name, t_tup, t_sub, Wk.ts_nil, Wk.ts_cons, ts_nilc, ts_consn, tupcase_tup, c_asg, c_par, c_aug, c_expr, c_ret, c_ife, c_whl, c_for, c_pass, Wk.cs_nil, Wk.cs_cons, gcase_some, icase_int, flcase_nx, flcase_rt, tcase_some, bcase_bl, bind_ok, bind_no, wp_ok, ofO_some, Option.map_some, b_add, b_sub, m_lt, m_le, m_gt, m_ge, m_eqi, m_nei, m_eqb, m_neb, m_eqs, m_nes, tr_bl, tr_int, tr_non, ixt_eq, l_t0, l_t1, l_t2, l_t3, ne3, beq_self_eq_true, Int.reduceBEq, Int.reduceLT, Int.reduceLE, Int.reduceNeg, abs_int, int_bl, int_int, al_eq, len0, List.getElem?_cons_zero, List.getElem?_cons_succ, List.set_cons_zero, List.set_cons_succ, if_true, if_false, Bool.false_eq_true, decide_eq_true_eq, Bool.not_eq_true', List.length_cons, List.length_nil, b_mod, b_fdiv, b_mulL, b_mulR, b_pow, Nat.reduceLeDiff, Nat.reduceAdd, Nat.zero_le, Nat.reduceLT, m_ne, m_eq, reduceCtorEq, Bool.true_eq_false, mixB, h1]
def e0C : E := .bin .add (.bin .add (.bin .mul (.bin .mul (.int 52009) (.var 3)) (.var 3)) (.bin .mul (.int 443) (.var 3))) (.int 71)
def mixC : Cs := (.cons 
  (.asg (.name 6) (.bin .mod (.bin .pow (.bin .add (.bin .add (.bin .mod (.var 4) (.int 2147483563)) (.bin .mul (.int 71011) (.var 3))) (.int 83)) (.int 3)) (.int 2147483647))) (.cons 
  (.asg (.name 7) (.bin .mod (.bin .pow (.bin .add (.bin .add (.bin .mul (.var 6) (.bin .add (.var 3) (.int 40009))) (.bin .mul (.bin .mul (.int 1301) (.var 3)) (.var 3))) (.bin .mod (.var 4) (.int 1009))) (.int 5)) (.int 2147483543))) (.cons 
  (.ret (.bin .mod (.bin .fdiv (.var 7) (.int 64)) (.var 1))) .nil)))
theorem mixC_ok {m : Int} (hm : 0 < m) (a z : Int) (S2 : Sto) (ha : 0 ≤ a) (ht : a < 1000000) : ∃ w : Int, exCs F G mixC (some (.loc p) :: some (.int m) :: none :: some (.int a) :: some (.int z) :: none :: [none, none]) S2 = .ok (.rt (.int (w % m))) S2 := by
  have b1 := em_pos (x := z) (m := 2147483563) (by decide)
  have b5 := em_pos (x := z) (m := 1009) (by decide)
  have b2 := em_pos (x := (z % 2147483563 + 71011 * a + 83) ^ (3 : Int).toNat) (m := 2147483647) (by decide)
  generalize h1 : (z % 2147483563 + 71011 * a + 83) ^ (3 : Int).toNat % 2147483647 = one at b2
  have b3 : 0 ≤ one * (a + 40009) ∧ one * (a + 40009) ≤ 2147483647 * 1040009 := ⟨Int.mul_nonneg b2.1 (by omega), Int.mul_le_mul (by omega) (by omega) (by omega) (by omega)⟩
  have b4 : 0 ≤ 1301 * a * a ∧ 1301 * a * a ≤ 1301000000 * 1000000 := ⟨Int.mul_nonneg (by omega) ha, Int.mul_le_mul (by omega) (by omega) (by omega) (by omega)⟩
  refine ⟨(one * (a + 40009) + 1301 * a * a + z % 1009) ^ (5 : Int).toNat % 2147483543 / 64, ?_⟩
  simp (disch := first | omega | assumption) only [e_var, e_int, e_str, e_bl, e_non, e_glob, e_tup, e_lst, e_bin, e_neg, e_not, e_cmp, e_chain, e_and, e_or, e_ite, e_call, e_callK, e_blt, e_isi, e_idx, e_slc, e_rev, e_mth, e_lc, an_1, an_2, or_1, or_2, es_nil, es_cons, o_none, o_some, ts_none, ts_some, i_seq, i_rng1, i_rng2, t_name, t_tup, t_sub, Wk.ts_nil, Wk.ts_cons, ts_nilc, ts_consn, tupcase_tup, c_asg, c_par, c_aug, c_expr, c_ret, c_ife, c_whl, c_for, c_pass, Wk.cs_nil, Wk.cs_cons, gcase_some, icase_int, flcase_nx, flcase_rt, tcase_some, bcase_bl, bind_ok, bind_no, wp_ok, ofO_some, Option.map_some, b_add, b_sub, m_lt, m_le, m_gt, m_ge, m_eqi, m_nei, m_eqb, m_neb, m_eqs, m_nes, tr_bl, tr_int, tr_non, ixt_eq, l_t0, l_t1, l_t2, l_t3, ne3, beq_self_eq_true, Int.reduceBEq, Int.reduceLT, Int.reduceLE, Int.reduceNeg, abs_int, int_bl, int_int, al_eq, len0, List.getElem?_cons_zero, List.getElem?_cons_succ, List.set_cons_zero, List.set_cons_succ, if_true, if_false, Bool.false_eq_true, decide_eq_true_eq, Bool.not_eq_true', List.length_cons, List.length_nil, b_mod, b_fdiv, b_mulL, b_mulR, b_pow, Nat.reduceLeDiff, Nat.reduceAdd, Nat.zero_le, Nat.reduceLT, m_ne, m_eq, reduceCtorEq, Bool.true_eq_false, mixC, h1]
def e0D : E := .bin .add (.bin .mul (.int 2011) (.var 3)) (.int 907)
def mixD : Cs := (.cons 
  (.asg (.name 6) (.bin .mod (.bin .pow (.bin .add (.bin .add (.bin .mod (.var 4) (.int 2147483563)) (.bin .mul (.int 60013) (.var 3))) (.int 71)) (.int 5)) (.int 2147483647))) (.cons 
  (.asg (.name 7) (.bin .mod (.bin .pow (.bin .add (.bin .mul (.var 6) (.bin .add (.var 3) (.int 40009))) (.bin .mul (.bin .mul (.int 70001) (.var 3)) (.var 3))) (.int 3)) (.int 2147483399))) (.cons 
  (.ret (.bin .mod (.bin .fdiv (.var 7) (.int 32)) (.var 1))) .nil)))
theorem mixD_ok {m : Int} (hm : 0 < m) (a z : Int) (S2 : Sto) (ha : 0 ≤ a) (ht : a < 1000000) : ∃ w : Int, exCs F G mixD (some (.loc p) :: some (.int m) :: none :: some (.int a) :: some (.int z) :: none :: [none, none]) S2 = .ok (.rt (.int (w % m))) S2 := by
  have b1 := em_pos (x := z) (m := 2147483563) (by decide)
  have b2 := em_pos (x := (z % 2147483563 + 60013 * a + 71) ^ (5 : Int).toNat) (m := 2147483647) (by decide)
  generalize h1 : (z % 2147483563 + 60013 * a + 71) ^ (5 : Int).toNat % 2147483647 = one at b2
  have b3 : 0 ≤ one * (a + 40009) ∧ one * (a + 40009) ≤ 2147483647 * 1040009 := ⟨Int.mul_nonneg b2.1 (by omega), Int.mul_le_mul (by omega) (by omega) (by omega) (by omega)⟩
  have b4 : 0 ≤ 70001 * a * a ∧ 70001 * a * a ≤ 70001000000 * 1000000 := ⟨Int.mul_nonneg (by omega) ha, Int.mul_le_mul (by omega) (by omega) (by omega) (by omega)⟩
  refine ⟨(one * (a + 40009) + 70001 * a * a) ^ (3 : Int).toNat % 2147483399 / 32, ?_⟩
  simp (disch := first | omega | assumption) only [e_var, e_int, e_str, e_bl, e_non, e_glob, e_tup, e_lst, e_bin, e_neg, e_not, e_cmp, e_chain, e_and, e_or, e_ite, e_call, e_callK, e_blt, e_isi, e_idx, e_slc, e_rev, e_mth, e_lc, an_1, an_2, or_1, or_2, es_nil, es_cons, o_none, o_some, ts_none, ts_some, i_seq, i_rng1, i_rng2, t_name, t_tup, t_sub, Wk.ts_nil, Wk.ts_cons, ts_nilc, ts_consn, tupcase_tup, c_asg, c_par, c_aug, c_expr, c_ret, c_ife, c_whl, c_for, c_pass, Wk.cs_nil, Wk.cs_cons, gcase_some, icase_int, flcase_nx, flcase_rt, tcase_some, bcase_bl, bind_ok, bind_no, wp_ok, ofO_some, Option.map_some, b_add, b_sub, m_lt, m_le, m_gt, m_ge, m_eqi, m_nei, m_eqb, m_neb, m_eqs, m_nes, tr_bl, tr_int, tr_non, ixt_eq, l_t0, l_t1, l_t2, l_t3, ne3, beq_self_eq_true, Int.reduceBEq, Int.reduceLT, Int.reduceLE, Int.reduceNeg, abs_int, int_bl, int_int, al_eq, len0, List.getElem?_cons_zero, List.getElem?_cons_succ, List.set_cons_zero, List.set_cons_succ, if_true, if_false, Bool.false_eq_true, decide_eq_true_eq, Bool.not_eq_true', List.length_cons, List.length_nil, b_mod, b_fdiv, b_mulL, b_mulR, b_pow, Nat.reduceLeDiff, Nat.reduceAdd, Nat.zero_le, Nat.reduceLT, m_ne, m_eq, reduceCtorEq, Bool.true_eq_false, mixD, h1]
theorem drawB {t : Nat} {m : Int} (pen : PenL S p c t) (hpc : c ≠ p) (ht : t < 1000000) (hm : 0 < m) (hm2 : m < 1606938044258990275541962092341162602522202993782792835301376) :
    ∃ r S', exCs F G (penL1 e0B mixB) (some (.loc p) :: some (.int m) :: none :: none :: none :: none :: [none]) S = .ok (.rt (.int r)) S' ∧ 0 ≤ r ∧ r < m ∧ Kp p S S' ∧ PenL S' p c (t + 1) :=
  drawL pen hpc ht hm hm2 (fun a S1 _ _ => ⟨68111 * a + 47, by simp (disch := first | omega | assumption) only [e_var, e_int, e_str, e_bl, e_non, e_glob, e_tup, e_lst, e_bin, e_neg, e_not, e_cmp, e_chain, e_and, e_or, e_ite, e_call, e_callK, e_blt, e_isi, e_idx, e_slc, e_rev, e_mth, e_lc, an_1, an_2, or_1, or_2, es_nil, es_cons, o_none, o_some, ts_none, ts_some, i_seq, i_rng1, i_rng2, t_name, t_tup, t_sub, Wk.ts_nil, Wk.ts_cons, ts_nilc, ts_consn, tupcase_tup, c_asg, c_par, c_aug, c_expr, c_ret, c_ife, c_whl, c_for, c_pass, Wk.cs_nil, Wk.cs_cons, gcase_some, icase_int, flcase_nx, flcase_rt, tcase_some, bcase_bl, bind_ok, bind_no, wp_ok, ofO_some, Option.map_some, b_add, b_sub, m_lt, m_le, m_gt, m_ge, m_eqi, m_nei, m_eqb, m_neb, m_eqs, m_nes, tr_bl, tr_int, tr_non, ixt_eq, l_t0, l_t1, l_t2, l_t3, ne3, beq_self_eq_true, Int.reduceBEq, Int.reduceLT, Int.reduceLE, Int.reduceNeg, abs_int, int_bl, int_int, al_eq, len0, List.getElem?_cons_zero, List.getElem?_cons_succ, List.set_cons_zero, List.set_cons_succ, if_true, if_false, Bool.false_eq_true, decide_eq_true_eq, Bool.not_eq_true', List.length_cons, List.length_nil, b_mod, b_fdiv, b_mulL, b_mulR, b_pow, Nat.reduceLeDiff, Nat.reduceAdd, Nat.zero_le, Nat.reduceLT, m_ne, m_eq, reduceCtorEq, Bool.true_eq_false, e0B]⟩) (fun a z S2 h1 h2 => mixB_ok hm a z S2 h1 h2)
theorem drawC {t : Nat} {m : Int} (pen : PenL S p c t) (hpc : c ≠ p) (ht : t < 1000000) (hm : 0 < m) (hm2 : m < 1606938044258990275541962092341162602522202993782792835301376) :
    ∃ r S', exCs F G (penL1 e0C mixC) (some (.loc p) :: some (.int m) :: none :: none :: none :: none :: [none, none]) S = .ok (.rt (.int r)) S' ∧ 0 ≤ r ∧ r < m ∧ Kp p S S' ∧ PenL S' p c (t + 1) :=
  drawL pen hpc ht hm hm2 (fun a S1 h1 h2 => ⟨52009 * a * a + 443 * a + 71, by
    have b4 : 0 ≤ 52009 * a ∧ 52009 * a ≤ 52009000000 := by omega
    simp (disch := first | omega | assumption) only [e_var, e_int, e_str, e_bl, e_non, e_glob, e_tup, e_lst, e_bin, e_neg, e_not, e_cmp, e_chain, e_and, e_or, e_ite, e_call, e_callK, e_blt, e_isi, e_idx, e_slc, e_rev, e_mth, e_lc, an_1, an_2, or_1, or_2, es_nil, es_cons, o_none, o_some, ts_none, ts_some, i_seq, i_rng1, i_rng2, t_name, t_tup, t_sub, Wk.ts_nil, Wk.ts_cons, ts_nilc, ts_consn, tupcase_tup, c_asg, c_par, c_aug, c_expr, c_ret, c_ife, c_whl, c_for, c_pass, Wk.cs_nil, Wk.cs_cons, gcase_some, icase_int, flcase_nx, flcase_rt, tcase_some, bcase_bl, bind_ok, bind_no, wp_ok, ofO_some, Option.map_some, b_add, b_sub, m_lt, m_le, m_gt, m_ge, m_eqi, m_nei, m_eqb, m_neb, m_eqs, m_nes, tr_bl, tr_int, tr_non, ixt_eq, l_t0, l_t1, l_t2, l_t3, ne3, beq_self_eq_true, Int.reduceBEq, Int.reduceLT, Int.reduceLE, Int.reduceNeg, abs_int, int_bl, int_int, al_eq, len0, List.getElem?_cons_zero, List.getElem?_cons_succ, List.set_cons_zero, List.set_cons_succ, if_true, if_false, Bool.false_eq_true, decide_eq_true_eq, Bool.not_eq_true', List.length_cons, List.length_nil, b_mod, b_fdiv, b_mulL, b_mulR, b_pow, Nat.reduceLeDiff, Nat.reduceAdd, Nat.zero_le, Nat.reduceLT, m_ne, m_eq, reduceCtorEq, Bool.true_eq_false, e0C]⟩) (fun a z S2 h1 h2 => mixC_ok hm a z S2 h1 h2)
theorem drawDD {t : Nat} {m : Int} (pen : PenL S p c t) (hpc : c ≠ p) (ht : t < 1000000) (hm : 0 < m) (hm2 : m < 1606938044258990275541962092341162602522202993782792835301376) :
    ∃ r S', exCs F G (penL1 e0D mixD) (some (.loc p) :: some (.int m) :: none :: none :: none :: none :: [none, none]) S = .ok (.rt (.int r)) S' ∧ 0 ≤ r ∧ r < m ∧ Kp p S S' ∧ PenL S' p c (t + 1) :=
  drawL pen hpc ht hm hm2 (fun a S1 _ _ => ⟨2011 * a + 907, by simp (disch := first | omega | assumption) only [e_var, e_int, e_str, e_bl, e_non, e_glob, e_tup, e_lst, e_bin, e_neg, e_not, e_cmp, e_chain, e_and, e_or, e_ite, e_call, e_callK, e_blt, e_isi, e_idx, e_slc, e_rev, e_mth, e_lc, an_1, an_2, or_1, or_2, es_nil, es_cons, o_none, o_some, ts_none, ts_some, i_seq, i_rng1, i_rng2, t_name, t_tup, t_sub, Wk.ts_nil, Wk.ts_cons, ts_nilc, ts_consn, tupcase_tup, c_asg, c_par, c_aug, c_expr, c_ret, c_ife, c_whl, c_for, c_pass, Wk.cs_nil, Wk.cs_cons, gcase_some, icase_int, flcase_nx, flcase_rt, tcase_some, bcase_bl, bind_ok, bind_no, wp_ok, ofO_some, Option.map_some, b_add, b_sub, m_lt, m_le, m_gt, m_ge, m_eqi, m_nei, m_eqb, m_neb, m_eqs, m_nes, tr_bl, tr_int, tr_non, ixt_eq, l_t0, l_t1, l_t2, l_t3, ne3, beq_self_eq_true, Int.reduceBEq, Int.reduceLT, Int.reduceLE, Int.reduceNeg, abs_int, int_bl, int_int, al_eq, len0, List.getElem?_cons_zero, List.getElem?_cons_succ, List.set_cons_zero, List.set_cons_succ, if_true, if_false, Bool.false_eq_true, decide_eq_true_eq, Bool.not_eq_true', List.length_cons, List.length_nil, b_mod, b_fdiv, b_mulL, b_mulR, b_pow, Nat.reduceLeDiff, Nat.reduceAdd, Nat.zero_le, Nat.reduceLT, m_ne, m_eq, reduceCtorEq, Bool.true_eq_false, e0D]⟩) (fun a z S2 h1 h2 => mixD_ok hm a z S2 h1 h2)
end
end Wk

set_option Elab.async false
set_option linter.all false
set_option maxRecDepth 100000
/-! The value machine: lists and dicts are values; a draw of the pen is a question. Its runs are carried over to the store machine (P2 and on). -/
namespace Wk
open PySem PySem.Spec PyProof.Rows L2

inductive P where
  | non | bl (b : Bool) | int (i : Int) | str (x : Str) | tup (vs : List P) | lst (vs : List P) | dic (ks : List Key) (vs : List P) | pen
/-- a computation: an answer, nothing, or a draw below m -/
inductive Cm (α : Type) where
  | ret (a : α)
  | no
  | ask (m : Int) (k : Int → Cm α)
def Cm.bind {α β : Type} : Cm α → (α → Cm β) → Cm β
  | .ret a, f => f a
  | .no, _ => .no
  | .ask m k, f => .ask m fun r => (k r).bind f
/-- how many draws there may be, and from how many numbers -/
def askMost : Nat := 1000000
def askWide : Int := 1606938044258990275541962092341162602522202993782792835301376
def Cm.okR {α : Type} : Cm α → Nat → (α → Nat → Prop) → Prop
  | .ret a, t, Q => Q a t
  | .no, _, _ => False
  | .ask m k, t, Q => 0 < m ∧ m < askWide ∧ t < askMost ∧ ∀ r : Int, 0 ≤ r → r < m → (k r).okR (t + 1) Q
/-- whatever is drawn, an answer comes, and Q holds of it and of how many draws there were -/
structure Cm.ok {α : Type} (c : Cm α) (t : Nat) (Q : α → Nat → Prop) : Prop where
  h : c.okR t Q
theorem same {α : Sort _} {a b : α} (h : a = b) : a = b := h
section
variable {α β γ : Type}
@[simp] theorem bd_ret {a : α} {f : α → Cm β} : (Cm.ret a).bind f = f a := same rfl
@[simp] theorem bd_no {f : α → Cm β} : (Cm.no : Cm α).bind f = .no := same rfl
@[simp] theorem bd_ask {m : Int} {k : Int → Cm α} {f : α → Cm β} : (Cm.ask m k).bind f = .ask m fun r => (k r).bind f := same rfl
theorem bd_bd {c : Cm α} {f : α → Cm β} {g : β → Cm γ} : (c.bind f).bind g = c.bind fun a => (f a).bind g := by
  induction c with
  | ret a => rfl
  | no => rfl
  | ask m k ih => show Cm.ask m _ = Cm.ask m _; congr 1; funext r; exact ih r
@[simp] theorem ok_ret {a : α} {t : Nat} {Q : α → Nat → Prop} : (Cm.ret a).ok t Q ↔ Q a t := ⟨fun h => h.h, fun h => ⟨h⟩⟩
@[simp] theorem ok_no {t : Nat} {Q : α → Nat → Prop} : (Cm.no : Cm α).ok t Q ↔ False := ⟨fun h => h.h, fun h => h.elim⟩
theorem ok_ask {m : Int} {k : Int → Cm α} {t : Nat} {Q : α → Nat → Prop} : (Cm.ask m k).ok t Q ↔ 0 < m ∧ m < askWide ∧ t < askMost ∧ ∀ r : Int, 0 ≤ r → r < m → (k r).ok (t + 1) Q :=
  ⟨fun h => ⟨h.h.1, h.h.2.1, h.h.2.2.1, fun r h0 h1 => ⟨h.h.2.2.2 r h0 h1⟩⟩, fun h => ⟨⟨h.1, h.2.1, h.2.2.1, fun r h0 h1 => (h.2.2.2 r h0 h1).h⟩⟩⟩
theorem ok_bind {c : Cm α} {f : α → Cm β} {t : Nat} {Q : β → Nat → Prop} : (c.bind f).ok t Q ↔ c.ok t fun a t1 => (f a).ok t1 Q := by
  induction c generalizing t with
  | ret a => rw [bd_ret, ok_ret]
  | no => rw [bd_no, ok_no, ok_no]
  | ask m k ih =>
    rw [bd_ask, ok_ask, ok_ask]
    exact ⟨fun ⟨a, b, c, h⟩ => ⟨a, b, c, fun r h0 h1 => (ih r).mp (h r h0 h1)⟩, fun ⟨a, b, c, h⟩ => ⟨a, b, c, fun r h0 h1 => (ih r).mpr (h r h0 h1)⟩⟩
theorem ok_mono {c : Cm α} {t : Nat} {Q Q' : α → Nat → Prop} (h : c.ok t Q) (hq : ∀ a t1, Q a t1 → Q' a t1) : c.ok t Q' := by
  induction c generalizing t with
  | ret a => exact ok_ret.mpr (hq a t (ok_ret.mp h))
  | no => exact (ok_no.mp h).elim
  | ask m k ih =>
    have h := ok_ask.mp h
    exact ok_ask.mpr ⟨h.1, h.2.1, h.2.2.1, fun r h0 h1 => ih r (h.2.2.2 r h0 h1)⟩
theorem ok_le {c : Cm α} {t : Nat} {Q : α → Nat → Prop} (h : c.ok t Q) : c.ok t fun a t1 => Q a t1 ∧ t ≤ t1 := by
  induction c generalizing t with
  | ret a => exact ok_ret.mpr ⟨ok_ret.mp h, Nat.le_refl _⟩
  | no => exact (ok_no.mp h).elim
  | ask m k ih =>
    have h := ok_ask.mp h
    exact ok_ask.mpr ⟨h.1, h.2.1, h.2.2.1, fun r h0 h1 => ok_mono (ih r (h.2.2.2 r h0 h1)) fun a t1 q => ⟨q.1, by omega⟩⟩
def ofP (o : Option α) : Cm α := match o with
  | some a => .ret a
  | none => .no
@[simp] theorem ofP_some {a : α} : ofP (some a) = .ret a := same rfl
@[simp] theorem ofP_none : ofP (none : Option α) = .no := same rfl
end

/-! ### data as a whole -/
mutual
def pyP : P → Nat → Option PyData
  | .non, _ => some .none
  | .bl b, _ => some (.bool b)
  | .int i, _ => some (.int i)
  | .str x, _ => some (.str x)
  | .tup vs, n => (pyPs vs n).map .tuple
  | .lst vs, n => match n with
    | 0 => none
    | n + 1 => (pyPs vs n).map .list
  | .dic _ _, _ => none
  | .pen, _ => none
def pyPs : List P → Nat → Option (List PyData)
  | [], _ => some []
  | v :: vs, n => match pyP v n with
    | some p => (pyPs vs n).map (p :: ·)
    | none => none
end
def itemsP : P → Option (List P)
  | .tup vs => some vs
  | .lst vs => some vs
  | _ => none
def allIntsP : List P → Option (List Int)
  | [] => some []
  | .int i :: r => (allIntsP r).map (i :: ·)
  | _ :: _ => none
def allBlsP : List P → Option (List Bool)
  | [] => some []
  | .bl b :: r => (allBlsP r).map (b :: ·)
  | _ :: _ => none
def allStrsP : List P → Option (List Str)
  | [] => some []
  | .str x :: r => (allStrsP r).map (x :: ·)
  | _ :: _ => none
def flatP : P → Bool
  | .non => true
  | .bl _ => true
  | .int _ => true
  | .str _ => true
  | _ => false

/-! ### operators -/
open Classical in
noncomputable def binP (op : BOp) (a b : P) : Cm P := match op, a, b with
  | .add, .int i, .int j => .ret (.int (i + j))
  | .sub, .int i, .int j => .ret (.int (i - j))
  | .mul, .int i, .int j => if CMul i j ∨ CMulW i j then .ret (.int (i * j)) else .no
  | .fdiv, .int i, .int j => if CDiv i j ∨ CDivW i j then .ret (.int (i / j)) else .no
  | .mod, .int i, .int j => if 0 < j then .ret (.int (i % j)) else .no
  | .pow, .int i, .int j => if CPow i j then .ret (.int (i ^ j.toNat)) else .no
  | .add, .str x, .str y => if x.length + y.length ≤ sizeLine then .ret (.str (x ++ y)) else .no
  | .add, .tup xs, .tup ys => if xs.length + ys.length ≤ sizeLine then .ret (.tup (xs ++ ys)) else .no
  | .add, .lst xs, .lst ys => if xs.length + ys.length ≤ sizeLine then .ret (.lst (xs ++ ys)) else .no
  | _, _, _ => .no
def fastEqP : P → P → Option Bool
  | .non, .non => some true
  | .int i, .int j => some (i == j)
  | .bl i, .bl j => some (i == j)
  | .str x, .str y => some (x == y)
  | .non, .bl _ => some false
  | .non, .int _ => some false
  | .non, .str _ => some false
  | .bl _, .non => some false
  | .bl _, .str _ => some false
  | .int _, .non => some false
  | .int _, .str _ => some false
  | .str _, .non => some false
  | .str _, .bl _ => some false
  | .str _, .int _ => some false
  | _, _ => none
open Classical in
noncomputable def deepEqP (a b : P) : Option Bool := match pyP a 12, pyP b 12 with
  | some p, some q => if SeqAt.shaped p = true ∧ SeqAt.shaped q = true then some (PyData.eqv p q) else none
  | _, _ => none
noncomputable def eqP (a b : P) : Option Bool := match fastEqP a b with
  | some c => some c
  | none => deepEqP a b
def eqFlatP : P → P → Bool
  | .int i, .int j => i == j
  | .bl i, .int j => (if i then (1 : Int) else 0) == j
  | .int i, .bl j => i == (if j then (1 : Int) else 0)
  | .bl i, .bl j => i == j
  | .str x, .str y => x == y
  | .non, .non => true
  | _, _ => false
def inFlatP (x : P) (vs : List P) : Bool := vs.any fun y => eqFlatP y x
noncomputable def cmpP (op : COp) (a b : P) : Cm P := match op with
  | .eq => ofP ((eqP a b).map .bl)
  | .ne => ofP ((eqP a b).map fun c => .bl (!c))
  | .lt => match a, b with
    | .int i, .int j => .ret (.bl (decide (i < j)))
    | .str x, .str y => .ret (.bl (decide (x.cps.toList < y.cps.toList)))
    | _, _ => .no
  | .le => match a, b with
    | .int i, .int j => .ret (.bl (decide (i ≤ j)))
    | _, _ => .no
  | .gt => match a, b with
    | .int i, .int j => .ret (.bl (decide (j < i)))
    | _, _ => .no
  | .ge => match a, b with
    | .int i, .int j => .ret (.bl (decide (j ≤ i)))
    | _, _ => .no
  | .isN => match a, b with
    | .non, .non => .ret (.bl true)
    | _, .non => .ret (.bl false)
    | _, _ => .no
  | .notN => match a, b with
    | .non, .non => .ret (.bl false)
    | _, .non => .ret (.bl true)
    | _, _ => .no
  | .isin => match itemsP b with
    | some vs => if (flatP a && vs.all flatP) = true then .ret (.bl (inFlatP a vs)) else .no
    | none => .no
  | .notin => match itemsP b with
    | some vs => if (flatP a && vs.all flatP) = true then .ret (.bl (!inFlatP a vs)) else .no
    | none => .no
def truP : P → Option Bool
  | .non => some false
  | .bl b => some b
  | .int i => some (i != 0)
  | .str x => if x.length ≤ sizeLine then some ((x.length : Int) != 0) else none
  | .tup vs => some (!vs.isEmpty)
  | .lst vs => some (!vs.isEmpty)
  | .dic _ vs => some (!vs.isEmpty)
  | .pen => none
def isTyP (v : P) (t : Ty) : Option Bool := match v, t with
  | .non, _ => some false
  | .bl _, .int => some true
  | .bl _, .bool => some true
  | .bl _, _ => some false
  | .int _, .int => some true
  | .int _, _ => some false
  | .str _, .str => some true
  | .str _, _ => some false
  | .tup _, .tuple => some true
  | .tup _, _ => some false
  | .lst _, .list => some true
  | .lst _, _ => some false
  | .dic _ _, .dict => some true
  | .dic _ _, _ => some false
  | .pen, _ => none
open Classical in
noncomputable def reprP (v : P) : Option Str := match pyP v 12 with
  | some p => if SeqAt.shaped p = true ∧ p.showable = true ∧ p.shown.length ≤ sizeLine then some p.shown else none
  | none => none
open Classical in
noncomputable def bltP (f : Blt) (as : List P) : Cm P := match f, as with
  | .abs, [.int i] => .ret (.int (if i < 0 then -i else i))
  | .len, [.str x] => if x.length ≤ sizeLine then .ret (.int x.length) else .no
  | .len, [v] => ofP ((itemsP v).map fun vs => .int vs.length)
  | .int, [.int i] => .ret (.int i)
  | .int, [.bl k] => .ret (.int (if k then 1 else 0))
  | .bool, [.int i] => .ret (.bl (i != 0))
  | .bool, [.bl k] => .ret (.bl k)
  | .str, [.int i] => if i.natAbs.log2 < 1920 then .ret (.str (toString i)) else .no
  | .list, [v] => ofP ((itemsP v).map .lst)
  | .tuple, [v] => ofP ((itemsP v).map .tup)
  | .repr, [.int i] => if i.natAbs.log2 < 1920 then .ret (.str (toString i)) else .no
  | .repr, [v] => ofP ((reprP v).map .str)
  | .sorted, [.lst vs] => match allIntsP vs with
    | some ns => if ns.length ≤ 1000000 then .ret (.lst ((sortI ns).map .int)) else .no
    | none => .no
  | .sum, [.lst vs] => ofP ((allIntsP vs).map fun ns => .int ns.sum)
  | .max1, [.lst vs] => ofP (((allIntsP vs).bind maxI).map .int)
  | .min1, [.lst vs] => ofP (((allIntsP vs).bind minI).map .int)
  | .max2, [.int i, .int j] => .ret (.int (if j > i then j else i))
  | .min2, [.int i, .int j] => .ret (.int (if j < i then j else i))
  | .all, [.lst vs] => ofP ((allBlsP vs).map fun bs => .bl (bs.all id))
  | .any, [.lst vs] => ofP ((allBlsP vs).map fun bs => .bl (bs.any id))
  | _, _ => .no
def firstAtP (x : P) : List P → Option Nat
  | [] => none
  | y :: r => if eqFlatP y x then some 0 else (firstAtP x r).map (· + 1)
/-- methods that change nothing -/
noncomputable def mthP (m : Mth) (o : P) (as : List P) : Cm P := match m, o, as with
  | .lindex, .lst vs, [v] => if (flatP v && vs.all flatP) = true then ofP ((firstAtP v vs).map fun (j : Nat) => .int j) else .no
  | .join, .str x, [v] => match (itemsP v).bind allStrsP with
    | some ys => if (ys.map (·.length)).sum + ys.length * x.length ≤ 16777216 then .ret (.str (Txt.join x ys)) else .no
    | none => .no
  | .split, .str x, [.str y] => if (y.length == 0) = false ∧ x.length + 2 ≤ sizeLine then .ret (.lst ((Txt.split x y).map .str)) else .no
  | _, _, _ => .no
/-- what a changing method leaves of a list of one's own -/
def chgP (m : Mth) (vs : List P) (as : List P) : Cm (List P) := match m, as with
  | .append, [v] => if vs.length < sizeLine then .ret (vs ++ [v]) else .no
  | .extend, [.lst ws] => if vs.length + ws.length ≤ sizeLine then .ret (vs ++ ws) else .no
  | .pop0, [] => if vs.isEmpty then .no else .ret vs.dropLast
  | .reverse, [] => .ret vs.reverse
  | .clear, [] => .ret []
  | .insert, [.int i, v] => if vs.length < sizeLine ∧ 0 ≤ i ∧ i < 2 ^ 63 then .ret (vs.take i.toNat ++ [v] ++ vs.drop i.toNat) else .no
  | _, _ => .no
def valP (ks : List Key) (vs : List P) (k : Key) : Option P := ((ks.zip vs).find? fun kv => decide (kv.1 = k)).map (·.2)
noncomputable def ixP (a i : P) : Cm P := match a, i with
  | .str x, .int i => if x.length ≤ sizeLine then ofP ((atI x.cps.toList i).map fun c => .str ⟨#[c]⟩) else .no
  | .tup vs, .int i => ofP (atI vs i)
  | .lst vs, .int i => ofP (atI vs i)
  | .dic ks vs, .int i => ofP (valP ks vs (.inl i))
  | .dic ks vs, .str x => ofP (valP ks vs (.inr x))
  | _, _ => .no
def slP (a : P) (lo hi : Option Int) : Cm P := match a with
  | .str x => if x.length ≤ sizeLine then .ret (.str (cutS x lo hi)) else .no
  | .tup vs => .ret (.tup (cutG vs lo hi))
  | .lst vs => .ret (.lst (cutG vs lo hi))
  | _ => .no
def rgP (i j : Int) : List P := (List.range (j - i).toNat).map fun k => .int (i + (k : Nat))
open Classical in
noncomputable def lrgP (tp : Bool) (x y : P) : Cm P := match x, y with
  | .int i, .int j => if RgOk i j then (if tp = true then .ret (.tup (rgP i j)) else .ret (.lst (rgP i j))) else .no
  | _, _ => .no
def revP (a : P) : Cm P := match a with
  | .tup vs => .ret (.tup vs.reverse)
  | .lst vs => .ret (.lst vs.reverse)
  | _ => .no
/-- x[i] = v of a list of one's own -/
def putP (vs : List P) (i v : P) : Cm (List P) := match i with
  | .int k => match ixN vs.length k with
    | some j => .ret (vs.set j v)
    | none => .no
  | _ => .no

/-! ### the text, run on values. A slot: its value, whether the list is the def's own alone -/
abbrev PEnv := List (Option (P × Bool))
abbrev POrc := Nat → List P → Cm P
structure PShp where
  shp : Nat → List P → List P → List P
  cst : Nat → P
def wipeP (e : PEnv) : List Nat → PEnv
  | [] => e
  | v :: vs => (wipeP e vs).set v none
def lcP (body : P → Cm (Option P)) : List P → List P → Cm (List P)
  | acc, [] => .ret acc
  | acc, x :: xs => (body x).bind fun o => match o with
    | some y => if acc.length < sizeLine then lcP body (acc ++ [y]) xs else .no
    | none => lcP body acc xs
section
variable (F : POrc) (G : PShp)
/-- a slot that is read, never kept -/
def peek (env : PEnv) (i : Nat) : Cm P := match env[i]? with
  | some (some (v, _)) => .ret v
  | _ => .no

/-- a thing that is looked at, not kept: a slot of one's own may be read -/
def pkP (e : E) (f : PEnv → Cm P) (env : PEnv) : Cm P := match e with
  | .var i => peek env i
  | _ => f env
/-- forms whose list is a new one -/
def frE (fr : Nat → Bool) : E → Bool
  | .int _ => true
  | .str _ => true
  | .bl _ => true
  | .non => true
  | .tup _ => true
  | .lst _ => true
  | .dic _ _ => true
  | .bin _ _ _ => true
  | .neg _ => true
  | .not _ => true
  | .cmp _ _ _ => true
  | .ite _ a b => frE fr a && frE fr b
  | .call f _ => fr f
  | .callK f _ _ _ => fr f
  | .blt _ _ => true
  | .isi _ _ => true
  | .slc _ _ _ => true
  | .rev _ => true
  | .mth _ _ _ => true
  | .lc _ _ _ _ _ => true
  | .lrg1 _ _ => true
  | .lrg2 _ _ _ => true
  | _ => false
mutual
noncomputable def evP : E → PEnv → Cm P
  | .var i, env => match env[i]? with
    | some (some (v, false)) => .ret v
    | _ => .no
  | .int i, _ => .ret (.int i)
  | .str x, _ => .ret (.str x)
  | .bl b, _ => .ret (.bl b)
  | .non, _ => .ret .non
  | .glob i, _ => .ret (G.cst i)
  | .tup es, env => (evPs es env).bind fun vs => if vs.length ≤ 1000 then .ret (.tup vs) else .no
  | .lst es, env => (evPs es env).bind fun vs => if vs.length ≤ 1000 then .ret (.lst vs) else .no
  | .dic ks es, env => (evPs es env).bind fun vs => if ks.length = vs.length ∧ ks.length ≤ 15 ∧ ks.Nodup then .ret (.dic (ks.map Sum.inr) vs) else .no
  | .bin op a b, env => (pkP a (evP a) env).bind fun x => (pkP b (evP b) env).bind fun y => binP op x y
  | .neg a, env => (pkP a (evP a) env).bind fun x => match x with
    | .int i => .ret (.int (-i))
    | _ => .no
  | .not a, env => (pkP a (evP a) env).bind fun x => ofP ((truP x).map fun c => .bl (!c))
  | .cmp op a b, env => (pkP a (evP a) env).bind fun x => (pkP b (evP b) env).bind fun y => cmpP op x y
  | .chain o1 o2 a b c, env => (pkP a (evP a) env).bind fun x => (pkP b (evP b) env).bind fun y => (cmpP o1 x y).bind fun r => match r with
    | .bl true => (pkP c (evP c) env).bind fun z => cmpP o2 y z
    | .bl false => .ret (.bl false)
    | _ => .no
  | .and es, env => evAndP es env
  | .or es, env => evOrP es env
  | .ite c a b, env => (pkP c (evP c) env).bind fun x => match truP x with
    | some true => evP a env
    | some false => evP b env
    | none => .no
  | .call f es, env => (evPs es env).bind fun vs => F f vs
  | .callK f h es ks, env => (evPs es env).bind fun vs => (evPs ks env).bind fun ws => F f (G.shp h vs ws)
  | .blt f es, env => (evKs es env).bind fun vs => bltP f vs
  | .isi a t, env => (pkP a (evP a) env).bind fun x => ofP ((isTyP x t).map .bl)
  | .idx a i, env => (pkP a (evP a) env).bind fun x => (pkP i (evP i) env).bind fun y => ixP x y
  | .slc a lo hi, env => (pkP a (evP a) env).bind fun x => (evOP lo env).bind fun l => (evOP hi env).bind fun h => slP x l h
  | .rev a, env => (pkP a (evP a) env).bind fun x => revP x
  | .mth m o es, env => (pkP o (evP o) env).bind fun x => (evKs es env).bind fun vs => mthP m x vs
  | .lc own t it c e, env => (evIP it env).bind fun xs =>
      (lcP (fun x => (asP t x (wipeP env own)).bind fun env2 => (tsP c env2).bind fun b => if b then (evP e env2).bind fun y => .ret (some y) else .ret none) [] xs).bind fun ys => .ret (.lst ys)
  | .lrg1 tp a, env => (pkP a (evP a) env).bind fun x => lrgP tp (.int 0) x
  | .lrg2 tp a b, env => (pkP a (evP a) env).bind fun x => (pkP b (evP b) env).bind fun y => lrgP tp x y
noncomputable def evAndP : Es → PEnv → Cm P
  | .nil, _ => .no
  | .cons e .nil, env => evP e env
  | .cons e (.cons e2 es), env => (evP e env).bind fun x => match x with
    | .bl true => evAndP (.cons e2 es) env
    | .bl false => .ret (.bl false)
    | _ => .no
noncomputable def evOrP : Es → PEnv → Cm P
  | .nil, _ => .no
  | .cons e .nil, env => evP e env
  | .cons e (.cons e2 es), env => (evP e env).bind fun x => match x with
    | .bl true => .ret (.bl true)
    | .bl false => evOrP (.cons e2 es) env
    | _ => .no
noncomputable def evPs : Es → PEnv → Cm (List P)
  | .nil, _ => .ret []
  | .cons e es, env => (evP e env).bind fun x => (evPs es env).bind fun xs => .ret (x :: xs)
noncomputable def evKs : Es → PEnv → Cm (List P)
  | .nil, _ => .ret []
  | .cons e es, env => (pkP e (evP e) env).bind fun x => (evKs es env).bind fun xs => .ret (x :: xs)
noncomputable def evOP : Oe → PEnv → Cm (Option Int)
  | .none, _ => .ret none
  | .some e, env => (evP e env).bind fun x => match x with
    | .int i => .ret (some i)
    | _ => .no
noncomputable def tsP : Oe → PEnv → Cm Bool
  | .none, _ => .ret true
  | .some e, env => (pkP e (evP e) env).bind fun x => ofP (truP x)
noncomputable def evIP : It → PEnv → Cm (List P)
  | .seq e, env => (pkP e (evP e) env).bind fun x => match x with
    | .str z => .ret (z.cps.toList.map fun c => .str ⟨#[c]⟩)
    | .tup vs => .ret vs
    | .lst vs => .ret vs
    | _ => .no
  | .rng1 a, env => (evP a env).bind fun x => match x with
    | .int j => if -(2 ^ 62) ≤ j ∧ j < 2 ^ 62 then .ret ((List.range j.toNat).map fun k => .int (k : Nat)) else .no
    | _ => .no
  | .rng2 a b, env => (evP a env).bind fun x => (evP b env).bind fun y => match x, y with
    | .int i, .int j => if -(2 ^ 62) ≤ i ∧ i < 2 ^ 62 ∧ -(2 ^ 62) ≤ j ∧ j < 2 ^ 62 then .ret ((List.range (j - i).toNat).map fun k => .int (i + (k : Nat))) else .no
    | _, _ => .no
  | .rng3 a b c, env => (evP a env).bind fun x => (evP b env).bind fun y => (evP c env).bind fun z => match x, y, z with
    | .int i, .int j, .int k => if -(2 ^ 62) ≤ i ∧ i < 2 ^ 62 ∧ -(2 ^ 62) ≤ j ∧ j < 2 ^ 62 ∧ k = -1 then .ret ((List.range (i - j).toNat).map fun m => .int (i - (m : Nat))) else .no
    | _, _, _ => .no
  | .enum e, env => (pkP e (evP e) env).bind fun x => match x with
    | .tup vs => .ret (vs.zipIdx.map fun p => .tup [.int (p.2 : Nat), p.1])
    | .str z => .ret (z.cps.toList.zipIdx.map fun p => .tup [.int (p.2 : Nat), .str ⟨#[p.1]⟩])
    | .lst vs => .ret (vs.zipIdx.map fun p => .tup [.int (p.2 : Nat), p.1])
    | _ => .no
  | .zip a b, env => (pkP a (evP a) env).bind fun x => (pkP b (evP b) env).bind fun y => match x, y with
    | .tup vs, .tup ws => .ret ((vs.zip ws).map fun p => .tup [p.1, p.2])
    | .lst vs, .lst ws => .ret ((vs.zip ws).map fun p => .tup [p.1, p.2])
    | _, _ => .no
noncomputable def asP : Tg → P → PEnv → Cm PEnv
  | .name i, v, env => .ret (env.set i (some (v, false)))
  | .tup ts, v, env => match v with
    | .tup vs => asPs ts vs env
    | _ => .no
  | .sub _ _, _, _ => .no
noncomputable def asPs : Tgs → List P → PEnv → Cm PEnv
  | .nil, vs, env => match vs with
    | [] => .ret env
    | _ => .no
  | .cons t ts, vs, env => match vs with
    | v :: r => (asP t v env).bind fun env1 => asPs ts r env1
    | [] => .no
end
def augOkP : BOp → P → Bool
  | .add, .int _ => true
  | .sub, .int _ => true
  | .add, .str _ => true
  | _, _ => false
inductive PFl where
  | nx (env : PEnv)
  | rt (v : P)
/-- statements: new: a list of one's own; chg, put: it is changed; frz: it is one's own no more; rtn: it is handed out -/
inductive PC where
  | asg (t : Tg) (e : E)
  | new (i : Nat) (e : E)
  | par (i j : Nat) (a b : E)
  | aug (i : Nat) (op : BOp) (e : E)
  | expr (e : E)
  | chg (m : Mth) (i : Nat) (es : Es)
  | put (i : Nat) (k e : E)
  | ret (e : E)
  | rtn (i : Nat)
  | ife (c : E) (a b : List PC)
  | whl (ws : List Nat) (c : E) (b : List PC)
  | for_ (ws : List Nat) (t : Tg) (it : It) (b : List PC)
  | pass
  | frz (i : Nat)
def forP (turn : P → PEnv → Cm PFl) (ws : List Nat) : List P → PEnv → Cm PFl
  | [], env => .ret (.nx env)
  | x :: xs, env => (turn x env).bind fun f => match f with
      | .nx env1 => forP turn ws xs (wipeP env1 ws)
      | .rt v => .ret (.rt v)
def whlP (test : PEnv → Cm Bool) (turn : PEnv → Cm PFl) (ws : List Nat) : Nat → PEnv → Cm PFl
  | 0, _ => .no
  | n + 1, env => (test env).bind fun b => if b then (turn env).bind fun f => match f with
      | .nx env1 => whlP test turn ws n (wipeP env1 ws)
      | .rt v => .ret (.rt v)
    else .ret (.nx env)
/-- slots of one's own hidden -/
def hideP (env : PEnv) : PEnv := env.map fun s => match s with
  | some (v, false) => some (v, false)
  | _ => none
variable (fr : Nat → Bool)
mutual
noncomputable def exP : PC → PEnv → Cm PFl
  | .asg t e, env => (evP F G e env).bind fun v => (asP F G t v env).bind fun env1 => .ret (.nx env1)
  | .new i e, env => if frE fr e then (evP F G e env).bind fun v => .ret (.nx (env.set i (some (v, true)))) else .no
  | .par i j a b, env => (evP F G a env).bind fun x => (evP F G b env).bind fun y => .ret (.nx ((env.set i (some (x, false))).set j (some (y, false))))
  | .aug i op e, env => match env[i]? with
    | some (some (x, false)) => (evP F G e env).bind fun y => if augOkP op x then (binP op x y).bind fun z => .ret (.nx (env.set i (some (z, false)))) else .no
    | _ => .no
  | .expr e, env => (evP F G e env).bind fun _ => .ret (.nx env)
  | .chg m i es, env => match env[i]? with
    | some (some (.lst vs, true)) => (evPs F G es env).bind fun as => (chgP m vs as).bind fun ws => .ret (.nx (env.set i (some (.lst ws, true))))
    | _ => .no
  | .put i k e, env => match env[i]? with
    | some (some (.lst vs, true)) => (evP F G e env).bind fun v => (evP F G k env).bind fun j => (putP vs j v).bind fun ws => .ret (.nx (env.set i (some (.lst ws, true))))
    | _ => .no
  | .ret e, env => (evP F G e env).bind fun v => .ret (.rt v)
  | .rtn i, env => match env[i]? with
    | some (some (v, true)) => .ret (.rt v)
    | _ => .no
  | .ife c a b, env => (pkP c (evP F G c) env).bind fun x => match truP x with
    | some true => exPs a env
    | some false => exPs b env
    | none => .no
  | .whl ws c b, env => whlP (fun env => (pkP c (evP F G c) env).bind fun x => ofP (truP x)) (fun env => exPs b env) ws whlMost env
  | .for_ ws t it b, env => (evIP F G it (hideP env)).bind fun xs => forP (fun x env => (asP F G t x env).bind fun env1 => exPs b env1) ws xs env
  | .pass, env => .ret (.nx env)
  | .frz i, env => match env[i]? with
    | some (some (v, _)) => .ret (.nx (env.set i (some (v, false))))
    | _ => .no
noncomputable def exPs : List PC → PEnv → Cm PFl
  | [], env => .ret (.nx env)
  | c :: cs, env => (exP c env).bind fun f => match f with
    | .nx env1 => exPs cs env1
    | .rt v => .ret (.rt v)
end
end
/-! whether all that a text hands out is new -/
mutual
def frC (fr : Nat → Bool) : PC → Bool
  | .ret e => frE fr e
  | .ife _ a b => frCs fr a && frCs fr b
  | .whl _ _ b => frCs fr b
  | .for_ _ _ _ b => frCs fr b
  | _ => true
def frCs (fr : Nat → Bool) : List PC → Bool
  | [] => true
  | c :: cs => frC fr c && frCs fr cs
end
/-! ### the text of the store machine that a text is -/
mutual
def erC : PC → Option C
  | .asg t e => some (.asg t e)
  | .new i e => some (.asg (.name i) e)
  | .par i j a b => some (.par i j a b)
  | .aug i op e => some (.aug i op e)
  | .expr e => some (.expr e)
  | .chg m i es => some (.expr (.mth m (.var i) es))
  | .put i k e => some (.asg (.sub (.var i) k) e)
  | .ret e => some (.ret e)
  | .rtn i => some (.ret (.var i))
  | .ife c a b => some (.ife c (erCs a) (erCs b))
  | .whl _ c b => some (.whl c (erCs b))
  | .for_ _ t it b => some (.for_ t it (erCs b))
  | .pass => some .pass
  | .frz _ => none
def erCs : List PC → Cs
  | [] => .nil
  | c :: cs => match erC c with
    | some d => .cons d (erCs cs)
    | none => erCs cs
end
def retP : PFl → P
  | .nx _ => .non
  | .rt v => v
structure PDf where
  slots : Nat
  pars : Nat
  fresh : Bool
  body : List PC
def startP (d : PDf) (as : List P) : PEnv := as.map (fun v => some (v, false)) ++ List.replicate (d.slots - as.length) none
/-- defs that are known otherwise, from so many calls deep on -/
abbrev Prim := Nat → Option (Nat × (List P → Cm P))
noncomputable def runP (tab : Nat → Option PDf) (pr : Prim) (G : PShp) (fr : Nat → Bool) : Nat → POrc
  | 0 => fun _ _ => .no
  | k + 1 => fun f as => match pr f with
    | some (n, g) => if n ≤ k then g as else .no
    | none => match tab f with
      | some d => if as.length = d.pars then (exPs (runP tab pr G fr k) G fr d.body (startP d as)).bind fun fl => .ret (retP fl) else .no
      | none => .no
end Wk

set_option Elab.async false
set_option linter.all false
set_option maxRecDepth 100000
set_option maxHeartbeats 4000000
namespace Wk
open PySem PySem.Spec PyProof.Rows L2

/-! ### values and the store -/
mutual
inductive Rp (p : Nat) (S : Sto) (z : Nat → Prop) : P → D → Prop where
  | non : Rp p S z .non .non
  | bl (b : Bool) : Rp p S z (.bl b) (.bl b)
  | int (i : Int) : Rp p S z (.int i) (.int i)
  | str (x : Str) : Rp p S z (.str x) (.str x)
  | tup {vs : List P} {ds : List D} : Rps p S z vs ds → Rp p S z (.tup vs) (.tup ds)
  | lst {vs : List P} {ds : List D} {l : Nat} : z l → S[l]? = some (.lst ds) → Rps p S z vs ds → Rp p S z (.lst vs) (.loc l)
  | dic {ks : List Key} {vs : List P} {kvs : List (Key × D)} {l : Nat} : z l → S[l]? = some (.dK kvs) → kvs.map (·.1) = ks → Rps p S z vs (kvs.map (·.2)) → Rp p S z (.dic ks vs) (.loc l)
  | pen : Rp p S z .pen (.loc p)
inductive Rps (p : Nat) (S : Sto) (z : Nat → Prop) : List P → List D → Prop where
  | nil : Rps p S z [] []
  | cons {v : P} {d : D} {vs : List P} {ds : List D} : Rp p S z v d → Rps p S z vs ds → Rps p S z (v :: vs) (d :: ds)
end
/-- looked at: the list itself may be one's own -/
inductive Rk (p : Nat) (S : Sto) (z : Nat → Prop) : P → D → Prop where
  | of {v : P} {d : D} : Rp p S z v d → Rk p S z v d
  | lst {vs : List P} {ds : List D} {l : Nat} : l ≠ p → S[l]? = some (.lst ds) → Rps p S z vs ds → Rk p S z (.lst vs) (.loc l)
  | dic {ks : List Key} {vs : List P} {kvs : List (Key × D)} {l : Nat} : l ≠ p → S[l]? = some (.dK kvs) → kvs.map (·.1) = ks → Rps p S z vs (kvs.map (·.2)) → Rk p S z (.dic ks vs) (.loc l)
/-- one's own: from b on, and nobody else's -/
inductive Ro (p b : Nat) (S : Sto) (z : Nat → Prop) : P → D → Prop where
  | non : Ro p b S z .non .non
  | bl (c : Bool) : Ro p b S z (.bl c) (.bl c)
  | int (i : Int) : Ro p b S z (.int i) (.int i)
  | str (x : Str) : Ro p b S z (.str x) (.str x)
  | tup {vs : List P} {ds : List D} : Rps p S z vs ds → Ro p b S z (.tup vs) (.tup ds)
  | lst {vs : List P} {ds : List D} {l : Nat} : b ≤ l → l ≠ p → ¬ z l → S[l]? = some (.lst ds) → Rps p S z vs ds → Ro p b S z (.lst vs) (.loc l)
  | dic {ks : List Key} {vs : List P} {kvs : List (Key × D)} {l : Nat} : b ≤ l → l ≠ p → ¬ z l → S[l]? = some (.dK kvs) → kvs.map (·.1) = ks → Rps p S z vs (kvs.map (·.2)) → Ro p b S z (.dic ks vs) (.loc l)
structure WOk (p c : Nat) (S : Sto) (z : Nat → Prop) : Prop where
  pen : ¬ z p
  cel : z c
  lt : ∀ l, z l → l < S.length
  pl : p < S.length
structure Ex (p b : Nat) (S : Sto) (z : Nat → Prop) (S' : Sto) (z' : Nat → Prop) : Prop where
  len : S.length ≤ S'.length
  frz : ∀ l, z l → z' l ∧ S'[l]? = S[l]?
  own : ∀ l, l < b → l ≠ p → ¬ z l → ¬ z' l ∧ S'[l]? = S[l]?
section
variable {p c b b' : Nat} {S S' S1 : Sto} {z z' z1 : Nat → Prop} {v : P} {d : D} {vs : List P} {ds : List D}
theorem Ex.refl : Ex p b S z S z := ⟨Nat.le_refl _, fun _ h => ⟨h, rfl⟩, fun _ _ _ h => ⟨h, rfl⟩⟩
theorem Ex.trans (x : Ex p b S z S1 z1) (y : Ex p b S1 z1 S' z') : Ex p b S z S' z' :=
  ⟨Nat.le_trans x.len y.len, fun l h => ⟨(y.frz l (x.frz l h).1).1, (y.frz l (x.frz l h).1).2.trans (x.frz l h).2⟩,
    fun l h h2 h3 => ⟨(y.own l h h2 (x.own l h h2 h3).1).1, (y.own l h h2 (x.own l h h2 h3).1).2.trans (x.own l h h2 h3).2⟩⟩
theorem Ex.weak (x : Ex p b S z S' z') (h : b' ≤ b) : Ex p b' S z S' z' := ⟨x.len, x.frz, fun l hl => x.own l (Nat.lt_of_lt_of_le hl h)⟩
mutual
theorem Rp.mono (x : Ex p b S z S' z') : ∀ {v : P} {d : D}, Rp p S z v d → Rp p S' z' v d
  | _, _, .non => .non
  | _, _, .bl b => .bl b
  | _, _, .int i => .int i
  | _, _, .str s => .str s
  | _, _, .tup h => .tup (Rps.mono x h)
  | _, _, .lst h1 h2 h3 => .lst (x.frz _ h1).1 ((x.frz _ h1).2.trans h2) (Rps.mono x h3)
  | _, _, .dic h1 h2 h3 h4 => .dic (x.frz _ h1).1 ((x.frz _ h1).2.trans h2) h3 (Rps.mono x h4)
  | _, _, .pen => .pen
theorem Rps.mono (x : Ex p b S z S' z') : ∀ {vs : List P} {ds : List D}, Rps p S z vs ds → Rps p S' z' vs ds
  | _, _, .nil => .nil
  | _, _, .cons h r => .cons (Rp.mono x h) (Rps.mono x r)
end
theorem Rk.mono (x : Ex p S.length S z S' z') (h : Rk p S z v d) : Rk p S' z' v d := by
  cases h with
  | of h => exact .of (h.mono x)
  | @lst vs ds l h1 h2 h3 =>
    refine .lst h1 ?_ (h3.mono x)
    by_cases q : z l
    · exact (x.frz l q).2.trans h2
    · exact (x.own l (get_lt h2) h1 q).2.trans h2
  | @dic ks vs kvs l h1 h2 h3 h4 =>
    refine .dic h1 ?_ h3 (h4.mono x)
    by_cases q : z l
    · exact (x.frz l q).2.trans h2
    · exact (x.own l (get_lt h2) h1 q).2.trans h2
theorem Ro.mono (x : Ex p S.length S z S' z') (h : Ro p b S z v d) : Ro p b S' z' v d := by
  cases h with
  | non => exact .non
  | bl c => exact .bl c
  | int i => exact .int i
  | str s => exact .str s
  | tup h => exact .tup (h.mono x)
  | @lst vs ds l h0 h1 hz h2 h3 => exact .lst h0 h1 (x.own l (get_lt h2) h1 hz).1 ((x.own l (get_lt h2) h1 hz).2.trans h2) (h3.mono x)
  | @dic ks vs kvs l h0 h1 hz h2 h3 h4 => exact .dic h0 h1 (x.own l (get_lt h2) h1 hz).1 ((x.own l (get_lt h2) h1 hz).2.trans h2) h3 (h4.mono x)
theorem Ro.weak (h : Ro p b S z v d) (hb : b' ≤ b) : Ro p b' S z v d := by
  cases h with
  | non => exact .non
  | bl c => exact .bl c
  | int i => exact .int i
  | str s => exact .str s
  | tup h => exact .tup h
  | lst h0 h1 hz h2 h3 => exact .lst (Nat.le_trans hb h0) h1 hz h2 h3
  | dic h0 h1 hz h2 h3 h4 => exact .dic (Nat.le_trans hb h0) h1 hz h2 h3 h4
theorem Ro.pk (h : Ro p b S z v d) : Rk p S z v d := by
  cases h with
  | non => exact .of .non
  | bl c => exact .of (.bl c)
  | int i => exact .of (.int i)
  | str s => exact .of (.str s)
  | tup h => exact .of (.tup h)
  | lst h0 h1 hz h2 h3 => exact .lst h1 h2 h3
  | dic h0 h1 hz h2 h3 h4 => exact .dic h1 h2 h3 h4
/-- one's own is made anybody's -/
def addZ (z : Nat → Prop) (l : Nat) : Nat → Prop := fun k => z k ∨ k = l
theorem Ex.addZ {l : Nat} (hl : b ≤ l) : Ex p b S z S (addZ z l) := ⟨Nat.le_refl _, fun k h => ⟨.inl h, rfl⟩, fun k hk _ hz => ⟨fun h => h.elim hz fun e => by omega, rfl⟩⟩
theorem WOk.addZ {l : Nat} (w : WOk p c S z) (hl : l < S.length) (hp : l ≠ p) : WOk p c S (addZ z l) :=
  ⟨fun h => h.elim w.pen fun e => hp e.symm, .inl w.cel, fun k h => h.elim (w.lt k) fun e => e ▸ hl, w.pl⟩
theorem Ro.frz (w : WOk p c S z) (h : Ro p b S z v d) : ∃ z', Ex p b S z S z' ∧ WOk p c S z' ∧ Rp p S z' v d ∧ ∀ k, z' k → z k ∨ d = .loc k := by
  cases h with
  | non => exact ⟨z, .refl, w, .non, fun _ h => .inl h⟩
  | bl c => exact ⟨z, .refl, w, .bl c, fun _ h => .inl h⟩
  | int i => exact ⟨z, .refl, w, .int i, fun _ h => .inl h⟩
  | str s => exact ⟨z, .refl, w, .str s, fun _ h => .inl h⟩
  | tup h => exact ⟨z, .refl, w, .tup h, fun _ h => .inl h⟩
  | @lst vs ds l h0 h1 hz h2 h3 =>
    exact ⟨Wk.addZ z l, .addZ h0, w.addZ (get_lt h2) h1, .lst (.inr rfl) h2 (h3.mono (b := b) (.addZ h0)), fun k h => h.imp id fun e => by rw [e]⟩
  | @dic ks vs kvs l h0 h1 hz h2 h3 h4 =>
    exact ⟨Wk.addZ z l, .addZ h0, w.addZ (get_lt h2) h1, .dic (.inr rfl) h2 h3 (h4.mono (b := b) (.addZ h0)), fun k h => h.imp id fun e => by rw [e]⟩
/-- a new object -/
theorem Ex.push {o : O} (h : WOk p c S z) (hb : b ≤ S.length) : Ex p b S z (S ++ [o]) z := by
  refine ⟨by simp, fun l hl => ⟨hl, List.getElem?_append_left (h.lt l hl)⟩, fun l hl _ hz => ⟨hz, List.getElem?_append_left (by omega)⟩⟩
theorem WOk.push {o : O} (h : WOk p c S z) : WOk p c (S ++ [o]) z := ⟨h.pen, h.cel, fun l hl => by have := h.lt l hl; simp; omega, by have := h.pl; simp; omega⟩
theorem WOk.notnew (h : WOk p c S z) : ¬ z S.length := fun q => by have := h.lt _ q; omega
theorem Ro.new {vs : List P} {ds : List D} (h : WOk p c S z) (r : Rps p S z vs ds) : Ro p S.length (S ++ [.lst ds]) z (.lst vs) (.loc S.length) :=
  .lst (Nat.le_refl _) (by have := h.pl; omega) h.notnew ap_new (r.mono (b := S.length) (.push h (Nat.le_refl _)))
theorem Ro.newD {ks : List Key} {vs : List P} {kvs : List (Key × D)} (h : WOk p c S z) (e : kvs.map (·.1) = ks) (r : Rps p S z vs (kvs.map (·.2))) : Ro p S.length (S ++ [.dK kvs]) z (.dic ks vs) (.loc S.length) :=
  .dic (Nat.le_refl _) (by have := h.pl; omega) h.notnew ap_new e (r.mono (b := S.length) (.push h (Nat.le_refl _)))

/-! ### lists of values -/
theorem Rps.length : ∀ {vs : List P} {ds : List D}, Rps p S z vs ds → vs.length = ds.length
  | _, _, .nil => rfl
  | _, _, .cons _ r => congrArg (· + 1) r.length
theorem Rps.get : ∀ {vs : List P} {ds : List D} {i : Nat} {v : P}, Rps p S z vs ds → vs[i]? = some v → ∃ d, ds[i]? = some d ∧ Rp p S z v d
  | _, _, 0, _, .cons q _, e => by cases e; exact ⟨_, rfl, q⟩
  | _, _, i + 1, _, .cons _ r, e => Rps.get (i := i) r e
theorem Rps.append {ws : List P} {es : List D} : ∀ {vs : List P} {ds : List D}, Rps p S z vs ds → Rps p S z ws es → Rps p S z (vs ++ ws) (ds ++ es)
  | _, _, .nil, h2 => h2
  | _, _, .cons q r, h2 => .cons q (r.append h2)
theorem Rps.one (h : Rp p S z v d) : Rps p S z [v] [d] := .cons h .nil
theorem Rps.reverse : ∀ {vs : List P} {ds : List D}, Rps p S z vs ds → Rps p S z vs.reverse ds.reverse
  | _, _, .nil => .nil
  | _, _, .cons q r => by rw [List.reverse_cons, List.reverse_cons]; exact r.reverse.append (.one q)
theorem Rps.take : ∀ {vs : List P} {ds : List D} {n : Nat}, Rps p S z vs ds → Rps p S z (vs.take n) (ds.take n)
  | _, _, n, .nil => by rw [List.take_nil, List.take_nil]; exact .nil
  | _, _, 0, .cons q r => .nil
  | _, _, n + 1, .cons q r => .cons q r.take
theorem Rps.drop : ∀ {vs : List P} {ds : List D} {n : Nat}, Rps p S z vs ds → Rps p S z (vs.drop n) (ds.drop n)
  | _, _, n, .nil => by rw [List.drop_nil, List.drop_nil]; exact .nil
  | _, _, 0, .cons q r => .cons q r
  | _, _, n + 1, .cons q r => Rps.drop (n := n) r
theorem Rps.dropLast (h : Rps p S z vs ds) : Rps p S z vs.dropLast ds.dropLast := by
  rw [List.dropLast_eq_take, List.dropLast_eq_take, h.length]; exact h.take
theorem Rps.set : ∀ {vs : List P} {ds : List D} {n : Nat}, Rps p S z vs ds → Rp p S z v d → Rps p S z (vs.set n v) (ds.set n d)
  | _, _, n, .nil, _ => .nil
  | _, _, 0, .cons _ r, q => .cons q r
  | _, _, n + 1, .cons q' r, q => .cons q' (r.set q)
theorem Rps.cutG {lo hi : Option Int} (h : Rps p S z vs ds) : Rps p S z (cutG vs lo hi) (cutG ds lo hi) := by
  unfold Wk.cutG; rw [h.length]; exact h.drop.take
theorem Rps.atI {i : Int} (h : Rps p S z vs ds) (e : L2.atI vs i = some v) : ∃ d, L2.atI ds i = some d ∧ Rp p S z v d := by
  unfold L2.atI at e ⊢
  rw [← h.length]
  cases q : ixN vs.length i with
  | none => rw [q] at e; cases e
  | some j => rw [q] at e; exact h.get e
theorem Rps.ints : ∀ {vs : List P} {ds : List D} {ns : List Int}, Rps p S z vs ds → allIntsP vs = some ns → allInts ds = some ns
  | _, _, _, .nil, e => by cases e; rfl
  | _, _, _, .cons (vs := vs) q r, e => by
    cases q with
    | int i =>
      simp only [allIntsP] at e
      cases q2 : allIntsP vs with
      | none => rw [q2] at e; cases e
      | some ms => rw [q2] at e; cases e; simp only [allInts, Rps.ints r q2]; rfl
    | _ => cases e
theorem Rps.bls : ∀ {vs : List P} {ds : List D} {ns : List Bool}, Rps p S z vs ds → allBlsP vs = some ns → allBls ds = some ns
  | _, _, _, .nil, e => by cases e; rfl
  | _, _, _, .cons (vs := vs) q r, e => by
    cases q with
    | bl i =>
      simp only [allBlsP] at e
      cases q2 : allBlsP vs with
      | none => rw [q2] at e; cases e
      | some ms => rw [q2] at e; cases e; simp only [allBls, Rps.bls r q2]; rfl
    | _ => cases e
theorem Rps.strs : ∀ {vs : List P} {ds : List D} {ns : List Str}, Rps p S z vs ds → allStrsP vs = some ns → allStrs ds = some ns
  | _, _, _, .nil, e => by cases e; rfl
  | _, _, _, .cons (vs := vs) q r, e => by
    cases q with
    | str i =>
      simp only [allStrsP] at e
      cases q2 : allStrsP vs with
      | none => rw [q2] at e; cases e
      | some ms => rw [q2] at e; cases e; simp only [allStrs, Rps.strs r q2]; rfl
    | _ => cases e
theorem rps_ints {ns : List Int} : Rps p S z (ns.map P.int) (ns.map D.int) := by
  induction ns with
  | nil => exact .nil
  | cons i r ih => exact .cons (.int i) ih
theorem rps_strs {ns : List Str} : Rps p S z (ns.map P.str) (ns.map D.str) := by
  induction ns with
  | nil => exact .nil
  | cons i r ih => exact .cons (.str i) ih
theorem Rps.map {α : Type} {xs : List α} {f : α → P} {g : α → D} (h : ∀ x, Rp p S z (f x) (g x)) : Rps p S z (xs.map f) (xs.map g) := by
  induction xs with
  | nil => exact .nil
  | cons i r ih => exact .cons (h i) ih
theorem Rp.flat (h : Rp p S z v d) (e : flatP v = true) : flatD d = true := by
  cases h <;> first | rfl | cases e
theorem Rps.flat : ∀ {vs : List P} {ds : List D}, Rps p S z vs ds → vs.all flatP = true → ds.all flatD = true
  | _, _, .nil, _ => rfl
  | _, _, .cons q r, e => by
    rw [List.all_cons, Bool.and_eq_true] at e ⊢
    exact ⟨q.flat e.1, r.flat e.2⟩
theorem Rp.eqFlat {w : P} {e : D} (h : Rp p S z v d) (h2 : Rp p S z w e) (hf : flatP v = true) (hg : flatP w = true) : Wk.eqFlat d e = eqFlatP v w := by
  cases h <;> first | (cases h2 <;> first | rfl | cases hg) | cases hf
theorem Rps.inFlat : ∀ {vs : List P} {ds : List D}, Rps p S z vs ds → Rp p S z v d → vs.all flatP = true → flatP v = true → Wk.inFlat d ds = inFlatP v vs
  | _, _, .nil, _, _, _ => rfl
  | _, _, .cons q r, h2, e, hv => by
    rw [List.all_cons, Bool.and_eq_true] at e
    have ih := r.inFlat h2 e.2 hv
    unfold Wk.inFlat inFlatP at ih ⊢
    rw [List.any_cons, List.any_cons, ih, q.eqFlat h2 e.1 hv]
theorem Rps.firstAt : ∀ {vs : List P} {ds : List D}, Rps p S z vs ds → Rp p S z v d → vs.all flatP = true → flatP v = true → Wk.firstAt d ds = firstAtP v vs
  | _, _, .nil, _, _, _ => rfl
  | _, _, .cons q r, h2, e, hv => by
    rw [List.all_cons, Bool.and_eq_true] at e
    have ih := r.firstAt h2 e.2 hv
    unfold Wk.firstAt firstAtP
    rw [ih, q.eqFlat h2 e.1 hv]
end
end Wk

set_option Elab.async false
set_option linter.all false
set_option maxRecDepth 100000
set_option maxHeartbeats 4000000
namespace Wk
open PySem PySem.Spec PyProof.Rows L2
section
variable {p c b : Nat} {S S' : Sto} {z z' : Nat → Prop} {v x y : P} {d dx dy : D} {vs : List P} {ds : List D}
theorem Rk.int {i : Int} (h : Rk p S z (.int i) d) : d = .int i := by cases h with | of h => cases h; rfl
theorem Rk.bl {i : Bool} (h : Rk p S z (.bl i) d) : d = .bl i := by cases h with | of h => cases h; rfl
theorem Rk.str {i : Str} (h : Rk p S z (.str i) d) : d = .str i := by cases h with | of h => cases h; rfl
theorem Rk.non (h : Rk p S z .non d) : d = .non := by cases h with | of h => cases h; rfl
theorem Rk.pen (h : Rk p S z .pen d) : d = .loc p := by cases h with | of h => cases h; rfl
theorem Rk.tupv (h : Rk p S z (.tup vs) d) : ∃ ds, d = .tup ds ∧ Rps p S z vs ds := by cases h with | of h => cases h with | tup h => exact ⟨_, rfl, h⟩
theorem Rk.lstv (w : WOk p c S z) (h : Rk p S z (.lst vs) d) : ∃ l ds, d = .loc l ∧ l ≠ p ∧ S[l]? = some (.lst ds) ∧ Rps p S z vs ds := by
  cases h with
  | of h => cases h with | lst h1 h2 h3 => exact ⟨_, _, rfl, fun e => w.pen (e ▸ h1), h2, h3⟩
  | lst h1 h2 h3 => exact ⟨_, _, rfl, h1, h2, h3⟩
theorem Rk.dicv {ks : List Key} (w : WOk p c S z) (h : Rk p S z (.dic ks vs) d) : ∃ l kvs, d = .loc l ∧ l ≠ p ∧ S[l]? = some (.dK kvs) ∧ kvs.map (·.1) = ks ∧ Rps p S z vs (kvs.map (·.2)) := by
  cases h with
  | of h => cases h with | dic h1 h2 h3 h4 => exact ⟨_, _, rfl, fun e => w.pen (e ▸ h1), h2, h3, h4⟩
  | dic h1 h2 h3 h4 => exact ⟨_, _, rfl, h1, h2, h3, h4⟩
theorem Rk.items (w : WOk p c S z) (h : Rk p S z v d) (e : itemsP v = some vs) : ∃ ds, items S d = some ds ∧ Rps p S z vs ds := by
  cases v with
  | tup ws => cases e; obtain ⟨ds, rfl, hh⟩ := h.tupv; exact ⟨ds, rfl, hh⟩
  | lst ws => cases e; obtain ⟨l, ds, rfl, _, h1, hh⟩ := h.lstv w; exact ⟨ds, it_lst h1, hh⟩
  | _ => cases e
theorem stoG_lst {n l : Nat} (h : S[l]? = some (.lst ds)) : stoG S (n + 1) l = (fzs (stoG S n) ds).map .list := by
  rw [stoG]; simp only [h]
mutual
theorem Rp.dat : ∀ {v : P} {d : D} {n : Nat} {q : PyData}, Rp p S z v d → pyP v n = some q → fz (stoG S n) d = some q
  | _, _, n, q, .non, e => by simp only [pyP] at e; cases e; rfl
  | _, _, n, q, .bl b, e => by simp only [pyP] at e; cases e; rfl
  | _, _, n, q, .int i, e => by simp only [pyP] at e; cases e; rfl
  | _, _, n, q, .str x, e => by simp only [pyP] at e; cases e; rfl
  | .tup vs, .tup ds, n, q, .tup h, e => by
    simp only [pyP] at e
    cases q2 : pyPs vs n with
    | none => rw [q2] at e; cases e
    | some qs => rw [q2] at e; cases e; simp only [fz, Rps.dat h q2]; rfl
  | .lst vs, .loc l, 0, q, .lst h1 h2 h3, e => by simp only [pyP] at e; cases e
  | .lst vs, .loc l, n + 1, q, .lst h1 h2 h3, e => by
    simp only [pyP] at e
    cases q2 : pyPs vs n with
    | none => rw [q2] at e; cases e
    | some qs => rw [q2] at e; cases e; show stoG S (n + 1) l = _; rw [stoG_lst h2, Rps.dat h3 q2]; rfl
  | .dic ks vs, _, n, q, .dic h1 h2 h3 h4, e => by simp only [pyP] at e; cases e
  | _, _, n, q, .pen, e => by simp only [pyP] at e; cases e
theorem Rps.dat : ∀ {vs : List P} {ds : List D} {n : Nat} {q : List PyData}, Rps p S z vs ds → pyPs vs n = some q → fzs (stoG S n) ds = some q
  | _, _, n, q, .nil, e => by simp only [pyPs] at e; cases e; rfl
  | v :: vs, d :: ds, n, q, .cons h r, e => by
    simp only [pyPs] at e
    cases q2 : pyP v n with
    | none => rw [q2] at e; cases e
    | some x =>
      cases q3 : pyPs vs n with
      | none => rw [q2, q3] at e; cases e
      | some xs => rw [q2, q3] at e; cases e; simp only [fzs, Rp.dat h q2, Rps.dat r q3]; rfl
end
theorem Rk.dat {q : PyData} (h : Rk p S z v d) (e : pyP v 12 = some q) : dat S d = some q := by
  cases h with
  | of h => exact h.dat e
  | @lst vs ds l h1 h2 h3 =>
    have e : (pyPs vs 11).map PyData.list = some q := e
    cases q2 : pyPs vs 11 with
    | none => rw [q2] at e; cases e
    | some qs => rw [q2] at e; cases e; show stoG S (11 + 1) l = _; rw [stoG_lst h2, Rps.dat h3 q2]; rfl
  | dic h1 h2 h3 h4 => exact nomatch e
theorem Rk.eq {r : Bool} (h : Rk p S z x dx) (h2 : Rk p S z y dy) (e : eqP x y = some r) : eqD S dx dy = some r := by
  unfold eqP at e
  cases q : fastEqP x y with
  | some t =>
    rw [q] at e; cases e
    unfold fastEqP at q
    split at q <;> first
      | (cases q; first
          | (cases h.non; cases h2.non; rfl) | (cases h.int; cases h2.int; rfl) | (cases h.bl; cases h2.bl; rfl) | (cases h.str; cases h2.str; rfl)
          | (cases h.non; cases h2.bl; rfl) | (cases h.non; cases h2.int; rfl) | (cases h.non; cases h2.str; rfl)
          | (cases h.bl; cases h2.non; rfl) | (cases h.bl; cases h2.str; rfl) | (cases h.int; cases h2.non; rfl) | (cases h.int; cases h2.str; rfl)
          | (cases h.str; cases h2.non; rfl) | (cases h.str; cases h2.bl; rfl) | (cases h.str; cases h2.int; rfl))
      | cases q
  | none =>
    rw [q] at e
    have e : deepEqP x y = some r := e
    unfold deepEqP at e
    cases q1 : pyP x 12 with
    | none => rw [q1] at e; cases e
    | some u =>
      cases q2 : pyP y 12 with
      | none => rw [q1, q2] at e; cases e
      | some w =>
        rw [q1, q2] at e
        have f : fastEq dx dy = none := by
          cases x with
          | int i =>
            cases y with
            | bl j => cases h.int; cases h2.bl; rfl
            | tup ws => cases h.int; obtain ⟨_, rfl, _⟩ := h2.tupv; rfl
            | lst ws => cases h.int; cases h2 with
              | of h2 => cases h2; rfl
              | lst _ _ _ => rfl
            | dic ks ws => cases q2
            | pen => cases q2
            | _ => cases q
          | bl i =>
            cases y with
            | int j => cases h.bl; cases h2.int; rfl
            | tup ws => cases h.bl; obtain ⟨_, rfl, _⟩ := h2.tupv; rfl
            | lst ws => cases h.bl; cases h2 with
              | of h2 => cases h2; rfl
              | lst _ _ _ => rfl
            | dic ks ws => cases q2
            | pen => cases q2
            | _ => cases q
          | non =>
            cases y with
            | tup ws => cases h.non; obtain ⟨_, rfl, _⟩ := h2.tupv; rfl
            | lst ws => cases h.non; cases h2 with
              | of h2 => cases h2; rfl
              | lst _ _ _ => rfl
            | dic ks ws => cases q2
            | pen => cases q2
            | _ => cases q
          | str i =>
            cases y with
            | tup ws => cases h.str; obtain ⟨_, rfl, _⟩ := h2.tupv; rfl
            | lst ws => cases h.str; cases h2 with
              | of h2 => cases h2; rfl
              | lst _ _ _ => rfl
            | dic ks ws => cases q2
            | pen => cases q2
            | _ => cases q
          | tup ws =>
            obtain ⟨_, rfl, _⟩ := h.tupv
            rfl
          | lst ws =>
            cases h with
            | of h => cases h; rfl
            | lst _ _ _ => rfl
          | dic ks ws => cases q1
          | pen => cases q1
        unfold eqD
        rw [f]
        show deepEq S dx dy = _
        unfold deepEq
        rw [h.dat q1, h2.dat q2]
        exact e
theorem Rk.truth {r : Bool} (w : WOk p c S z) (h : Rk p S z v d) (e : truP v = some r) : truth S d = some r := by
  cases v with
  | non => cases h.non; exact e
  | bl _ => cases h.bl; exact e
  | int _ => cases h.int; exact e
  | str _ => cases h.str; exact e
  | tup vs =>
    obtain ⟨ds, rfl, hh⟩ := h.tupv
    have hl := hh.length
    cases e
    cases vs <;> cases ds <;> first | rfl | cases hl
  | lst vs =>
    obtain ⟨l, ds, rfl, _, h1, hh⟩ := h.lstv w
    have hl := hh.length
    cases e
    simp only [Wk.truth, h1]
    cases vs <;> cases ds <;> first | rfl | cases hl
  | dic ks vs =>
    obtain ⟨l, ds, rfl, _, h1, _, hh⟩ := h.dicv w
    have hl := hh.length
    cases e
    simp only [Wk.truth, h1]
    cases vs <;> cases ds <;> first | rfl | cases hl
  | pen => cases e
theorem Rk.isTy {r : Bool} {t : Ty} (w : WOk p c S z) (h : Rk p S z v d) (e : isTyP v t = some r) : isTy S d t = some r := by
  cases v with
  | non => cases h.non; cases t <;> exact e
  | bl _ => cases h.bl; cases t <;> exact e
  | int _ => cases h.int; cases t <;> exact e
  | str _ => cases h.str; cases t <;> exact e
  | tup vs => obtain ⟨ds, rfl, hh⟩ := h.tupv; cases t <;> exact e
  | lst vs => obtain ⟨l, ds, rfl, _, h1, hh⟩ := h.lstv w; simp only [Wk.isTy, h1]; cases t <;> exact e
  | dic ks vs => obtain ⟨l, ds, rfl, _, h1, _, hh⟩ := h.dicv w; simp only [Wk.isTy, h1]; cases t <;> exact e
  | pen => cases e
/-- what an operator does: an answer in the store as it was or with one thing more -/
def Op (p : Nat) (S : Sto) (z : Nat → Prop) (R : Sto → P → D → Prop) (w : Res D) (x : Cm P) : Prop :=
  (x = .no ∨ ∃ v, x = .ret v) ∧ ∀ v, x = .ret v → ∃ d S', w = .ok d S' ∧ (S' = S ∨ ∃ o, S' = S ++ [o]) ∧ R S' v d
abbrev OpF (p : Nat) (S : Sto) (z : Nat → Prop) := Op p S z fun S' v d => Ro p S.length S' z v d
abbrev OpV (p : Nat) (S : Sto) (z : Nat → Prop) := Op p S z fun S' v d => Rp p S' z v d
theorem Op.no {R : Sto → P → D → Prop} {w : Res D} : Op p S z R w .no := ⟨.inl rfl, fun _ e => by cases e⟩
theorem Op.here {R : Sto → P → D → Prop} (h : R S v d) : Op p S z R (.ok d S) (.ret v) := ⟨.inr ⟨_, rfl⟩, fun _ e => by cases e; exact ⟨d, S, rfl, .inl rfl, h⟩⟩
theorem Op.more {R : Sto → P → D → Prop} {o : O} (h : R (S ++ [o]) v d) : Op p S z R (.ok d (S ++ [o])) (.ret v) := ⟨.inr ⟨_, rfl⟩, fun _ e => by cases e; exact ⟨d, _, rfl, .inr ⟨o, rfl⟩, h⟩⟩
theorem Op.eq {R : Sto → P → D → Prop} {w w' : Res D} {x x' : Cm P} (h : Op p S z R w x) (e : w' = w) (e2 : x' = x) : Op p S z R w' x' := by rw [e, e2]; exact h
theorem po_bin {op : BOp} (w : WOk p c S z) (h : Rk p S z x dx) (h2 : Rk p S z y dy) : OpF p S z (binop op dx dy S) (binP op x y) := by
  unfold binP
  split
  · cases h.int; cases h2.int; exact .here (.int _)
  · cases h.int; cases h2.int; exact .here (.int _)
  · cases h.int; cases h2.int
    split
    · rename_i q; exact Op.eq (.here (.int _)) (if_pos q) rfl
    · exact .no
  · cases h.int; cases h2.int
    split
    · rename_i q; exact Op.eq (.here (.int _)) (if_pos q) rfl
    · exact .no
  · cases h.int; cases h2.int
    split
    · rename_i q; exact Op.eq (.here (.int _)) (if_pos q) rfl
    · exact .no
  · cases h.int; cases h2.int
    split
    · rename_i q; exact Op.eq (.here (.int _)) (if_pos q) rfl
    · exact .no
  · cases h.str; cases h2.str
    split
    · rename_i q; exact Op.eq (.here (.str _)) (if_pos q) rfl
    · exact .no
  · obtain ⟨ds, rfl, hh⟩ := h.tupv
    obtain ⟨es, rfl, hh2⟩ := h2.tupv
    split
    · rename_i q
      rw [hh.length, hh2.length] at q
      exact Op.eq (.here (.tup (hh.append hh2))) (if_pos q) rfl
    · exact .no
  · obtain ⟨l, ds, rfl, _, g, hh⟩ := h.lstv w
    obtain ⟨m, es, rfl, _, g2, hh2⟩ := h2.lstv w
    split
    · rename_i q
      rw [hh.length, hh2.length] at q
      refine Op.eq (.more (.new w (hh.append hh2))) ?_ rfl
      simp only [binop, lstAt, g, g2]
      exact if_pos q
    · exact .no
  · exact .no
theorem po_cmp {op : COp} (w : WOk p c S z) (h : Rk p S z x dx) (h2 : Rk p S z y dy) : OpF p S z (cmpop op dx dy S) (cmpP op x y) := by
  cases op with
  | eq =>
    show Op _ _ _ _ (ofO ((eqD S dx dy).map .bl) S) (ofP ((eqP x y).map .bl))
    cases e : eqP x y with
    | none => exact .no
    | some r => rw [h.eq h2 e]; exact .here (.bl _)
  | ne =>
    show Op _ _ _ _ (ofO ((eqD S dx dy).map fun c => .bl (!c)) S) (ofP ((eqP x y).map fun c => .bl (!c)))
    cases e : eqP x y with
    | none => exact .no
    | some r => rw [h.eq h2 e]; exact .here (.bl _)
  | lt =>
    simp only [cmpP]; split
    · cases h.int; cases h2.int; exact .here (.bl _)
    · cases h.str; cases h2.str; exact .here (.bl _)
    · exact .no
  | le =>
    simp only [cmpP]; split
    · cases h.int; cases h2.int; exact .here (.bl _)
    · exact .no
  | gt =>
    simp only [cmpP]; split
    · cases h.int; cases h2.int; exact .here (.bl _)
    · exact .no
  | ge =>
    simp only [cmpP]; split
    · cases h.int; cases h2.int; exact .here (.bl _)
    · exact .no
  | isN =>
    cases y with
    | non =>
      cases h2.non
      cases x with
      | non => cases h.non; exact .here (.bl _)
      | bl _ => cases h.bl; exact .here (.bl _)
      | int _ => cases h.int; exact .here (.bl _)
      | str _ => cases h.str; exact .here (.bl _)
      | tup _ => obtain ⟨_, rfl, _⟩ := h.tupv; exact .here (.bl _)
      | lst _ => obtain ⟨_, _, rfl, _⟩ := h.lstv w; exact .here (.bl _)
      | dic _ _ => obtain ⟨_, _, rfl, _⟩ := h.dicv w; exact .here (.bl _)
      | pen => cases h.pen; exact .here (.bl _)
    | _ => cases x <;> exact .no
  | notN =>
    cases y with
    | non =>
      cases h2.non
      cases x with
      | non => cases h.non; exact .here (.bl _)
      | bl _ => cases h.bl; exact .here (.bl _)
      | int _ => cases h.int; exact .here (.bl _)
      | str _ => cases h.str; exact .here (.bl _)
      | tup _ => obtain ⟨_, rfl, _⟩ := h.tupv; exact .here (.bl _)
      | lst _ => obtain ⟨_, _, rfl, _⟩ := h.lstv w; exact .here (.bl _)
      | dic _ _ => obtain ⟨_, _, rfl, _⟩ := h.dicv w; exact .here (.bl _)
      | pen => cases h.pen; exact .here (.bl _)
    | _ => cases x <;> exact .no
  | isin =>
    simp only [cmpP]
    cases e : itemsP y with
    | none => exact .no
    | some vs =>
      obtain ⟨ds, e2, r⟩ := h2.items w e
      dsimp only
      split
      · rename_i q
        rw [Bool.and_eq_true] at q
        have hx : Rp p S z x dx := by cases h with
          | of h => exact h
          | lst _ _ _ => cases q.1
          | dic _ _ _ _ => cases q.1
        refine Op.eq (.here (.bl _)) ?_ rfl
        simp only [cmpop, e2]
        rw [if_pos ⟨hx.flat q.1, r.flat q.2⟩, r.inFlat hx q.2 q.1]
      · exact .no
  | notin =>
    simp only [cmpP]
    cases e : itemsP y with
    | none => exact .no
    | some vs =>
      obtain ⟨ds, e2, r⟩ := h2.items w e
      dsimp only
      split
      · rename_i q
        rw [Bool.and_eq_true] at q
        have hx : Rp p S z x dx := by cases h with
          | of h => exact h
          | lst _ _ _ => cases q.1
          | dic _ _ _ _ => cases q.1
        refine Op.eq (.here (.bl _)) ?_ rfl
        simp only [cmpop, e2]
        rw [if_pos ⟨hx.flat q.1, r.flat q.2⟩, r.inFlat hx q.2 q.1]
      · exact .no
end
end Wk

set_option Elab.async false
set_option linter.all false
set_option maxRecDepth 100000
set_option maxHeartbeats 4000000
namespace Wk
open PySem PySem.Spec PyProof.Rows L2
inductive Rks (p : Nat) (S : Sto) (z : Nat → Prop) : List P → List D → Prop where
  | nil : Rks p S z [] []
  | cons {v : P} {d : D} {vs : List P} {ds : List D} : Rk p S z v d → Rks p S z vs ds → Rks p S z (v :: vs) (d :: ds)
section
variable {p c b : Nat} {S S' : Sto} {z z' : Nat → Prop} {v x y : P} {d dx dy : D} {vs : List P} {ds : List D}
theorem Rks.mono (x : Ex p S.length S z S' z') : ∀ {vs : List P} {ds : List D}, Rks p S z vs ds → Rks p S' z' vs ds
  | _, _, .nil => .nil
  | _, _, .cons h r => .cons (h.mono x) (Rks.mono x r)
theorem Rks.one (h : Rks p S z [v] ds) : ∃ d, ds = [d] ∧ Rk p S z v d := by
  cases h with | cons q r => cases r; exact ⟨_, rfl, q⟩
theorem Rks.two (h : Rks p S z [x, y] ds) : ∃ d e, ds = [d, e] ∧ Rk p S z x d ∧ Rk p S z y e := by
  cases h with | cons q r => obtain ⟨e, rfl, q2⟩ := r.one; exact ⟨_, _, rfl, q, q2⟩
theorem blt_len {d : D} (h : ∀ s, d ≠ .str s) : bltop .len [d] S = ofO ((items S d).map fun ds => .int ds.length) S := by
  cases d with
  | str s => exact absurd rfl (h s)
  | _ => rfl
theorem Rk.notstr (h : Rk p S z v d) (hv : ∀ s, v ≠ .str s) : ∀ s, d ≠ .str s := by
  intro s e; subst e
  cases h with | of h => cases h; exact hv _ rfl
theorem Rk.notint (h : Rk p S z v d) (hv : ∀ s, v ≠ .int s) : ∀ s, d ≠ .int s := by
  intro s e; subst e
  cases h with | of h => cases h; exact hv _ rfl
theorem Rk.repr {r : Str} (h : Rk p S z v d) (e : reprP v = some r) : reprD S d = some r := by
  unfold reprP at e; unfold reprD
  cases q : pyP v 12 with
  | none => rw [q] at e; cases e
  | some u => rw [q] at e; rw [h.dat q]; exact e
theorem items_lst {l : Nat} (h : S[l]? = some (.lst ds)) : items S (.loc l) = some ds := it_lst h
theorem po_blt {f : Blt} (w : WOk p c S z) (h : Rks p S z vs ds) : OpF p S z (bltop f ds S) (bltP f vs) := by
  unfold bltP
  split
  · obtain ⟨d, rfl, q⟩ := h.one; cases q.int; exact .here (.int _)
  · obtain ⟨d, rfl, q⟩ := h.one; cases q.str
    split
    · rename_i g; exact Op.eq (.here (.int _)) (if_pos g) rfl
    · exact .no
  · rename_i v hv
    obtain ⟨d, rfl, q⟩ := h.one
    rw [blt_len (q.notstr hv)]
    cases e : itemsP v with
    | none => exact .no
    | some ws => obtain ⟨es, e2, r⟩ := q.items w e; rw [e2, Option.map_some, Option.map_some, r.length]; exact .here (.int _)
  · obtain ⟨d, rfl, q⟩ := h.one; cases q.int; exact .here (.int _)
  · obtain ⟨d, rfl, q⟩ := h.one; cases q.bl; exact .here (.int _)
  · obtain ⟨d, rfl, q⟩ := h.one; cases q.int; exact .here (.bl _)
  · obtain ⟨d, rfl, q⟩ := h.one; cases q.bl; exact .here (.bl _)
  · obtain ⟨d, rfl, q⟩ := h.one; cases q.int
    split
    · rename_i g; exact Op.eq (.here (.str _)) (if_pos g) rfl
    · exact .no
  · rename_i v
    obtain ⟨d, rfl, q⟩ := h.one
    cases e : itemsP v with
    | none => exact .no
    | some ws =>
      obtain ⟨es, e2, r⟩ := q.items w e
      refine Op.eq (.more (.new w r)) ?_ rfl
      simp only [bltop, e2, alloc]
  · rename_i v
    obtain ⟨d, rfl, q⟩ := h.one
    cases e : itemsP v with
    | none => exact .no
    | some ws =>
      obtain ⟨es, e2, r⟩ := q.items w e
      refine Op.eq (.here (.tup r)) ?_ rfl
      simp only [bltop, e2]; rfl
  · obtain ⟨d, rfl, q⟩ := h.one; cases q.int
    split
    · rename_i g; exact Op.eq (.here (.str _)) (if_pos g) rfl
    · exact .no
  · rename_i v hv
    obtain ⟨d, rfl, q⟩ := h.one
    cases e : reprP v with
    | none => exact .no
    | some r =>
      refine Op.eq (.here (.str r)) ?_ rfl
      have hn := q.notint hv
      cases d with
      | int i => exact absurd rfl (hn i)
      | _ => simp only [bltop, q.repr e]; rfl
  · obtain ⟨d, rfl, q⟩ := h.one
    obtain ⟨l, es, rfl, _, g, r⟩ := q.lstv w
    split
    · rename_i ns e
      split
      · rename_i hl
        refine Op.eq (.more (.new w (rps_ints (ns := sortI ns)))) ?_ rfl
        simp only [bltop, items_lst g, Option.bind_some, r.ints e, alloc]
        exact if_pos hl
      · exact .no
    · exact .no
  · rename_i ws
    obtain ⟨d, rfl, q⟩ := h.one
    obtain ⟨l, es, rfl, _, g, r⟩ := q.lstv w
    cases e : allIntsP ws with
    | none => exact .no
    | some ns => refine Op.eq (.here (.int _)) ?_ rfl; simp only [bltop, items_lst g, Option.bind_some, r.ints e]; rfl
  · rename_i ws
    obtain ⟨d, rfl, q⟩ := h.one
    obtain ⟨l, es, rfl, _, g, r⟩ := q.lstv w
    cases e : allIntsP ws with
    | none => exact .no
    | some ns =>
      cases e3 : maxI ns with
      | none => rw [Option.bind_some, e3]; exact .no
      | some m => refine Op.eq (.here (.int m)) ?_ (by rw [Option.bind_some, e3]; rfl); simp only [bltop, items_lst g, Option.bind_some, r.ints e, e3]; rfl
  · rename_i ws
    obtain ⟨d, rfl, q⟩ := h.one
    obtain ⟨l, es, rfl, _, g, r⟩ := q.lstv w
    cases e : allIntsP ws with
    | none => exact .no
    | some ns =>
      cases e3 : minI ns with
      | none => rw [Option.bind_some, e3]; exact .no
      | some m => refine Op.eq (.here (.int m)) ?_ (by rw [Option.bind_some, e3]; rfl); simp only [bltop, items_lst g, Option.bind_some, r.ints e, e3]; rfl
  · obtain ⟨d, e, rfl, q, q2⟩ := h.two; cases q.int; cases q2.int; exact .here (.int _)
  · obtain ⟨d, e, rfl, q, q2⟩ := h.two; cases q.int; cases q2.int; exact .here (.int _)
  · rename_i ws
    obtain ⟨d, rfl, q⟩ := h.one
    obtain ⟨l, es, rfl, _, g, r⟩ := q.lstv w
    cases e : allBlsP ws with
    | none => exact .no
    | some ns => refine Op.eq (.here (.bl _)) ?_ rfl; simp only [bltop, items_lst g, Option.bind_some, r.bls e]; rfl
  · rename_i ws
    obtain ⟨d, rfl, q⟩ := h.one
    obtain ⟨l, es, rfl, _, g, r⟩ := q.lstv w
    cases e : allBlsP ws with
    | none => exact .no
    | some ns => refine Op.eq (.here (.bl _)) ?_ rfl; simp only [bltop, items_lst g, Option.bind_some, r.bls e]; rfl
  · exact .no
theorem po_mth {m : Mth} (w : WOk p c S z) (h : Rk p S z x dx) (h2 : Rks p S z vs ds) : OpF p S z (mthop m dx ds S) (mthP m x vs) := by
  unfold mthP
  split
  · rename_i ws v
    obtain ⟨l, es, rfl, _, g, r⟩ := h.lstv w
    obtain ⟨d, rfl, q⟩ := h2.one
    split
    · rename_i hf
      rw [Bool.and_eq_true] at hf
      have hx : Rp p S z v d := by cases q with
        | of h => exact h
        | lst _ _ _ => cases hf.1
        | dic _ _ _ _ => cases hf.1
      have e1 : mthop .lindex (.loc l) [d] S = ofO ((firstAtP v ws).map fun j => D.int j) S := by
        simp only [mthop, items_lst g]
        rw [if_pos ⟨hx.flat hf.1, r.flat hf.2⟩, r.firstAt hx hf.2 hf.1]
      rw [e1]
      cases firstAtP v ws with
      | none => exact .no
      | some j => exact .here (.int _)
    · exact .no
  · rename_i s v
    cases h.str
    obtain ⟨d, rfl, q⟩ := h2.one
    split
    · rename_i ys e
      cases e1 : itemsP v with
      | none => rw [e1] at e; cases e
      | some ws =>
        rw [e1] at e
        obtain ⟨es, e2, r⟩ := q.items w e1
        split
        · rename_i hl
          refine Op.eq (.here (.str _)) ?_ rfl
          simp only [mthop, e2, Option.bind_some, r.strs e]
          exact if_pos hl
        · exact .no
    · exact .no
  · cases h.str
    obtain ⟨d, rfl, q⟩ := h2.one
    cases q.str
    split
    · rename_i hl
      refine Op.eq (.more (.new w rps_strs)) ?_ rfl
      simp only [mthop, alloc]
      exact if_pos hl
    · exact .no
  · exact .no
theorem mthP_ty {m : Mth} {r : P} (w : WOk p c S z) (h : Rk p S z x dx) (e : mthP m x vs = .ret r) : mthTy m dx S = true := by
  unfold mthP at e
  split at e
  · obtain ⟨l, es, rfl, _, g, r⟩ := h.lstv w
    show (items S (.loc l)).isSome = true
    rw [items_lst g]; rfl
  · cases h.str; rfl
  · cases h.str; rfl
  · cases e
theorem po_rev (w : WOk p c S z) (h : Rk p S z x dx) : OpF p S z (revop dx S) (revP x) := by
  unfold revP
  split
  · obtain ⟨es, rfl, r⟩ := h.tupv; exact .here (.tup r.reverse)
  · obtain ⟨l, es, rfl, _, g, r⟩ := h.lstv w
    refine Op.eq (.more (.new w r.reverse)) ?_ rfl
    simp only [revop, items_lst g, alloc]
  · exact .no
theorem po_sl {lo hi : Option Int} (w : WOk p c S z) (h : Rk p S z x dx) : OpF p S z (slop dx lo hi S) (slP x lo hi) := by
  unfold slP
  split
  · cases h.str
    split
    · rename_i g; exact Op.eq (.here (.str _)) (if_pos g) rfl
    · exact .no
  · obtain ⟨es, rfl, r⟩ := h.tupv; exact .here (.tup r.cutG)
  · obtain ⟨l, es, rfl, _, g, r⟩ := h.lstv w
    refine Op.eq (.more (.new w r.cutG)) ?_ rfl
    simp only [slop, items_lst g, alloc]
  · exact .no
theorem valP_get {ks : List Key} {kvs : List (Key × D)} {k : Key} (hk : kvs.map (·.1) = ks) (r : Rps p S z vs (kvs.map (·.2))) (e : valP ks vs k = some v) : ∃ d, valD kvs k = some d ∧ Rp p S z v d := by
  subst hk
  induction kvs generalizing vs with
  | nil => cases e
  | cons q qs ih =>
    cases r with
    | @cons v1 _ vs1 _ h1 h2 =>
      unfold valP valD at *
      simp only [List.map_cons, List.zip_cons_cons, List.find?_cons] at e ⊢
      by_cases hq : q.1 = k
      · simp only [hq, decide_true] at e ⊢
        cases e
        exact ⟨_, rfl, h1⟩
      · simp only [hq, decide_false] at e ⊢
        exact ih h2 e
theorem po_ix (w : WOk p c S z) (h : Rk p S z x dx) (h2 : Rk p S z y dy) : OpV p S z (ixop dx dy S) (ixP x y) := by
  unfold ixP
  split
  · rename_i s i
    cases h.str; cases h2.int
    split
    · rename_i g
      cases e : atI s.cps.toList i with
      | none => exact .no
      | some ch => refine Op.eq (.here (.str _)) ?_ rfl; simp only [ixop, g, if_true, e]; rfl
    · exact .no
  · rename_i ws i
    obtain ⟨es, rfl, r⟩ := h.tupv; cases h2.int
    cases e : atI ws i with
    | none => exact .no
    | some v => obtain ⟨d, e2, q⟩ := r.atI e; exact Op.eq (.here q) (by simp only [ixop, e2]; rfl) rfl
  · rename_i ws i
    obtain ⟨l, es, rfl, _, g, r⟩ := h.lstv w; cases h2.int
    cases e : atI ws i with
    | none => exact .no
    | some v => obtain ⟨d, e2, q⟩ := r.atI e; exact Op.eq (.here q) (by simp only [ixop, g, e2]; rfl) rfl
  · rename_i ks ws i
    obtain ⟨l, kvs, rfl, _, g, hk, r⟩ := h.dicv w; cases h2.int
    cases e : valP ks ws (.inl i) with
    | none => exact .no
    | some v => obtain ⟨d, e2, q⟩ := valP_get hk r e; exact Op.eq (.here q) (by simp only [ixop, g, e2]; rfl) rfl
  · rename_i ks ws i
    obtain ⟨l, kvs, rfl, _, g, hk, r⟩ := h.dicv w; cases h2.str
    cases e : valP ks ws (.inr i) with
    | none => exact .no
    | some v => obtain ⟨d, e2, q⟩ := valP_get hk r e; exact Op.eq (.here q) (by simp only [ixop, g, e2]; rfl) rfl
  · exact .no

theorem rps_rg {i j : Int} : Rps p S z (rgP i j) (rgD i j) := by
  unfold rgD rgP
  induction (List.range (j - i).toNat) with
  | nil => exact .nil
  | cons k r ih => exact .cons (.int _) ih
theorem po_lrg {tp : Bool} (w : WOk p c S z) (h : Rk p S z x dx) (h2 : Rk p S z y dy) : OpF p S z (lrgop tp dx dy S) (lrgP tp x y) := by
  unfold lrgP
  split
  · cases h.int; cases h2.int
    split
    · rename_i g
      cases tp with
      | true => exact Op.eq (.here (.tup rps_rg)) (if_pos g) rfl
      | false => exact Op.eq (.more (.new w rps_rg)) (if_pos g) rfl
    · exact .no
  · exact .no

/-! ### runs carried over -/
structure PenI (I : Sto → Nat → Nat → Nat → Prop) : Prop where
  stable : ∀ (S S' : Sto) (p c t : Nat), S'[p]? = S[p]? → S'[c]? = S[c]? → I S p c t → I S' p c t
end
/-- whatever the value machine does, the store machine does -/
def Sm {α β : Type} (I : Sto → Nat → Nat → Nat → Prop) (p c b : Nat) (S : Sto) (z : Nat → Prop) (R : Sto → (Nat → Prop) → α → β → Prop) (w : Res β) (x : Cm α) : Prop :=
  ∀ (t : Nat) (Q : α → Nat → Prop), I S p c t → x.ok t Q → ∃ d S' z' v t', w = .ok d S' ∧ Ex p b S z S' z' ∧ WOk p c S' z' ∧ R S' z' v d ∧ I S' p c t' ∧ Q v t'
section
variable {I : Sto → Nat → Nat → Nat → Prop} {p c b b' : Nat} {S S' : Sto} {z z' : Nat → Prop} {α β α' β' : Type} {R R' : Sto → (Nat → Prop) → α → β → Prop} {R2 : Sto → (Nat → Prop) → α' → β' → Prop} {w : Res β} {x : Cm α}
theorem Sm.no : Sm I p c b S z R w .no := fun _ _ _ h => (ok_no.mp h).elim
theorem Sm.ret {v : α} {d : β} (hw : WOk p c S z) (h : R S z v d) : Sm I p c b S z R (.ok d S) (.ret v) := fun t _ i q => ⟨d, S, z, v, t, rfl, .refl, hw, h, i, ok_ret.mp q⟩
theorem Sm.imp (h : Sm I p c b S z R w x) (hr : ∀ S' z' v d, Ex p b S z S' z' → WOk p c S' z' → R S' z' v d → R' S' z' v d) : Sm I p c b S z R' w x := fun t Q i q =>
  let ⟨d, S', z', v, t', e, ex, wo, r, i', q'⟩ := h t Q i q
  ⟨d, S', z', v, t', e, ex, wo, hr _ _ _ _ ex wo r, i', q'⟩
theorem Sm.weak (h : Sm I p c b S z R w x) (hb : b' ≤ b) : Sm I p c b' S z R w x := fun t Q i q =>
  let ⟨d, S', z', v, t', e, ex, wo, r, i', q'⟩ := h t Q i q
  ⟨d, S', z', v, t', e, ex.weak hb, wo, r, i', q'⟩
theorem Sm.bind {k : β → Sto → Res β'} {f : α → Cm α'} (h : Sm I p c b S z R w x)
    (hk : ∀ v d S1 z1, Ex p b S z S1 z1 → WOk p c S1 z1 → R S1 z1 v d → Sm I p c b S1 z1 R2 (k d S1) (f v)) : Sm I p c b S z R2 (w.bind k) (x.bind f) := by
  intro t Q i q
  rw [ok_bind] at q
  obtain ⟨d, S1, z1, v, t1, e, ex, wo, r, i1, q1⟩ := h t _ i q
  obtain ⟨d2, S2, z2, v2, t2, e2, ex2, wo2, r2, i2, q2⟩ := hk v d S1 z1 ex wo r t1 Q i1 q1
  exact ⟨d2, S2, z2, v2, t2, by rw [e]; exact e2, ex.trans ex2, wo2, r2, i2, q2⟩
theorem Sm.eq {w' : Res β} {x' : Cm α} (h : Sm I p c b S z R w x) (e : w' = w) (e2 : x' = x) : Sm I p c b S z R w' x' := by rw [e, e2]; exact h
theorem Op.sm {R : Sto → P → D → Prop} {w : Res D} {x : Cm P} (hI : PenI I) (hw : WOk p c S z) (hb : b ≤ S.length) (h : Op p S z R w x) : Sm I p c b S z (fun S' z' v d => z' = z ∧ R S' v d) w x := by
  intro t Q i q
  rcases h.1 with e | ⟨v, e⟩
  · rw [e] at q; exact (ok_no.mp q).elim
  · obtain ⟨d, S', e2, hs, r⟩ := h.2 v e
    rw [e] at q
    replace q := ok_ret.mp q
    rcases hs with rfl | ⟨o, rfl⟩
    · exact ⟨d, S', z, v, t, e2, .refl, hw, ⟨rfl, r⟩, i, q⟩
    · exact ⟨d, _, z, v, t, e2, .push hw hb, hw.push, ⟨rfl, r⟩, hI.stable _ _ _ _ _ (List.getElem?_append_left hw.pl) (List.getElem?_append_left (hw.lt _ hw.cel)) i, q⟩
theorem ok_ex {x : Cm α} {t : Nat} {Q : α → Nat → Prop} (h : x.ok t Q) : ∃ v t', Q v t' := by
  induction x generalizing t with
  | ret a => exact ⟨a, t, ok_ret.mp h⟩
  | no => exact (ok_no.mp h).elim
  | ask m k ih =>
    have h := ok_ask.mp h
    exact ih 0 (h.2.2.2 0 (Int.le_refl _) h.1)
end
end Wk

set_option Elab.async false
set_option linter.all false
set_option maxRecDepth 100000
set_option maxHeartbeats 4000000
namespace Wk
open PySem PySem.Spec PyProof.Rows L2
structure RelE (p b : Nat) (S : Sto) (z : Nat → Prop) (pe : PEnv) (env : Env) : Prop where
  len : pe.length = env.length
  slot : ∀ (i : Nat) (v : P) (o : Bool), pe[i]? = some (some (v, o)) → ∃ d, env[i]? = some (some d) ∧ (o = false → Rp p S z v d) ∧ (o = true → Ro p b S z v d)
  dist : ∀ (i j : Nat) (v v' : P) (l : Nat), i ≠ j → pe[i]? = some (some (v, true)) → pe[j]? = some (some (v', true)) → env[i]? = some (some (.loc l)) → env[j]? = some (some (.loc l)) → False
def NoOwn (pe : PEnv) : Prop := ∀ (i : Nat) (v : P), pe[i]? ≠ some (some (v, true))
structure Cxt (p c b : Nat) (S : Sto) (z : Nat → Prop) (pe : PEnv) (env : Env) : Prop where
  w : WOk p c S z
  hb : b ≤ S.length
  r : RelE p b S z pe env
def Rf (p : Nat) (q : Bool) (b : Nat) (S : Sto) (z : Nat → Prop) (v : P) (d : D) : Prop := if q then Ro p b S z v d else Rp p S z v d
section
variable {p c b : Nat} {S S' S1 : Sto} {z z' z1 : Nat → Prop} {pe : PEnv} {env : Env} {v : P} {d : D}
theorem RelE.mono (x : Ex p S.length S z S' z') (h : RelE p b S z pe env) : RelE p b S' z' pe env :=
  ⟨h.len, fun i v o e => let ⟨d, h1, h2, h3⟩ := h.slot i v o e; ⟨d, h1, fun q => (h2 q).mono x, fun q => (h3 q).mono x⟩, h.dist⟩
theorem Cxt.mono (h : Cxt p c b S z pe env) (x : Ex p S.length S z S' z') (w : WOk p c S' z') : Cxt p c b S' z' pe env := ⟨w, Nat.le_trans h.hb x.len, h.r.mono x⟩
theorem set_cases {α : Type} {l : List α} {i j : Nat} {a x : α} (h : (l.set i a)[j]? = some x) : (i = j ∧ x = a) ∨ (i ≠ j ∧ l[j]? = some x) := by
  by_cases e : i = j
  · subst e
    rw [List.getElem?_set_self'] at h
    cases q : l[i]? with
    | none => rw [q] at h; cases h
    | some y => rw [q] at h; cases h; exact .inl ⟨rfl, rfl⟩
  · rw [List.getElem?_set_ne e] at h; exact .inr ⟨e, h⟩
theorem len_get {α β : Type} {l : List α} {m : List β} {i : Nat} {a : α} (h : l.length = m.length) (e : l[i]? = some a) : i < m.length := h ▸ (List.getElem?_eq_some_iff.mp e).1
theorem set_lt {α : Type} {l : List α} {i : Nat} {a : α} (h : i < l.length) : (l.set i a)[i]? = some a := List.getElem?_set_self h
/-- a slot is given a shared value -/
theorem RelE.share {i : Nat} (h : RelE p b S z pe env) (r : Rp p S z v d) : RelE p b S z (pe.set i (some (v, false))) (env.set i (some d)) := by
  refine ⟨by simp [h.len], fun j u o e => ?_, fun j k u u' l ne e1 e2 e3 e4 => ?_⟩
  · rcases set_cases e with ⟨rfl, q⟩ | ⟨ne, q⟩
    · cases q
      have hl : i < env.length := by have := (List.getElem?_eq_some_iff.mp e).1; rw [List.length_set] at this; rw [← h.len]; exact this
      exact ⟨d, set_lt hl, fun _ => r, fun q => nomatch q⟩
    · rw [List.getElem?_set_ne ne]; exact h.slot j u o q
  · rcases set_cases e1 with ⟨rfl, q⟩ | ⟨n1, q1⟩
    · cases q
    rcases set_cases e2 with ⟨rfl, q⟩ | ⟨n2, q2⟩
    · cases q
    rw [List.getElem?_set_ne n1] at e3
    rw [List.getElem?_set_ne n2] at e4
    exact h.dist j k u u' l ne q1 q2 e3 e4
theorem RelE.drop {i : Nat} (h : RelE p b S z pe env) (x : Option D) : RelE p b S z (pe.set i none) (env.set i x) := by
  refine ⟨by simp [h.len], fun j u o e => ?_, fun j k u u' l ne e1 e2 e3 e4 => ?_⟩
  · rcases set_cases e with ⟨rfl, q⟩ | ⟨ne, q⟩
    · cases q
    · rw [List.getElem?_set_ne ne]; exact h.slot j u o q
  · rcases set_cases e1 with ⟨rfl, q⟩ | ⟨n1, q1⟩
    · cases q
    rcases set_cases e2 with ⟨rfl, q⟩ | ⟨n2, q2⟩
    · cases q
    rw [List.getElem?_set_ne n1] at e3
    rw [List.getElem?_set_ne n2] at e4
    exact h.dist j k u u' l ne q1 q2 e3 e4
theorem RelE.drop' {i : Nat} (h : RelE p b S z pe env) : RelE p b S z (pe.set i none) env := by
  by_cases hi : i < env.length
  · have e : env = env.set i env[i] := by simp
    have := h.drop (i := i) env[i]
    rw [← e] at this; exact this
  · have e : pe.set i none = pe := List.set_eq_of_length_le (by rw [h.len]; omega)
    rw [e]; exact h
/-- a slot is given a list of one's own: no other slot has it -/
theorem RelE.own {i : Nat} (h : RelE p b S z pe env) (r : Ro p b S z v d) (hn : ∀ (j : Nat) (u : P) (l : Nat), j ≠ i → pe[j]? = some (some (u, true)) → env[j]? = some (some (.loc l)) → d ≠ .loc l) : RelE p b S z (pe.set i (some (v, true))) (env.set i (some d)) := by
  refine ⟨by simp [h.len], fun j u o e => ?_, fun j k u u' l ne e1 e2 e3 e4 => ?_⟩
  · rcases set_cases e with ⟨rfl, q⟩ | ⟨ne, q⟩
    · cases q
      have hl : i < env.length := by have := (List.getElem?_eq_some_iff.mp e).1; rw [List.length_set] at this; rw [← h.len]; exact this
      exact ⟨d, set_lt hl, (fun q => nomatch q), fun _ => r⟩
    · rw [List.getElem?_set_ne ne]; exact h.slot j u o q
  · rcases set_cases e1 with ⟨rfl, q⟩ | ⟨n1, q1⟩
    · rcases set_cases e2 with ⟨rfl, q⟩ | ⟨n2, q2⟩
      · exact ne rfl
      · rw [List.getElem?_set_ne n2] at e4
        have hl : i < env.length := by have := (List.getElem?_eq_some_iff.mp e1).1; rw [List.length_set] at this; rw [← h.len]; exact this
        rw [set_lt hl] at e3
        cases e3
        exact hn k u' l (Ne.symm n2) q2 e4 rfl
    · rcases set_cases e2 with ⟨rfl, q⟩ | ⟨n2, q2⟩
      · rw [List.getElem?_set_ne n1] at e3
        have hl : i < env.length := by have := (List.getElem?_eq_some_iff.mp e2).1; rw [List.length_set] at this; rw [← h.len]; exact this
        rw [set_lt hl] at e4
        cases e4
        exact hn j u l (Ne.symm n1) q1 e3 rfl
      · rw [List.getElem?_set_ne n1] at e3
        rw [List.getElem?_set_ne n2] at e4
        exact h.dist j k u u' l ne q1 q2 e3 e4
theorem RelE.wipe : ∀ (ws : List Nat), RelE p b S z pe env → RelE p b S z (wipeP pe ws) (wipeE env ws)
  | [], h => h
  | w :: ws, h => (RelE.wipe ws h).drop none
theorem RelE.wipe' : ∀ (ws : List Nat), RelE p b S z pe env → RelE p b S z (wipeP pe ws) env
  | [], h => h
  | w :: ws, h => (RelE.wipe' ws h).drop'
theorem hide_get {i : Nat} {v : P} {o : Bool} (h : (hideP pe)[i]? = some (some (v, o))) : o = false ∧ pe[i]? = some (some (v, false)) := by
  unfold hideP at h
  rw [List.getElem?_map] at h
  cases e : pe[i]? with
  | none => rw [e] at h; cases h
  | some q =>
    rw [e] at h
    cases q with
    | none => cases h
    | some q =>
      obtain ⟨u, o'⟩ := q
      cases o' with
      | true => cases h
      | false => cases h; exact ⟨rfl, rfl⟩
theorem RelE.hide (h : RelE p b S z pe env) : RelE p b S z (hideP pe) env := by
  refine ⟨by unfold hideP; rw [List.length_map]; exact h.len, fun j u o e => ?_, fun j k u u' l ne e1 _ _ _ => ?_⟩
  · obtain ⟨rfl, q⟩ := hide_get e; exact h.slot j u false q
  · cases (hide_get e1).1
theorem hide_no : NoOwn (hideP pe) := fun i v e => nomatch (hide_get e).1
theorem NoOwn.wipe (h : NoOwn pe) : ∀ ws, NoOwn (wipeP pe ws)
  | [] => h
  | w :: ws => fun i v e => by
    rcases set_cases e with ⟨rfl, q⟩ | ⟨_, q⟩
    · cases q
    · exact NoOwn.wipe h ws i v q
variable {I : Sto → Nat → Nat → Nat → Prop} {α β : Type} {w : Res D} {x : Cm P}
theorem Sm.frz (hI : PenI I) (h : Sm I p c b S z (fun S' z' v d => Ro p b S' z' v d) w x) : Sm I p c b S z (fun S' z' v d => Rp p S' z' v d) w x := fun t Q i q => by
  obtain ⟨d, S', z', v, t', e, ex, wo, r, i', q'⟩ := h t Q i q
  obtain ⟨z2, ex2, wo2, r2, _⟩ := r.frz wo
  exact ⟨d, S', z2, v, t', e, ex.trans ex2, wo2, r2, i', q'⟩
theorem Sm.rr (hI : PenI I) {q : Bool} (h : Sm I p c b S z (Rf p q b) w x) : Sm I p c b S z (fun S' z' v d => Rp p S' z' v d) w x := by
  cases q with
  | true => exact h.frz hI
  | false => exact h
end
/-- the defs' runs carried over -/
structure Orcs (I : Sto → Nat → Nat → Nat → Prop) (p c : Nat) (F : Orc) (FP : POrc) (G : Shp) (GP : PShp) (fr : Nat → Bool) : Prop where
  pen : PenI I
  run : ∀ (f : Nat) (vs : List P) (ds : List D) (S : Sto) (z : Nat → Prop), WOk p c S z → Rps p S z vs ds → Sm I p c S.length S z (Rf p (fr f) S.length) (F f ds S) (FP f vs)
  shp : ∀ (h : Nat) (vs ws : List P) (ds es : List D) (S : Sto) (z : Nat → Prop), Rps p S z vs ds → Rps p S z ws es → Rps p S z (GP.shp h vs ws) (G.shp h ds es)
  cst : ∀ (i : Nat) (S : Sto) (z : Nat → Prop), Rp p S z (GP.cst i) (G.cst i)
section
variable {I : Sto → Nat → Nat → Nat → Prop} {p c : Nat} {F : Orc} {FP : POrc} {G : Shp} {GP : PShp} {fr : Nat → Bool}
def GV (I : Sto → Nat → Nat → Nat → Prop) (p c : Nat) (F : Orc) (FP : POrc) (G : Shp) (GP : PShp) (fr : Nat → Bool) (e : E) : Prop := ∀ (b : Nat) (S : Sto) (z : Nat → Prop) (pe : PEnv) (env : Env), Cxt p c b S z pe env →
  Sm I p c S.length S z (Rf p (frE fr e) S.length) (evE F G e env S) (evP FP GP e pe)
def GU (I : Sto → Nat → Nat → Nat → Prop) (p c : Nat) (F : Orc) (FP : POrc) (G : Shp) (GP : PShp) (e : E) : Prop := ∀ (b : Nat) (S : Sto) (z : Nat → Prop) (pe : PEnv) (env : Env), Cxt p c b S z pe env →
  Sm I p c S.length S z (fun S' z' v d => Rp p S' z' v d) (evE F G e env S) (evP FP GP e pe)
def GK (I : Sto → Nat → Nat → Nat → Prop) (p c : Nat) (F : Orc) (FP : POrc) (G : Shp) (GP : PShp) (e : E) : Prop := ∀ (b : Nat) (S : Sto) (z : Nat → Prop) (pe : PEnv) (env : Env), Cxt p c b S z pe env →
  Sm I p c S.length S z (fun S' z' v d => Rk p S' z' v d ∧ (NoOwn pe → Rp p S' z' v d)) (evE F G e env S) (pkP e (evP FP GP e) pe)
variable (O : Orcs I p c F FP G GP fr)
include O
theorem GV.u {e : E} (h : GV I p c F FP G GP fr e) : GU I p c F FP G GP e := fun b S z pe env cx => (h b S z pe env cx).rr O.pen
theorem GU.k {e : E} (h : GU I p c F FP G GP e) : GK I p c F FP G GP e := by
  intro b S z pe env cx
  by_cases hv : ∃ i, e = .var i
  · obtain ⟨i, rfl⟩ := hv
    show Sm I p c S.length S z _ (gcase env[i]? fun d => .ok d S) (peek pe i)
    unfold peek
    split
    · rename_i v o q
      obtain ⟨d, e, h1, h2⟩ := cx.r.slot i v o q
      rw [e]
      refine Sm.ret cx.w ?_
      cases o with
      | false => exact ⟨.of (h1 rfl), fun _ => h1 rfl⟩
      | true => exact ⟨(h2 rfl).pk, fun no => absurd q (no i v)⟩
    · exact .no
  · have e1 : pkP e (evP FP GP e) pe = evP FP GP e pe := by
      cases e <;> first | rfl | exact absurd ⟨_, rfl⟩ hv
    rw [e1]
    exact (h b S z pe env cx).imp fun S' z' v d _ _ r => ⟨.of r, fun _ => r⟩
end
end Wk

set_option Elab.async false
set_option linter.all false
set_option maxRecDepth 100000
set_option maxHeartbeats 4000000
namespace Wk
open PySem PySem.Spec PyProof.Rows L2
section
variable {I : Sto → Nat → Nat → Nat → Prop} {p c b b0 : Nat} {S S' : Sto} {z z' : Nat → Prop} {α β α' β' : Type} {R : Sto → (Nat → Prop) → α → β → Prop} {R2 : Sto → (Nat → Prop) → α' → β' → Prop} {w : Res β} {x : Cm α}
theorem Sm.step {k : β → Sto → Res β'} {f : α → Cm α'} (h : Sm I p c S.length S z R w x)
    (hk : ∀ v d S1 z1, Ex p S.length S z S1 z1 → WOk p c S1 z1 → R S1 z1 v d → Sm I p c S1.length S1 z1 R2 (k d S1) (f v)) : Sm I p c S.length S z R2 (w.bind k) (x.bind f) :=
  h.bind fun v d S1 z1 ex wo r => (hk v d S1 z1 ex wo r).weak ex.len
theorem Op.fin {w : Res D} {x : Cm P} (hI : PenI I) (hw : WOk p c S z) (hb : b0 ≤ S.length) (h : OpF p S z w x) : Sm I p c S.length S z (Rf p true b0) w x :=
  (Op.sm hI hw (Nat.le_refl _) h).imp fun S' z' v d _ _ r => by obtain ⟨rfl, r⟩ := r; exact r.weak hb
theorem Op.finV {w : Res D} {x : Cm P} (hI : PenI I) (hw : WOk p c S z) (h : OpV p S z w x) : Sm I p c S.length S z (fun S' z' v d => Rp p S' z' v d) w x :=
  (Op.sm hI hw (Nat.le_refl _) h).imp fun S' z' v d _ _ r => by obtain ⟨rfl, r⟩ := r; exact r
/-- a new thing is laid -/
theorem Sm.alloc {o : O} {v : P} (hI : PenI I) (hw : WOk p c S z) (h : Rf p true b0 (S ++ [o]) z v (.loc S.length)) : Sm I p c S.length S z (Rf p true b0) (Wk.alloc S o) (.ret v) := fun t Q i q =>
  ⟨_, _, z, v, t, rfl, .push hw (Nat.le_refl _), hw.push, h, hI.stable _ _ _ _ _ (List.getElem?_append_left hw.pl) (List.getElem?_append_left (hw.lt _ hw.cel)) i, ok_ret.mp q⟩
end
section
variable {I : Sto → Nat → Nat → Nat → Prop} {p c : Nat} {F : Orc} {FP : POrc} {G : Shp} {GP : PShp} {fr : Nat → Bool}
def GPs (I : Sto → Nat → Nat → Nat → Prop) (p c : Nat) (F : Orc) (FP : POrc) (G : Shp) (GP : PShp) (es : Es) : Prop := ∀ (b : Nat) (S : Sto) (z : Nat → Prop) (pe : PEnv) (env : Env), Cxt p c b S z pe env →
  Sm I p c S.length S z (fun S' z' v d => Rps p S' z' v d) (evEs F G es env S) (evPs FP GP es pe)
def GKs (I : Sto → Nat → Nat → Nat → Prop) (p c : Nat) (F : Orc) (FP : POrc) (G : Shp) (GP : PShp) (es : Es) : Prop := ∀ (b : Nat) (S : Sto) (z : Nat → Prop) (pe : PEnv) (env : Env), Cxt p c b S z pe env →
  Sm I p c S.length S z (fun S' z' v d => Rks p S' z' v d) (evEs F G es env S) (evKs FP GP es pe)
def GOp (I : Sto → Nat → Nat → Nat → Prop) (p c : Nat) (F : Orc) (FP : POrc) (G : Shp) (GP : PShp) (o : Oe) : Prop := ∀ (b : Nat) (S : Sto) (z : Nat → Prop) (pe : PEnv) (env : Env), Cxt p c b S z pe env →
  Sm I p c S.length S z (fun S' z' v d => v = d) (evO F G o env S) (evOP FP GP o pe)
def GTst (I : Sto → Nat → Nat → Nat → Prop) (p c : Nat) (F : Orc) (FP : POrc) (G : Shp) (GP : PShp) (o : Oe) : Prop := ∀ (b : Nat) (S : Sto) (z : Nat → Prop) (pe : PEnv) (env : Env), Cxt p c b S z pe env →
  Sm I p c S.length S z (fun S' z' v d => v = d) (tsO F G o env S) (tsP FP GP o pe)
def RS (p : Nat) (pe : PEnv) (S : Sto) (z : Nat → Prop) (vs : List P) (src : Src) : Prop := Rps p S z vs src.items ∧ (∀ S' z', Ex p S.length S z S' z' → src.keep S') ∧ (NoOwn pe → ∀ b S' z', Ex p b S z S' z' → src.keep S')
def GIt (I : Sto → Nat → Nat → Nat → Prop) (p c : Nat) (F : Orc) (FP : POrc) (G : Shp) (GP : PShp) (it : It) : Prop := ∀ (b : Nat) (S : Sto) (z : Nat → Prop) (pe : PEnv) (env : Env), Cxt p c b S z pe env →
  Sm I p c S.length S z (fun S' z' v d => RS p pe S' z' v d) (evI F G it env S) (evIP FP GP it pe)
/-- a target: the slots' relation stands, with what is one's own as it was -/
def GA (I : Sto → Nat → Nat → Nat → Prop) (p c : Nat) (F : Orc) (FP : POrc) (G : Shp) (GP : PShp) (t : Tg) : Prop := ∀ (b : Nat) (S : Sto) (z : Nat → Prop) (pe : PEnv) (env : Env) (v : P) (d : D), Cxt p c b S z pe env → Rp p S z v d →
  Sm I p c S.length S z (fun S' z' pe' env' => RelE p b S' z' pe' env') (asT F G t d env S) (asP FP GP t v pe)
def GAs (I : Sto → Nat → Nat → Nat → Prop) (p c : Nat) (F : Orc) (FP : POrc) (G : Shp) (GP : PShp) (t : Tgs) : Prop := ∀ (b : Nat) (S : Sto) (z : Nat → Prop) (pe : PEnv) (env : Env) (v : List P) (d : List D), Cxt p c b S z pe env → Rps p S z v d →
  Sm I p c S.length S z (fun S' z' pe' env' => RelE p b S' z' pe' env') (asTs F G t d env S) (asPs FP GP t v pe)
variable (O : Orcs I p c F FP G GP fr)
include O
variable {a b e : E} {es ks : Es}
theorem gv_lit {e : E} {v : P} {d : D} (h1 : ∀ env S, evE F G e env S = .ok d S) (h2 : ∀ pe, evP FP GP e pe = .ret v) (hf : frE fr e = true) (h3 : ∀ b S z, Ro p b S z v d) : GV I p c F FP G GP fr e := by
  intro b S z pe env cx
  rw [h1, h2, hf]
  exact .ret cx.w (h3 _ _ _)
theorem gv_var {i : Nat} : GV I p c F FP G GP fr (.var i) := by
  intro b S z pe env cx
  show Sm I p c S.length S z (Rf p false S.length) (gcase env[i]? fun d => .ok d S) (evP FP GP (.var i) pe)
  simp only [evP]
  split
  · rename_i v q
    obtain ⟨d, e, h1, _⟩ := cx.r.slot i v false q
    rw [e]
    exact .ret cx.w (h1 rfl)
  · exact .no
theorem gv_glob {i : Nat} : GV I p c F FP G GP fr (.glob i) := by
  intro b S z pe env cx
  show Sm I p c S.length S z (Rf p false S.length) (.ok (G.cst i) S) (evP FP GP (.glob i) pe)
  simp only [evP]
  exact .ret cx.w (O.cst i S z)
theorem gv_tup (h : GPs I p c F FP G GP es) : GV I p c F FP G GP fr (.tup es) := by
  intro b S z pe env cx
  rw [e_tup]; simp only [evP]
  refine Sm.step (h b S z pe env cx) fun vs ds S1 z1 ex w r => ?_
  by_cases g : vs.length ≤ 1000
  · rw [if_pos g, if_pos (r.length ▸ g)]
    exact .ret w (.tup r)
  · rw [if_neg g]; exact .no
theorem gv_lst (h : GPs I p c F FP G GP es) : GV I p c F FP G GP fr (.lst es) := by
  intro b S z pe env cx
  rw [e_lst]; simp only [evP]
  refine Sm.step (h b S z pe env cx) fun vs ds S1 z1 ex w r => ?_
  by_cases g : vs.length ≤ 1000
  · rw [if_pos g, if_pos (r.length ▸ g)]
    exact .alloc O.pen w ((Ro.new w r).weak ex.len)
  · rw [if_neg g]; exact .no
theorem zip_map {ks : List Key} {ds : List D} (h : ks.length = ds.length) : (ks.zip ds).map (·.1) = ks ∧ (ks.zip ds).map (·.2) = ds :=
  ⟨List.map_fst_zip (by omega), List.map_snd_zip (by omega)⟩
theorem gv_dic {ks : List Str} (h : GPs I p c F FP G GP es) : GV I p c F FP G GP fr (.dic ks es) := by
  intro b S z pe env cx
  rw [e_dic]; simp only [evP]
  refine Sm.step (h b S z pe env cx) fun vs ds S1 z1 ex w r => ?_
  by_cases g : ks.length = vs.length ∧ ks.length ≤ 15 ∧ ks.Nodup
  · rw [if_pos g, if_pos (by rw [← r.length]; exact g)]
    have hl : (ks.map Sum.inr : List Key).length = ds.length := by rw [List.length_map, ← r.length]; exact g.1
    exact .alloc O.pen w ((Ro.newD w (zip_map O hl).1 (by rw [(zip_map O hl).2]; exact r)).weak ex.len)
  · rw [if_neg g]; exact .no
theorem gv_bin {op : BOp} (ha : GK I p c F FP G GP a) (hb : GK I p c F FP G GP b) : GV I p c F FP G GP fr (.bin op a b) := by
  intro b0 S z pe env cx
  rw [e_bin]; simp only [evP]
  refine Sm.step (ha b0 S z pe env cx) fun v d S1 z1 ex w r => ?_
  refine Sm.step (hb b0 S1 z1 pe env (cx.mono ex w)) fun v2 d2 S2 z2 ex2 w2 r2 => ?_
  exact Op.fin O.pen w2 (Nat.le_trans ex.len ex2.len) (po_bin w2 (r.1.mono ex2) r2.1)
theorem gv_cmp {op : COp} (ha : GK I p c F FP G GP a) (hb : GK I p c F FP G GP b) : GV I p c F FP G GP fr (.cmp op a b) := by
  intro b0 S z pe env cx
  rw [e_cmp]; simp only [evP]
  refine Sm.step (ha b0 S z pe env cx) fun v d S1 z1 ex w r => ?_
  refine Sm.step (hb b0 S1 z1 pe env (cx.mono ex w)) fun v2 d2 S2 z2 ex2 w2 r2 => ?_
  exact Op.fin O.pen w2 (Nat.le_trans ex.len ex2.len) (po_cmp w2 (r.1.mono ex2) r2.1)
theorem gv_neg (ha : GK I p c F FP G GP a) : GV I p c F FP G GP fr (.neg a) := by
  intro b0 S z pe env cx
  rw [e_neg]; simp only [evP]
  refine Sm.step (ha b0 S z pe env cx) fun v d S1 z1 ex w r => ?_
  split
  · cases r.1.int; exact .ret w (.int _)
  · exact .no
theorem gv_not (ha : GK I p c F FP G GP a) : GV I p c F FP G GP fr (.not a) := by
  intro b0 S z pe env cx
  rw [e_not]; simp only [evP]
  refine Sm.step (ha b0 S z pe env cx) fun v d S1 z1 ex w r => ?_
  cases e : truP v with
  | none => exact .no
  | some t => rw [r.1.truth w e]; exact .ret w (.bl _)
theorem gv_chain {o1 o2 : COp} {e : E} (ha : GK I p c F FP G GP a) (hb : GK I p c F FP G GP b) (he : GK I p c F FP G GP e) : GV I p c F FP G GP fr (.chain o1 o2 a b e) := by
  intro b0 S z pe env cx
  rw [e_chain]; simp only [evP]
  show Sm _ _ _ _ _ _ (Rf p false S.length) _ _
  refine Sm.step (ha b0 S z pe env cx) fun v d S1 z1 ex w r => ?_
  refine Sm.step (hb b0 S1 z1 pe env (cx.mono ex w)) fun v2 d2 S2 z2 ex2 w2 r2 => ?_
  refine Sm.step (Op.fin O.pen w2 (Nat.le_trans ex.len ex2.len) (po_cmp w2 (r.1.mono ex2) r2.1)) fun v3 d3 S3 z3 ex3 w3 r3 => ?_
  have r3 : Ro p S.length S3 z3 v3 d3 := r3
  split
  · cases r3.pk.bl
    refine Sm.step (he b0 S3 z3 pe env ((cx.mono ex w).mono (ex2.trans (ex3.weak ex2.len)) w3)) fun v4 d4 S4 z4 ex4 w4 r4 => ?_
    refine Sm.rr O.pen (q := true) (Op.fin O.pen w4 (Nat.le_refl _) (po_cmp w4 ((r2.1.mono ex3).mono ex4) r4.1))
  · cases r3.pk.bl; exact .ret w3 (.bl _)
  · exact .no
theorem gv_ite {e : E} (he : GK I p c F FP G GP e) (ha : GV I p c F FP G GP fr a) (hb : GV I p c F FP G GP fr b) : GV I p c F FP G GP fr (.ite e a b) := by
  intro b0 S z pe env cx
  rw [e_ite]; simp only [evP]
  refine Sm.step (he b0 S z pe env cx) fun v d S1 z1 ex w r => ?_
  have pick : ∀ {x : E}, GV I p c F FP G GP fr x → (frE fr (.ite e a b) = true → frE fr x = true) → Sm I p c S1.length S1 z1 (Rf p (frE fr (.ite e a b)) S.length) (evE F G x env S1) (evP FP GP x pe) := by
    intro x hx hf
    cases q : frE fr (.ite e a b) with
    | true =>
      have := hx b0 S1 z1 pe env (cx.mono ex w)
      rw [hf q] at this
      exact this.imp fun S' z' v d _ _ r => Ro.weak r ex.len
    | false => exact GV.u O hx b0 S1 z1 pe env (cx.mono ex w)
  cases q : truP v with
  | none => exact .no
  | some t =>
    rw [r.1.truth w q]
    cases t with
    | true => exact pick ha fun h => by have h : (frE fr a && frE fr b) = true := h; rw [Bool.and_eq_true] at h; exact h.1
    | false => exact pick hb fun h => by have h : (frE fr a && frE fr b) = true := h; rw [Bool.and_eq_true] at h; exact h.2
theorem gv_call {f : Nat} (h : GPs I p c F FP G GP es) : GV I p c F FP G GP fr (.call f es) := by
  intro b S z pe env cx
  rw [e_call]; simp only [evP]
  refine Sm.step (h b S z pe env cx) fun vs ds S1 z1 ex w r => ?_
  refine (O.run f vs ds S1 z1 w r).imp fun S' z' v d _ _ r => ?_
  show Rf p (fr f) S.length S' z' v d
  cases q : fr f with
  | true => rw [q] at r; exact Ro.weak r ex.len
  | false => rw [q] at r; exact r
theorem gv_callK {f hh : Nat} (h : GPs I p c F FP G GP es) (hk : GPs I p c F FP G GP ks) : GV I p c F FP G GP fr (.callK f hh es ks) := by
  intro b S z pe env cx
  rw [e_callK]; simp only [evP]
  refine Sm.step (h b S z pe env cx) fun vs ds S1 z1 ex w r => ?_
  refine Sm.step (hk b S1 z1 pe env (cx.mono ex w)) fun vs2 ds2 S2 z2 ex2 w2 r2 => ?_
  refine (O.run f _ _ S2 z2 w2 (O.shp hh _ _ _ _ S2 z2 (r.mono ex2) r2)).imp fun S' z' v d _ _ r => ?_
  show Rf p (fr f) S.length S' z' v d
  cases q : fr f with
  | true => rw [q] at r; exact Ro.weak r (Nat.le_trans ex.len ex2.len)
  | false => rw [q] at r; exact r
theorem gv_blt {f : Blt} (h : GKs I p c F FP G GP es) : GV I p c F FP G GP fr (.blt f es) := by
  intro b S z pe env cx
  rw [e_blt]; simp only [evP]
  refine Sm.step (h b S z pe env cx) fun vs ds S1 z1 ex w r => ?_
  exact Op.fin O.pen w ex.len (po_blt w r)
theorem gv_isi {t : Ty} (ha : GK I p c F FP G GP a) : GV I p c F FP G GP fr (.isi a t) := by
  intro b0 S z pe env cx
  rw [e_isi]; simp only [evP]
  refine Sm.step (ha b0 S z pe env cx) fun v d S1 z1 ex w r => ?_
  cases q : isTyP v t with
  | none => exact .no
  | some t => rw [r.1.isTy w q]; exact .ret w (.bl _)
theorem gv_idx (ha : GK I p c F FP G GP a) (hb : GK I p c F FP G GP b) : GV I p c F FP G GP fr (.idx a b) := by
  intro b0 S z pe env cx
  rw [e_idx]; simp only [evP]
  show Sm _ _ _ _ _ _ (Rf p false S.length) _ _
  refine Sm.step (ha b0 S z pe env cx) fun v d S1 z1 ex w r => ?_
  refine Sm.step (hb b0 S1 z1 pe env (cx.mono ex w)) fun v2 d2 S2 z2 ex2 w2 r2 => ?_
  exact Op.finV O.pen w2 (po_ix w2 (r.1.mono ex2) r2.1)
theorem gv_slc {lo hi : Oe} (ha : GK I p c F FP G GP a) (hl : GOp I p c F FP G GP lo) (hh : GOp I p c F FP G GP hi) : GV I p c F FP G GP fr (.slc a lo hi) := by
  intro b0 S z pe env cx
  rw [e_slc]; simp only [evP]
  refine Sm.step (ha b0 S z pe env cx) fun v d S1 z1 ex w r => ?_
  refine Sm.step (hl b0 S1 z1 pe env (cx.mono ex w)) fun v2 d2 S2 z2 ex2 w2 r2 => ?_
  refine Sm.step (hh b0 S2 z2 pe env ((cx.mono ex w).mono ex2 w2)) fun v3 d3 S3 z3 ex3 w3 r3 => ?_
  subst r2; subst r3
  exact Op.fin O.pen w3 (Nat.le_trans ex.len (Nat.le_trans ex2.len ex3.len)) (po_sl w3 ((r.1.mono ex2).mono ex3))
theorem gv_rev (ha : GK I p c F FP G GP a) : GV I p c F FP G GP fr (.rev a) := by
  intro b0 S z pe env cx
  rw [e_rev]; simp only [evP]
  refine Sm.step (ha b0 S z pe env cx) fun v d S1 z1 ex w r => ?_
  exact Op.fin O.pen w ex.len (po_rev w r.1)
omit O in
theorem mthP_det {m : Mth} {x : P} {vs : List P} : mthP m x vs = .no ∨ ∃ r, mthP m x vs = .ret r := by
  unfold mthP
  split
  · split
    · cases firstAtP _ _ with
      | none => exact .inl rfl
      | some j => exact .inr ⟨_, rfl⟩
    · exact .inl rfl
  · split
    · split
      · exact .inr ⟨_, rfl⟩
      · exact .inl rfl
    · exact .inl rfl
  · split
    · exact .inr ⟨_, rfl⟩
    · exact .inl rfl
  · exact .inl rfl
omit O in
theorem mthP_ret {m : Mth} {x : P} {vs : List P} {t : Nat} {Q : P → Nat → Prop} (h : (mthP m x vs).ok t Q) : ∃ r, mthP m x vs = .ret r := by
  rcases mthP_det (m := m) (x := x) (vs := vs) with e | e
  · rw [e] at h; exact (ok_no.mp h).elim
  · exact e
theorem gv_mth {m : Mth} (ha : GK I p c F FP G GP a) (h : GKs I p c F FP G GP es) : GV I p c F FP G GP fr (.mth m a es) := by
  intro b0 S z pe env cx
  rw [e_mth]; simp only [evP]
  refine Sm.step (ha b0 S z pe env cx) fun v d S1 z1 ex w r => ?_
  intro t Q i q
  obtain ⟨vs, t1, g⟩ := ok_ex (ok_bind.mp q)
  obtain ⟨u, e⟩ := mthP_ret g
  have ht := mthP_ty w r.1 e
  rw [if_pos ht]
  refine Sm.step (R2 := Rf p true S.length) (h b0 S1 z1 pe env (cx.mono ex w)) (fun vs ds S2 z2 ex2 w2 r2 => ?_) t Q i q
  exact Op.fin O.pen w2 (Nat.le_trans ex.len ex2.len) (po_mth w2 (r.1.mono ex2) r2)
theorem gv_lrg1 {tp : Bool} (ha : GK I p c F FP G GP a) : GV I p c F FP G GP fr (.lrg1 tp a) := by
  intro b0 S z pe env cx
  show Sm _ _ _ _ _ _ _ ((evE F G a env S).bind fun x S1 => lrgop tp (.int 0) x S1) _; simp only [evP]
  refine Sm.step (ha b0 S z pe env cx) fun v d S1 z1 ex w r => ?_
  exact Op.fin O.pen w ex.len (po_lrg w (.of (.int 0)) r.1)
theorem gv_lrg2 {tp : Bool} (ha : GK I p c F FP G GP a) (hb : GK I p c F FP G GP b) : GV I p c F FP G GP fr (.lrg2 tp a b) := by
  intro b0 S z pe env cx
  show Sm _ _ _ _ _ _ _ ((evE F G a env S).bind fun x S1 => (evE F G b env S1).bind fun y S2 => lrgop tp x y S2) _; simp only [evP]
  refine Sm.step (ha b0 S z pe env cx) fun v d S1 z1 ex w r => ?_
  refine Sm.step (hb b0 S1 z1 pe env (cx.mono ex w)) fun v2 d2 S2 z2 ex2 w2 r2 => ?_
  exact Op.fin O.pen w2 (Nat.le_trans ex.len ex2.len) (po_lrg w2 (r.1.mono ex2) r2.1)
theorem gand_1 (h : GU I p c F FP G GP e) {b0 : Nat} {S : Sto} {z : Nat → Prop} {pe : PEnv} {env : Env} (cx : Cxt p c b0 S z pe env) : Sm I p c S.length S z (fun S' z' v d => Rp p S' z' v d) (evAnd F G (.cons e .nil) env S) (evAndP FP GP (.cons e .nil) pe) := by
  rw [an_1]; simp only [evAndP]; exact h b0 S z pe env cx
theorem gand_2 {e2 : E} (h : GU I p c F FP G GP e) (h2 : ∀ (b0 : Nat) (S : Sto) (z : Nat → Prop) (pe : PEnv) (env : Env), Cxt p c b0 S z pe env → Sm I p c S.length S z (fun S' z' v d => Rp p S' z' v d) (evAnd F G (.cons e2 es) env S) (evAndP FP GP (.cons e2 es) pe))
    {b0 : Nat} {S : Sto} {z : Nat → Prop} {pe : PEnv} {env : Env} (cx : Cxt p c b0 S z pe env) : Sm I p c S.length S z (fun S' z' v d => Rp p S' z' v d) (evAnd F G (.cons e (.cons e2 es)) env S) (evAndP FP GP (.cons e (.cons e2 es)) pe) := by
  rw [an_2]; simp only [evAndP]
  refine Sm.step (h b0 S z pe env cx) fun v d S1 z1 ex w r => ?_
  split
  · cases r; exact h2 b0 S1 z1 pe env (cx.mono ex w)
  · cases r; exact .ret w (.bl _)
  · exact .no
theorem gor_1 (h : GU I p c F FP G GP e) {b0 : Nat} {S : Sto} {z : Nat → Prop} {pe : PEnv} {env : Env} (cx : Cxt p c b0 S z pe env) : Sm I p c S.length S z (fun S' z' v d => Rp p S' z' v d) (evOr F G (.cons e .nil) env S) (evOrP FP GP (.cons e .nil) pe) := by
  rw [or_1]; simp only [evOrP]; exact h b0 S z pe env cx
theorem gor_2 {e2 : E} (h : GU I p c F FP G GP e) (h2 : ∀ (b0 : Nat) (S : Sto) (z : Nat → Prop) (pe : PEnv) (env : Env), Cxt p c b0 S z pe env → Sm I p c S.length S z (fun S' z' v d => Rp p S' z' v d) (evOr F G (.cons e2 es) env S) (evOrP FP GP (.cons e2 es) pe))
    {b0 : Nat} {S : Sto} {z : Nat → Prop} {pe : PEnv} {env : Env} (cx : Cxt p c b0 S z pe env) : Sm I p c S.length S z (fun S' z' v d => Rp p S' z' v d) (evOr F G (.cons e (.cons e2 es)) env S) (evOrP FP GP (.cons e (.cons e2 es)) pe) := by
  rw [or_2]; simp only [evOrP]
  refine Sm.step (h b0 S z pe env cx) fun v d S1 z1 ex w r => ?_
  split
  · cases r; exact .ret w (.bl _)
  · cases r; exact h2 b0 S1 z1 pe env (cx.mono ex w)
  · exact .no
theorem gps_nil : GPs I p c F FP G GP .nil := by
  intro b S z pe env cx
  rw [es_nil]; simp only [evPs]; exact .ret cx.w .nil
theorem gps_cons (h : GU I p c F FP G GP e) (hs : GPs I p c F FP G GP es) : GPs I p c F FP G GP (.cons e es) := by
  intro b S z pe env cx
  rw [es_cons]; simp only [evPs]
  refine Sm.step (h b S z pe env cx) fun v d S1 z1 ex w r => ?_
  refine Sm.step (hs b S1 z1 pe env (cx.mono ex w)) fun v2 d2 S2 z2 ex2 w2 r2 => ?_
  exact .ret w2 (.cons (r.mono ex2) r2)
theorem gks_nil : GKs I p c F FP G GP .nil := by
  intro b S z pe env cx
  rw [es_nil]; simp only [evKs]; exact .ret cx.w .nil
theorem gks_cons (h : GK I p c F FP G GP e) (hs : GKs I p c F FP G GP es) : GKs I p c F FP G GP (.cons e es) := by
  intro b S z pe env cx
  rw [es_cons]; simp only [evKs]
  refine Sm.step (h b S z pe env cx) fun v d S1 z1 ex w r => ?_
  refine Sm.step (hs b S1 z1 pe env (cx.mono ex w)) fun v2 d2 S2 z2 ex2 w2 r2 => ?_
  exact .ret w2 (.cons (r.1.mono ex2) r2)
theorem gop_none : GOp I p c F FP G GP .none := by
  intro b S z pe env cx
  rw [o_none]; simp only [evOP]; exact .ret cx.w rfl
theorem gop_some (h : GU I p c F FP G GP e) : GOp I p c F FP G GP (.some e) := by
  intro b S z pe env cx
  rw [o_some]; simp only [evOP]
  refine Sm.step (h b S z pe env cx) fun v d S1 z1 ex w r => ?_
  split
  · cases r; exact .ret w rfl
  · exact .no
theorem gts_none : GTst I p c F FP G GP .none := by
  intro b S z pe env cx
  rw [ts_none]; simp only [tsP]; exact .ret cx.w rfl
theorem gts_some (h : GK I p c F FP G GP e) : GTst I p c F FP G GP (.some e) := by
  intro b S z pe env cx
  rw [ts_some]; simp only [tsP]
  refine Sm.step (h b S z pe env cx) fun v d S1 z1 ex w r => ?_
  cases q : truP v with
  | none => exact .no
  | some t => rw [r.1.truth w q]; exact .ret w rfl
theorem ga_name {i : Nat} : GA I p c F FP G GP (.name i) := by
  intro b S z pe env v d cx r
  rw [t_name]; simp only [asP]
  exact .ret cx.w (cx.r.share r)
theorem ga_sub {a i : E} : GA I p c F FP G GP (.sub a i) := by
  intro b S z pe env v d cx r
  simp only [asP]; exact .no
theorem ga_tup {ts : Tgs} (h : GAs I p c F FP G GP ts) : GA I p c F FP G GP (.tup ts) := by
  intro b S z pe env v d cx r
  rw [t_tup]; simp only [asP]
  split
  · cases r with | tup r => exact h b S z pe env _ _ cx r
  · exact .no
theorem gas_nil : GAs I p c F FP G GP .nil := by
  intro b S z pe env v d cx r
  cases r with
  | nil => simp only [asPs]; exact .ret cx.w cx.r
  | cons _ _ => simp only [asPs]; exact .no
theorem gas_cons {t : Tg} {ts : Tgs} (h : GA I p c F FP G GP t) (hs : GAs I p c F FP G GP ts) : GAs I p c F FP G GP (.cons t ts) := by
  intro b S z pe env v d cx r
  cases r with
  | nil => simp only [asPs]; exact .no
  | cons q r =>
    simp only [asPs]
    show Sm I p c _ _ _ _ ((asT F G t _ env S).bind fun env1 S1 => asTs F G ts _ env1 S1) _
    refine Sm.step (h b S z pe env _ _ cx q) fun pe1 env1 S1 z1 ex w r1 => ?_
    exact hs b S1 z1 pe1 env1 _ _ ⟨w, Nat.le_trans cx.hb ex.len, r1⟩ (r.mono ex)
end
end Wk

set_option Elab.async false
set_option linter.all false
set_option maxRecDepth 100000
set_option maxHeartbeats 4000000
namespace Wk
open PySem PySem.Spec PyProof.Rows L2
section
variable {I : Sto → Nat → Nat → Nat → Prop} {p c : Nat} {F : Orc} {FP : POrc} {G : Shp} {GP : PShp} {fr : Nat → Bool}
theorem rps_zipIdx {S : Sto} {z : Nat → Prop} : ∀ {vs : List P} {ds : List D} {n : Nat}, Rps p S z vs ds → Rps p S z ((vs.zipIdx n).map fun q => P.tup [.int (q.2 : Nat), q.1]) ((ds.zipIdx n).map fun q => D.tup [.int (q.2 : Nat), q.1])
  | _, _, _, .nil => .nil
  | _, _, n, .cons q r => .cons (.tup (.cons (.int _) (.cons q .nil))) (rps_zipIdx (n := n + 1) r)
theorem rps_zip {S : Sto} {z : Nat → Prop} : ∀ {vs ws : List P} {ds es : List D}, Rps p S z vs ds → Rps p S z ws es → Rps p S z ((vs.zip ws).map fun q => P.tup [q.1, q.2]) ((ds.zip es).map fun q => D.tup [q.1, q.2])
  | _, _, _, _, .nil, _ => .nil
  | _, _, _, _, .cons _ _, .nil => .nil
  | _, _, _, _, .cons q r, .cons q2 r2 => .cons (.tup (.cons q (.cons q2 .nil))) (rps_zip r r2)
theorem keep_ex {S S' : Sto} {z z' : Nat → Prop} {l : Nat} {ds : List D} (hp : l ≠ p) (h : S[l]? = some (.lst ds)) (x : Ex p S.length S z S' z') : items S' (.loc l) = some ds := by
  by_cases q : z l
  · exact it_lst ((x.frz l q).2.trans h)
  · exact it_lst ((x.own l (get_lt h) hp q).2.trans h)
theorem keep_fz {S S' : Sto} {z z' : Nat → Prop} {l b : Nat} {ds : List D} (hz : z l) (h : S[l]? = some (.lst ds)) (x : Ex p b S z S' z') : items S' (.loc l) = some ds :=
  it_lst ((x.frz l hz).2.trans h)
theorem rs_true {pe : PEnv} {S : Sto} {z : Nat → Prop} {vs : List P} {ds : List D} (r : Rps p S z vs ds) : RS p pe S z vs ⟨ds, fun _ => True⟩ := ⟨r, fun _ _ _ => trivial, fun _ _ _ _ _ => trivial⟩
variable (O : Orcs I p c F FP G GP fr)
include O
variable {a b e : E}
theorem gip_seq (ha : GK I p c F FP G GP a) : GIt I p c F FP G GP (.seq a) := by
  intro b0 S z pe env cx
  rw [i_seq]; simp only [evIP]
  refine Sm.step (ha b0 S z pe env cx) fun v d S1 z1 ex w r => ?_
  split
  · cases r.1.str; exact .ret w (rs_true (Rps.map fun ch => .str _))
  · obtain ⟨ds, rfl, q⟩ := r.1.tupv; exact .ret w (rs_true q)
  · obtain ⟨l, ds, rfl, hp, g, q⟩ := r.1.lstv w
    have e1 : scase (.loc l) S1 = .ok ⟨ds, fun S => items S (.loc l) = some ds⟩ S1 := by simp only [scase, items_lst g]
    rw [e1]
    refine .ret w ⟨q, fun S' z' x => keep_ex hp g x, fun no b S' z' x => ?_⟩
    cases r.2 no with | lst h1 h2 h3 => exact keep_fz h1 g x
  · exact .no
theorem gip_rng1 (ha : GU I p c F FP G GP a) : GIt I p c F FP G GP (.rng1 a) := by
  intro b0 S z pe env cx
  rw [i_rng1]; simp only [evIP]
  refine Sm.step (ha b0 S z pe env cx) fun v d S1 z1 ex w r => ?_
  split
  · rename_i j
    cases r
    by_cases g : -(2 ^ 62) ≤ j ∧ j < 2 ^ 62
    · rw [if_pos g]; show Sm _ _ _ _ _ _ _ (if _ then _ else _) _; rw [if_pos g]; exact .ret w (rs_true (Rps.map fun k => .int _))
    · rw [if_neg g]; exact .no
  · exact .no
theorem gip_rng2 (ha : GU I p c F FP G GP a) (hb : GU I p c F FP G GP b) : GIt I p c F FP G GP (.rng2 a b) := by
  intro b0 S z pe env cx
  rw [i_rng2]; simp only [evIP]
  refine Sm.step (ha b0 S z pe env cx) fun v d S1 z1 ex w r => ?_
  refine Sm.step (hb b0 S1 z1 pe env (cx.mono ex w)) fun v2 d2 S2 z2 ex2 w2 r2 => ?_
  split
  · rename_i i j
    cases r; cases r2
    by_cases g : -(2 ^ 62) ≤ i ∧ i < 2 ^ 62 ∧ -(2 ^ 62) ≤ j ∧ j < 2 ^ 62
    · rw [if_pos g]; show Sm _ _ _ _ _ _ _ (if _ then _ else _) _; rw [if_pos g]; exact .ret w2 (rs_true (Rps.map fun k => .int _))
    · rw [if_neg g]; exact .no
  · exact .no
def rng3op (x y z : D) (S : Sto) : Res Src := match x, y, z with
  | .int i, .int j, .int k => if -(2 ^ 62) ≤ i ∧ i < 2 ^ 62 ∧ -(2 ^ 62) ≤ j ∧ j < 2 ^ 62 ∧ k = -1 then .ok ⟨(List.range (i - j).toNat).map fun m => .int (i - (m : Nat)), fun _ => True⟩ S else .no
  | _, _, _ => .no
theorem gip_rng3 (ha : GU I p c F FP G GP a) (hb : GU I p c F FP G GP b) (he : GU I p c F FP G GP e) : GIt I p c F FP G GP (.rng3 a b e) := by
  intro b0 S z pe env cx
  show Sm I p c S.length S z _ ((evE F G a env S).bind fun x S1 => (evE F G b env S1).bind fun y S2 => (evE F G e env S2).bind fun z S3 => rng3op x y z S3) _
  simp only [evIP]
  refine Sm.step (ha b0 S z pe env cx) fun v d S1 z1 ex w r => ?_
  refine Sm.step (hb b0 S1 z1 pe env (cx.mono ex w)) fun v2 d2 S2 z2 ex2 w2 r2 => ?_
  refine Sm.step (he b0 S2 z2 pe env ((cx.mono ex w).mono ex2 w2)) fun v3 d3 S3 z3 ex3 w3 r3 => ?_
  split
  · rename_i i j k
    cases r; cases r2; cases r3
    by_cases g : -(2 ^ 62) ≤ i ∧ i < 2 ^ 62 ∧ -(2 ^ 62) ≤ j ∧ j < 2 ^ 62 ∧ k = -1
    · rw [if_pos g]; show Sm _ _ _ _ _ _ _ (if _ then _ else _) _; rw [if_pos g]; exact .ret w3 (rs_true (Rps.map fun k => .int _))
    · rw [if_neg g]; exact .no
  · exact .no
def enumop (x : D) (S1 : Sto) : Res Src := match x with
    | .tup ds => .ok ⟨ds.zipIdx.map fun p => .tup [.int (p.2 : Nat), p.1], fun _ => True⟩ S1
    | .str z => .ok ⟨z.cps.toList.zipIdx.map fun p => .tup [.int (p.2 : Nat), .str ⟨#[p.1]⟩], fun _ => True⟩ S1
    | .loc l => match items S1 (.loc l) with
      | some ds => .ok ⟨ds.zipIdx.map fun p => .tup [.int (p.2 : Nat), p.1], fun S => items S (.loc l) = some ds⟩ S1
      | none => .no
    | _ => .no
theorem gip_enum (ha : GK I p c F FP G GP a) : GIt I p c F FP G GP (.enum a) := by
  intro b0 S z pe env cx
  show Sm I p c S.length S z _ ((evE F G a env S).bind fun x S1 => enumop x S1) _
  simp only [evIP]
  refine Sm.step (ha b0 S z pe env cx) fun v d S1 z1 ex w r => ?_
  split
  · obtain ⟨ds, rfl, q⟩ := r.1.tupv; exact .ret w (rs_true (rps_zipIdx q))
  · cases r.1.str; exact .ret w (rs_true (Rps.map fun ch => .tup (.cons (.int _) (.cons (.str _) .nil))))
  · obtain ⟨l, ds, rfl, hp, g, q⟩ := r.1.lstv w
    have e1 : enumop (.loc l) S1 = .ok ⟨ds.zipIdx.map fun p => .tup [.int (p.2 : Nat), p.1], fun S => items S (.loc l) = some ds⟩ S1 := by simp only [enumop, items_lst g]
    rw [e1]
    refine .ret w ⟨rps_zipIdx q, fun S' z' x => keep_ex hp g x, fun no b S' z' x => ?_⟩
    cases r.2 no with | lst h1 h2 h3 => exact keep_fz h1 g x
  · exact .no
def zipop (x y : D) (S2 : Sto) : Res Src := match x, y with
    | .tup ds, .tup es => .ok ⟨(ds.zip es).map fun p => .tup [p.1, p.2], fun _ => True⟩ S2
    | .loc l, .loc m => match items S2 (.loc l), items S2 (.loc m) with
      | some ds, some es => .ok ⟨(ds.zip es).map fun p => .tup [p.1, p.2], fun S => items S (.loc l) = some ds ∧ items S (.loc m) = some es⟩ S2
      | _, _ => .no
    | _, _ => .no
theorem gip_zip (ha : GK I p c F FP G GP a) (hb : GK I p c F FP G GP b) : GIt I p c F FP G GP (.zip a b) := by
  intro b0 S z pe env cx
  show Sm I p c S.length S z _ ((evE F G a env S).bind fun x S1 => (evE F G b env S1).bind fun y S2 => zipop x y S2) _
  simp only [evIP]
  refine Sm.step (ha b0 S z pe env cx) fun v d S1 z1 ex w r => ?_
  refine Sm.step (hb b0 S1 z1 pe env (cx.mono ex w)) fun v2 d2 S2 z2 ex2 w2 r2 => ?_
  split
  · obtain ⟨ds, rfl, q⟩ := r.1.tupv
    obtain ⟨es, rfl, q2⟩ := r2.1.tupv
    exact .ret w2 (rs_true (rps_zip (q.mono ex2) q2))
  · obtain ⟨l, ds, rfl, hp, g, q⟩ := (r.1.mono ex2).lstv w2
    obtain ⟨m, es, rfl, hp2, g2, q2⟩ := r2.1.lstv w2
    have e1 : zipop (.loc l) (.loc m) S2 = .ok ⟨(ds.zip es).map fun p => .tup [p.1, p.2], fun S => items S (.loc l) = some ds ∧ items S (.loc m) = some es⟩ S2 := by simp only [zipop, items_lst g, items_lst g2]
    rw [e1]
    refine .ret w2 ⟨rps_zip q q2, fun S' z' x => ⟨keep_ex hp g x, keep_ex hp2 g2 x⟩, fun no b S' z' x => ?_⟩
    cases (r.2 no).mono ex2 with | lst h1 h2 h3 =>
    cases r2.2 no with | lst h4 h5 h6 => exact ⟨keep_fz h1 g x, keep_fz h4 g2 x⟩
  · exact .no
/-! ### comprehensions -/
theorem lc_sim {t : Tg} {co : Oe} {own : List Nat} (ht : GA I p c F FP G GP t) (hc : GTst I p c F FP G GP co) (he : GU I p c F FP G GP e)
    {b0 : Nat} {S0 : Sto} {z0 : Nat → Prop} {pe : PEnv} {env : Env} (cx0 : Cxt p c b0 S0 z0 pe env) {keep : Sto → Prop} (hk : ∀ S' z', Ex p S0.length S0 z0 S' z' → keep S') :
    ∀ (xs acc : List P) (ds as : List D) (S : Sto) (z : Nat → Prop), Ex p S0.length S0 z0 S z → WOk p c S z → Rps p S z xs ds → Rps p S z acc as →
      Sm I p c S.length S z (fun S' z' v d => Rps p S' z' v d) (lcGo (lcBody F G own t co e env) keep as ds S) (lcP (fun x => (asP FP GP t x (wipeP pe own)).bind fun env2 => (tsP FP GP co env2).bind fun b => if b then (evP FP GP e env2).bind fun y => .ret (some y) else .ret none) acc xs) := by
  intro xs
  induction xs with
  | nil =>
    intro acc ds as S z ex w r ra
    cases r
    unfold lcGo
    rw [if_pos (hk S z ex)]
    exact .ret w ra
  | cons x xs ih =>
    intro acc ds as S z ex w r ra
    cases r with
    | @cons _ d _ ds q r =>
    unfold lcGo lcP
    rw [if_pos (hk S z ex)]
    have cx := cx0.mono ex w
    have cx : Cxt p c b0 S z (wipeP pe own) (wipeE env own) := ⟨cx.w, cx.hb, cx.r.wipe own⟩
    have body : Sm I p c S.length S z (fun S' z' (o : Option P) (o' : Option D) => match o, o' with | some y, some d => Rp p S' z' y d | none, none => True | _, _ => False)
        (lcBody F G own t co e env d S) ((asP FP GP t x (wipeP pe own)).bind fun env2 => (tsP FP GP co env2).bind fun b => if b then (evP FP GP e env2).bind fun y => .ret (some y) else .ret none) := by
      unfold lcBody
      refine Sm.step (ht b0 S z _ _ x d cx q) fun pe2 env2 S1 z1 ex1 w1 r1 => ?_
      have cx1 : Cxt p c b0 S1 z1 pe2 env2 := ⟨w1, Nat.le_trans cx.hb ex1.len, r1⟩
      refine Sm.step (hc b0 S1 z1 pe2 env2 cx1) fun b b' S2 z2 ex2 w2 r2 => ?_
      subst r2
      cases b with
      | false => exact .ret w2 trivial
      | true =>
        refine Sm.step (he b0 S2 z2 pe2 env2 (cx1.mono ex2 w2)) fun v3 d3 S3 z3 ex3 w3 r3 => ?_
        exact .ret w3 r3
    refine Sm.step body fun o o' S1 z1 ex1 w1 r1 => ?_
    have ex01 : Ex p S0.length S0 z0 S1 z1 := ex.trans (ex1.weak ex.len)
    cases o with
    | none =>
      cases o' with
      | none => exact ih acc ds as S1 z1 ex01 w1 (r.mono ex1) (ra.mono ex1)
      | some _ => exact r1.elim
    | some y =>
      cases o' with
      | none => exact r1.elim
      | some d1 =>
        show Sm _ _ _ _ _ _ _ (if _ then _ else _) (if _ then _ else _)
        by_cases g : acc.length < sizeLine
        · rw [if_pos g, if_pos (ra.length ▸ g)]
          exact ih _ ds _ S1 z1 ex01 w1 (r.mono ex1) ((ra.mono ex1).append (.one r1))
        · rw [if_neg g]; exact .no
theorem gv_lc {t : Tg} {it : It} {co : Oe} {own : List Nat} (hi : GIt I p c F FP G GP it) (ht : GA I p c F FP G GP t) (hc : GTst I p c F FP G GP co) (he : GU I p c F FP G GP e) : GV I p c F FP G GP fr (.lc own t it co e) := by
  intro b0 S z pe env cx
  rw [e_lc]; simp only [evP]
  refine Sm.step (hi b0 S z pe env cx) fun vs src S1 z1 ex w r => ?_
  have cx1 := cx.mono ex w
  refine Sm.step (lc_sim O ht hc he cx1 r.2.1 vs [] src.items [] S1 z1 .refl w r.1 .nil) fun ys es S2 z2 ex2 w2 r2 => ?_
  exact .alloc O.pen w2 ((Ro.new w2 r2).weak (Nat.le_trans ex.len ex2.len))
mutual
theorem simE : ∀ e : E, GV I p c F FP G GP fr e
  | .var i => gv_var O
  | .int i => gv_lit O (fun _ _ => rfl) (fun _ => by simp only [evP]) rfl fun _ _ _ => .int i
  | .str x => gv_lit O (fun _ _ => rfl) (fun _ => by simp only [evP]) rfl fun _ _ _ => .str x
  | .bl b => gv_lit O (fun _ _ => rfl) (fun _ => by simp only [evP]) rfl fun _ _ _ => .bl b
  | .non => gv_lit O (fun _ _ => rfl) (fun _ => by simp only [evP]) rfl fun _ _ _ => .non
  | .glob i => gv_glob O
  | .tup es => gv_tup O (simPs es)
  | .lst es => gv_lst O (simPs es)
  | .dic ks es => gv_dic O (simPs es)
  | .bin op a b => gv_bin O ((GV.u O (simE a)).k O) ((GV.u O (simE b)).k O)
  | .neg a => gv_neg O ((GV.u O (simE a)).k O)
  | .not a => gv_not O ((GV.u O (simE a)).k O)
  | .cmp op a b => gv_cmp O ((GV.u O (simE a)).k O) ((GV.u O (simE b)).k O)
  | .chain o1 o2 a b e => gv_chain O ((GV.u O (simE a)).k O) ((GV.u O (simE b)).k O) ((GV.u O (simE e)).k O)
  | .and es => fun _ _ _ _ _ cx => simAnd es cx
  | .or es => fun _ _ _ _ _ cx => simOr es cx
  | .ite e a b => gv_ite O ((GV.u O (simE e)).k O) (simE a) (simE b)
  | .call f es => gv_call O (simPs es)
  | .callK f h es ks => gv_callK O (simPs es) (simPs ks)
  | .blt f es => gv_blt O (simKs es)
  | .isi a t => gv_isi O ((GV.u O (simE a)).k O)
  | .idx a i => gv_idx O ((GV.u O (simE a)).k O) ((GV.u O (simE i)).k O)
  | .slc a lo hi => gv_slc O ((GV.u O (simE a)).k O) (simO lo) (simO hi)
  | .rev a => gv_rev O ((GV.u O (simE a)).k O)
  | .mth m a es => gv_mth O ((GV.u O (simE a)).k O) (simKs es)
  | .lc own t it co e => gv_lc O (simI it) (simT t) (simC co) (GV.u O (simE e))
  | .lrg1 tp a => gv_lrg1 O ((GV.u O (simE a)).k O)
  | .lrg2 tp a b => gv_lrg2 O ((GV.u O (simE a)).k O) ((GV.u O (simE b)).k O)
theorem simAnd : ∀ (es : Es) {b : Nat} {S : Sto} {z : Nat → Prop} {pe : PEnv} {env : Env}, Cxt p c b S z pe env → Sm I p c S.length S z (fun S' z' v d => Rp p S' z' v d) (evAnd F G es env S) (evAndP FP GP es pe)
  | .nil, _, _, _, _, _, _ => by simp only [evAndP]; exact .no
  | .cons e .nil, _, _, _, _, _, cx => gand_1 O (GV.u O (simE e)) cx
  | .cons e (.cons e2 es), _, _, _, _, _, cx => gand_2 O (GV.u O (simE e)) (fun _ _ _ _ _ cx => simAnd (.cons e2 es) cx) cx
theorem simOr : ∀ (es : Es) {b : Nat} {S : Sto} {z : Nat → Prop} {pe : PEnv} {env : Env}, Cxt p c b S z pe env → Sm I p c S.length S z (fun S' z' v d => Rp p S' z' v d) (evOr F G es env S) (evOrP FP GP es pe)
  | .nil, _, _, _, _, _, _ => by simp only [evOrP]; exact .no
  | .cons e .nil, _, _, _, _, _, cx => gor_1 O (GV.u O (simE e)) cx
  | .cons e (.cons e2 es), _, _, _, _, _, cx => gor_2 O (GV.u O (simE e)) (fun _ _ _ _ _ cx => simOr (.cons e2 es) cx) cx
theorem simPs : ∀ es : Es, GPs I p c F FP G GP es
  | .nil => gps_nil O
  | .cons e es => gps_cons O (GV.u O (simE e)) (simPs es)
theorem simKs : ∀ es : Es, GKs I p c F FP G GP es
  | .nil => gks_nil O
  | .cons e es => gks_cons O ((GV.u O (simE e)).k O) (simKs es)
theorem simO : ∀ o : Oe, GOp I p c F FP G GP o
  | .none => gop_none O
  | .some e => gop_some O (GV.u O (simE e))
theorem simC : ∀ o : Oe, GTst I p c F FP G GP o
  | .none => gts_none O
  | .some e => gts_some O ((GV.u O (simE e)).k O)
theorem simI : ∀ it : It, GIt I p c F FP G GP it
  | .seq e => gip_seq O ((GV.u O (simE e)).k O)
  | .rng1 a => gip_rng1 O (GV.u O (simE a))
  | .rng2 a b => gip_rng2 O (GV.u O (simE a)) (GV.u O (simE b))
  | .rng3 a b e => gip_rng3 O (GV.u O (simE a)) (GV.u O (simE b)) (GV.u O (simE e))
  | .enum e => gip_enum O ((GV.u O (simE e)).k O)
  | .zip a b => gip_zip O ((GV.u O (simE a)).k O) ((GV.u O (simE b)).k O)
theorem simT : ∀ t : Tg, GA I p c F FP G GP t
  | .name i => ga_name O
  | .tup ts => ga_tup O (simTs ts)
  | .sub a i => ga_sub O
theorem simTs : ∀ ts : Tgs, GAs I p c F FP G GP ts
  | .nil => gas_nil O
  | .cons t ts => gas_cons O (simT t) (simTs ts)
end
end
end Wk

set_option Elab.async false
set_option linter.all false
set_option maxRecDepth 100000
set_option maxHeartbeats 4000000
namespace Wk
open PySem PySem.Spec PyProof.Rows L2
section
variable {p c b : Nat} {S S' S1 : Sto} {z z' z1 : Nat → Prop} {pe : PEnv} {env : Env} {v : P} {d : D}
theorem Ro.lt {l : Nat} (h : Ro p b S z v (.loc l)) : l < S.length := by
  cases h with
  | lst _ _ _ g _ => exact get_lt g
  | dic _ _ _ g _ _ => exact get_lt g
theorem Ro.ge {l : Nat} (h : Ro p b S z v (.loc l)) : b ≤ l := by
  cases h with
  | lst g _ _ _ _ => exact g
  | dic g _ _ _ _ _ => exact g
theorem Ro.nz {l : Nat} (h : Ro p b S z v (.loc l)) : ¬ z l := by
  cases h with
  | lst _ _ g _ _ => exact g
  | dic _ _ g _ _ _ => exact g
theorem Ro.np {l : Nat} (h : Ro p b S z v (.loc l)) : l ≠ p := by
  cases h with
  | lst _ g _ _ _ => exact g
  | dic _ g _ _ _ _ => exact g
/-- one's own lists but for that at l stay when l is made anybody's -/
theorem Ro.addZ {l : Nat} (hl : b ≤ l) (h : Ro p b S z v d) (hd : d ≠ .loc l) : Ro p b S (addZ z l) v d := by
  have ex : Ex p b S z S (Wk.addZ z l) := .addZ hl
  cases h with
  | non => exact .non
  | bl c => exact .bl c
  | int i => exact .int i
  | str s => exact .str s
  | tup h => exact .tup (h.mono ex)
  | lst h0 h1 hz h2 h3 => exact .lst h0 h1 (fun q => q.elim hz fun e => hd (by rw [e])) h2 (h3.mono ex)
  | dic h0 h1 hz h2 h3 h4 => exact .dic h0 h1 (fun q => q.elim hz fun e => hd (by rw [e])) h2 h3 (h4.mono ex)
/-- .. when the list at l is changed -/
theorem Ex.chg {l : Nat} {o : O} (hb : b ≤ l) (hz : ¬ z l) : Ex p b S z (S.set l o) z :=
  ⟨by simp, fun k h => ⟨h, List.getElem?_set_ne (fun e => hz (by rw [e]; exact h))⟩, fun k hk _ h => ⟨h, List.getElem?_set_ne (by omega)⟩⟩
theorem Ro.chg {l : Nat} {o : O} (hl : b ≤ l) (hz : ¬ z l) (h : Ro p b S z v d) (hd : d ≠ .loc l) : Ro p b (S.set l o) z v d := by
  have ex : Ex p b S z (S.set l o) z := .chg hl hz
  cases h with
  | non => exact .non
  | bl c => exact .bl c
  | int i => exact .int i
  | str s => exact .str s
  | tup h => exact .tup (h.mono ex)
  | lst h0 h1 hz h2 h3 => exact .lst h0 h1 hz (by rw [List.getElem?_set_ne (fun e => hd (by rw [e]))]; exact h2) (h3.mono ex)
  | dic h0 h1 hz h2 h3 h4 => exact .dic h0 h1 hz (by rw [List.getElem?_set_ne (fun e => hd (by rw [e]))]; exact h2) h3 (h4.mono ex)
theorem RelE.frz {i : Nat} (w : WOk p c S z) (h : RelE p b S z pe env) (e : pe[i]? = some (some (v, true))) : ∃ z', Ex p b S z S z' ∧ WOk p c S z' ∧ RelE p b S z' (pe.set i (some (v, false))) env ∧ ∃ d, env[i]? = some (some d) ∧ Rp p S z' v d := by
  obtain ⟨d, e1, _, h2⟩ := h.slot i v true e
  have ro := h2 rfl
  obtain ⟨z2, ex, wo, rp, hz⟩ := ro.frz w
  refine ⟨z2, ex, wo, ⟨by simp [h.len], fun j u o q => ?_, fun j k u u' l ne q1 q2 e3 e4 => ?_⟩, d, e1, rp⟩
  · rcases set_cases q with ⟨rfl, q3⟩ | ⟨ne, q⟩
    · cases q3; exact ⟨d, e1, fun _ => rp, fun q => nomatch q⟩
    · obtain ⟨d', e', g1, g2⟩ := h.slot j u o q
      refine ⟨d', e', fun q => (g1 q).mono ex, fun q' => ?_⟩
      subst q'
      have ro' := g2 rfl
      cases ro' with
      | non => exact .non
      | bl c => exact .bl c
      | int i => exact .int i
      | str s => exact .str s
      | tup h => exact .tup (h.mono ex)
      | @lst _ _ l h0 h1 hz' h2 h3 =>
        exact .lst h0 h1 (fun q' => (hz _ q').elim hz' fun q' => h.dist i j v _ l ne e q (by rw [e1, q']) e') h2 (h3.mono ex)
      | @dic _ _ _ l h0 h1 hz' h2 h3 h4 =>
        exact .dic h0 h1 (fun q' => (hz _ q').elim hz' fun q' => h.dist i j v _ l ne e q (by rw [e1, q']) e') h2 h3 (h4.mono ex)
  · rcases set_cases q1 with ⟨rfl, q⟩ | ⟨n1, q1⟩
    · cases q
    rcases set_cases q2 with ⟨rfl, q⟩ | ⟨n2, q2⟩
    · cases q
    exact h.dist j k u u' l ne q1 q2 e3 e4
theorem RelE.chg {i l : Nat} {vs ws : List P} {es : List D} (w : WOk p c S z) (h : RelE p b S z pe env) (e : pe[i]? = some (some (.lst vs, true))) (e1 : env[i]? = some (some (.loc l))) (r : Rps p S z ws es) :
    Ex p b S z (S.set l (.lst es)) z ∧ WOk p c (S.set l (.lst es)) z ∧ RelE p b (S.set l (.lst es)) z (pe.set i (some (.lst ws, true))) env := by
  obtain ⟨d, e1', _, h2⟩ := h.slot i _ true e
  rw [e1] at e1'; cases e1'
  have ro := h2 rfl
  have ex : Ex p b S z (S.set l (.lst es)) z := .chg ro.ge ro.nz
  refine ⟨ex, ⟨w.pen, w.cel, fun k hk => by rw [List.length_set]; exact w.lt k hk, by rw [List.length_set]; exact w.pl⟩, ⟨by simp [h.len], fun j u o q => ?_, fun j k u u' m ne q1 q2 e3 e4 => ?_⟩⟩
  · rcases set_cases q with ⟨rfl, q3⟩ | ⟨ne, q⟩
    · cases q3; exact ⟨_, e1, (fun q => nomatch q), fun _ => .lst ro.ge ro.np ro.nz (set_lt ro.lt) (r.mono ex)⟩
    · obtain ⟨d', e', g1, g2⟩ := h.slot j u o q
      refine ⟨d', e', fun q => (g1 q).mono ex, fun q' => ?_⟩
      subst q'
      exact (g2 rfl).chg ro.ge ro.nz fun z => h.dist i j _ u l ne e q e1 (by rw [e', z])
  · have old : ∀ {j : Nat} {u : P}, (pe.set i (some (P.lst ws, true)))[j]? = some (some (u, true)) → ∃ u', pe[j]? = some (some (u', true)) := fun {j u} q => by
      rcases set_cases q with ⟨rfl, _⟩ | ⟨_, q⟩
      · exact ⟨_, e⟩
      · exact ⟨_, q⟩
    obtain ⟨x1, q1⟩ := old q1
    obtain ⟨x2, q2⟩ := old q2
    exact h.dist j k _ _ m ne q1 q2 e3 e4
end
def RFl (p b : Nat) (q : Bool) (S : Sto) (z : Nat → Prop) : PFl → Fl → Prop
  | .nx pe, .nx env => RelE p b S z pe env
  | .rt v, .rt d => Rf p q b S z v d
  | _, _ => False
section
variable {I : Sto → Nat → Nat → Nat → Prop} {p c : Nat} {F : Orc} {FP : POrc} {G : Shp} {GP : PShp} {fr : Nat → Bool}
section
variable {b b0 : Nat} {S S' : Sto} {z z' : Nat → Prop} {α β α' β' : Type} {R : Sto → (Nat → Prop) → α → β → Prop} {R2 : Sto → (Nat → Prop) → α' → β' → Prop} {w : Res β} {x : Cm α}
theorem Sm.stepE {k : β → Sto → Res β'} {f : α → Cm α'} (hb : b ≤ S.length) (h : Sm I p c S.length S z R w x)
    (hk : ∀ v d S1 z1, Ex p S.length S z S1 z1 → WOk p c S1 z1 → R S1 z1 v d → Sm I p c b S1 z1 R2 (k d S1) (f v)) : Sm I p c b S z R2 (w.bind k) (x.bind f) := by
  intro t Q i q
  rw [ok_bind] at q
  obtain ⟨d, S1, z1, v, t1, e, ex, wo, r, i1, q1⟩ := h t _ i q
  obtain ⟨d2, S2, z2, v2, t2, e2, ex2, wo2, r2, i2, q2⟩ := hk v d S1 z1 ex wo r t1 Q i1 q1
  exact ⟨d2, S2, z2, v2, t2, by rw [e]; exact e2, (ex.weak hb).trans ex2, wo2, r2, i2, q2⟩
end
def GPc (I : Sto → Nat → Nat → Nat → Prop) (p c : Nat) (F : Orc) (FP : POrc) (G : Shp) (GP : PShp) (fr : Nat → Bool) (s : PC) : Prop := ∀ (q : Bool), (q = true → frC fr s = true) → ∀ (b : Nat) (S : Sto) (z : Nat → Prop) (pe : PEnv) (env : Env), Cxt p c b S z pe env →
  match erC s with
  | some d => Sm I p c b S z (RFl p b q) (exC F G d env S) (exP FP GP fr s pe)
  | none => Sm I p c b S z (RFl p b q) (.ok (.nx env) S) (exP FP GP fr s pe)
def GPcs (I : Sto → Nat → Nat → Nat → Prop) (p c : Nat) (F : Orc) (FP : POrc) (G : Shp) (GP : PShp) (fr : Nat → Bool) (s : List PC) : Prop := ∀ (q : Bool), (q = true → frCs fr s = true) → ∀ (b : Nat) (S : Sto) (z : Nat → Prop) (pe : PEnv) (env : Env), Cxt p c b S z pe env →
  Sm I p c b S z (RFl p b q) (exCs F G (erCs s) env S) (exPs FP GP fr s pe)
variable (O : Orcs I p c F FP G GP fr)
include O
variable {e : E}
theorem U (e : E) : GU I p c F FP G GP e := GV.u O (simE O e)
theorem Kk (e : E) : GK I p c F FP G GP e := (U O e).k O
theorem gc_asg {t : Tg} : GPc I p c F FP G GP fr (.asg t e) := by
  intro q hq b S z pe env cx
  show Sm I p c b S z (RFl p b q) (exC F G (.asg t e) env S) _
  rw [c_asg]; simp only [exP]
  refine Sm.stepE cx.hb (U O e b S z pe env cx) fun v d S1 z1 ex w r => ?_
  have cx1 := cx.mono ex w
  refine Sm.stepE cx1.hb (simT O t b S1 z1 pe env v d cx1 r) fun pe1 env1 S2 z2 ex2 w2 r2 => ?_
  exact .ret w2 r2
theorem gc_new {i : Nat} : GPc I p c F FP G GP fr (.new i e) := by
  intro q hq b S z pe env cx
  show Sm I p c b S z (RFl p b q) (exC F G (.asg (.name i) e) env S) _
  rw [c_asg]; simp only [exP]
  cases hf : frE fr e with
  | false => exact .no
  | true =>
    have h := simE O e b S z pe env cx
    rw [hf] at h
    refine Sm.stepE cx.hb h fun v d S1 z1 ex w r => ?_
    have r : Ro p S.length S1 z1 v d := r
    rw [t_name]
    refine .ret w ((cx.r.mono ex).own (r.weak cx.hb) fun j u l ne e1 e2 e3 => ?_)
    subst e3
    obtain ⟨d', e', _, g⟩ := cx.r.slot j u true e1
    rw [e2] at e'; cases e'
    have := (g rfl).lt
    have := r.ge
    omega
theorem gc_par {i j : Nat} {a b : E} : GPc I p c F FP G GP fr (.par i j a b) := by
  intro q hq b0 S z pe env cx
  show Sm I p c b0 S z (RFl p b0 q) (exC F G (.par i j a b) env S) _
  rw [c_par]; simp only [exP]
  refine Sm.stepE cx.hb (U O a b0 S z pe env cx) fun v d S1 z1 ex w r => ?_
  have cx1 := cx.mono ex w
  refine Sm.stepE cx1.hb (U O b b0 S1 z1 pe env cx1) fun v2 d2 S2 z2 ex2 w2 r2 => ?_
  exact .ret w2 ((((cx1.mono ex2 w2).r).share (r.mono ex2)).share r2)
theorem gc_aug {i : Nat} {op : BOp} : GPc I p c F FP G GP fr (.aug i op e) := by
  intro q hq b S z pe env cx
  show Sm I p c b S z (RFl p b q) (exC F G (.aug i op e) env S) _
  rw [c_aug]; simp only [exP]
  split
  · rename_i x hx
    obtain ⟨d0, e0, h1, _⟩ := cx.r.slot i x false hx
    have r0 := h1 rfl
    rw [e0, gcase_some]
    refine Sm.stepE cx.hb (U O e b S z pe env cx) fun v d S1 z1 ex w r => ?_
    have cx1 := cx.mono ex w
    have r1 := r0.mono ex
    have ha : augOk op d0 = augOkP op x := by cases r0 <;> cases op <;> rfl
    rw [ha]
    split
    · refine Sm.stepE cx1.hb (Sm.rr O.pen (q := true) (Op.fin O.pen w (Nat.le_refl _) (po_bin (op := op) w (.of r1) (.of r)))) fun v2 d2 S2 z2 ex2 w2 r2 => ?_
      exact .ret w2 ((cx1.mono ex2 w2).r.share r2)
    · exact .no
  · exact .no
theorem gc_expr : GPc I p c F FP G GP fr (.expr e) := by
  intro q hq b S z pe env cx
  show Sm I p c b S z (RFl p b q) (exC F G (.expr e) env S) _
  rw [c_expr]; simp only [exP]
  refine Sm.stepE cx.hb (U O e b S z pe env cx) fun v d S1 z1 ex w r => ?_
  exact .ret w (cx.mono ex w).r
omit O in
theorem chg_op {m : Mth} {vs as : List P} {ds es : List D} {S : Sto} {z : Nat → Prop} {l : Nat} {ws : List P} (g : S[l]? = some (.lst ds)) (r : Rps p S z vs ds) (r2 : Rps p S z as es) (h : chgP m vs as = .ret ws) :
    ∃ d ds', mthop m (.loc l) es S = .ok d (S.set l (.lst ds')) ∧ Rps p S z ws ds' := by
  have g' : lstAt S l = some ds := by unfold lstAt; rw [g]
  unfold chgP at h
  split at h
  · cases r2 with | cons q r2 => cases r2; split at h
                                 · rename_i hl
                                   cases h
                                   rw [r.length] at hl
                                   refine ⟨.non, _, ?_, r.append (.one q)⟩
                                   simp only [mthop, g']
                                   exact if_pos hl
                                 · cases h
  · cases r2 with | cons q r2 =>
    cases r2
    cases q with | lst h1 h2 h3 =>
    split at h
    · rename_i hl
      cases h
      rw [r.length, h3.length] at hl
      refine ⟨.non, _, ?_, r.append h3⟩
      rename_i k _ _ _ _
      have h2' : ∀ {k : Nat} {fs : List D}, S[k]? = some (.lst fs) → lstAt S k = some fs := fun h => by unfold lstAt; rw [h]
      simp only [mthop, g', h2' h2]
      exact if_pos hl
    · cases h
  · cases r2
    split at h
    · cases h
    · rename_i hl
      cases h
      have hd : ∃ x, ds.getLast? = some x := by
        cases r with
        | nil => exact absurd rfl hl
        | cons _ _ => exact ⟨_, List.getLast?_eq_some_getLast (by simp)⟩
      obtain ⟨x, hx⟩ := hd
      refine ⟨x, _, ?_, r.dropLast⟩
      simp only [mthop, g', hx]
  · cases r2; cases h
    refine ⟨.non, _, ?_, r.reverse⟩
    simp only [mthop, g']
  · cases r2; cases h
    refine ⟨.non, _, ?_, .nil⟩
    simp only [mthop, g']
  · cases r2 with | cons q r2 =>
    cases r2 with | cons q' r2 =>
    cases r2
    cases q
    split at h
    · rename_i hl
      cases h
      rw [r.length] at hl
      refine ⟨.non, _, ?_, (r.take.append (.one q')).append r.drop⟩
      simp only [mthop, g']
      exact if_pos hl
    · cases h
  · cases h
omit O in
theorem chgP_det {m : Mth} {vs as : List P} : chgP m vs as = .no ∨ ∃ r, chgP m vs as = .ret r := by
  unfold chgP
  split
  · split
    · exact .inr ⟨_, rfl⟩
    · exact .inl rfl
  · split
    · exact .inr ⟨_, rfl⟩
    · exact .inl rfl
  · split
    · exact .inl rfl
    · exact .inr ⟨_, rfl⟩
  · exact .inr ⟨_, rfl⟩
  · exact .inr ⟨_, rfl⟩
  · split
    · exact .inr ⟨_, rfl⟩
    · exact .inl rfl
  · exact .inl rfl
omit O in
theorem chgP_ty {m : Mth} {vs as ws : List P} {S : Sto} {l : Nat} {ds : List D} (g : S[l]? = some (.lst ds)) (h : chgP m vs as = .ret ws) : mthTy m (.loc l) S = true := by
  have gi : (items S (.loc l)).isSome = true := by rw [items_lst g]; rfl
  cases m <;> first | exact gi | cases h
theorem gc_chg {m : Mth} {i : Nat} {es : Es} : GPc I p c F FP G GP fr (.chg m i es) := by
  intro q hq b S z pe env cx
  show Sm I p c b S z (RFl p b q) (exC F G (.expr (.mth m (.var i) es)) env S) _
  rw [c_expr, e_mth, e_var]; simp only [exP]
  split
  · rename_i vs hx
    obtain ⟨d0, e0, _, h2⟩ := cx.r.slot i _ true hx
    cases h2 rfl with
    | @lst _ ds l h0 h1 hz g r0 =>
    rw [e0, gcase_some, bind_ok]
    intro t Q iv qv
    obtain ⟨as, t1, g1⟩ := ok_ex (ok_bind.mp qv)
    have g1 := ok_ex (ok_bind.mp g1)
    have : ∃ as ws, chgP m vs as = .ret ws := by
      obtain ⟨v1, t2, g2⟩ := ok_ex (ok_bind.mp qv)
      rcases chgP_det (m := m) (vs := vs) (as := v1) with e | ⟨w, e⟩
      · rw [e] at g2; exact (ok_no.mp g2).elim
      · exact ⟨v1, w, e⟩
    obtain ⟨_, _, ec⟩ := this
    rw [if_pos (chgP_ty g ec)]
    have main : Sm I p c b S z (RFl p b q) (((evEs F G es env S).bind fun ds S2 => mthop m (.loc l) ds S2).bind fun _ S1 => .ok (.nx env) S1) ((evPs FP GP es pe).bind fun as => (chgP m vs as).bind fun ws => .ret (.nx (pe.set i (some (.lst ws, true))))) := by
      have e3 : (((evEs F G es env S).bind fun ds S2 => mthop m (.loc l) ds S2).bind fun _ S1 => Res.ok (Fl.nx env) S1) = (evEs F G es env S).bind fun ds S2 => (mthop m (.loc l) ds S2).bind fun _ S1 => .ok (.nx env) S1 := by
        cases evEs F G es env S <;> rfl
      rw [e3]
      refine Sm.stepE cx.hb (simPs O es b S z pe env cx) fun as es1 S1 z1 ex w r => ?_
      have cx1 := cx.mono ex w
      rcases chgP_det (m := m) (vs := vs) (as := as) with e | ⟨ws, e⟩
      · rw [e]; exact .no
      · rw [e]
        have g1 : S1[l]? = some (.lst ds) := (ex.own l (get_lt g) h1 hz).2.trans g
        obtain ⟨d, ds', e4, r4⟩ := chg_op g1 (r0.mono ex) r e
        rw [e4]
        obtain ⟨ex2, w2, rel⟩ := cx1.r.chg w hx e0 r4
        exact fun t Q i qv => ⟨_, _, z1, .nx _, t, rfl, ex2, w2, rel, O.pen.stable _ _ _ _ _ (List.getElem?_set_ne h1) (List.getElem?_set_ne (fun e => (ex.own l (get_lt g) h1 hz).1 (by rw [e]; exact w.cel))) i, ok_ret.mp qv⟩
    exact main t Q iv qv
  · exact .no
theorem gc_put {i : Nat} {k : E} : GPc I p c F FP G GP fr (.put i k e) := by
  intro q hq b S z pe env cx
  show Sm I p c b S z (RFl p b q) (exC F G (.asg (.sub (.var i) k) e) env S) _
  rw [c_asg]; simp only [exP]
  split
  · rename_i vs hx
    obtain ⟨d0, e0, _, h2⟩ := cx.r.slot i _ true hx
    cases h2 rfl with
    | @lst _ ds l h0 h1 hz g r0 =>
    refine Sm.stepE cx.hb (U O e b S z pe env cx) fun v d S1 z1 ex w r => ?_
    have cx1 := cx.mono ex w
    rw [t_sub, e_var, e0, gcase_some, bind_ok]
    have e3 : (((evE F G k env S1).bind fun y S2 => (setop (.loc l) y d S2).bind fun _ S3 => Res.ok env S3).bind fun env1 S2 => Res.ok (Fl.nx env1) S2) = (evE F G k env S1).bind fun y S2 => (setop (.loc l) y d S2).bind fun _ S3 => .ok (.nx env) S3 := by
      cases evE F G k env S1 with
      | no => rfl
      | ok y S2 =>
        show ((setop (.loc l) y d S2).bind fun _ S3 => Res.ok env S3).bind (fun env1 S2 => Res.ok (Fl.nx env1) S2) = (setop (.loc l) y d S2).bind fun _ S3 => .ok (.nx env) S3
        generalize setop (.loc l) y d S2 = g
        cases g <;> rfl
    rw [e3]
    refine Sm.stepE cx1.hb (U O k b S1 z1 pe env cx1) fun u du S2 z2 ex2 w2 r2 => ?_
    have cx2 := cx1.mono ex2 w2
    have g1 : S1[l]? = some (.lst ds) := (ex.own l (get_lt g) h1 hz).2.trans g
    have hz1 := (ex.own l (get_lt g) h1 hz).1
    have g2 : S2[l]? = some (.lst ds) := (ex2.own l (get_lt g1) h1 hz1).2.trans g1
    have hz2 := (ex2.own l (get_lt g1) h1 hz1).1
    have rr := (r0.mono ex).mono ex2
    unfold putP
    split
    · rename_i j
      cases r2
      rw [rr.length]
      cases e5 : ixN ds.length j with
      | none => exact .no
      | some n =>
        have e4 : setop (.loc l) (.int j) d S2 = .ok () (S2.set l (.lst (ds.set n d))) := by simp only [setop, g2, e5]
        rw [e4]
        obtain ⟨ex3, w3, rel⟩ := cx2.r.chg w2 hx e0 (rr.set (n := n) (r.mono ex2))
        exact fun t Q i qv => ⟨_, _, z2, .nx _, t, rfl, ex3, w3, rel, O.pen.stable _ _ _ _ _ (List.getElem?_set_ne h1) (List.getElem?_set_ne (fun e => hz2 (by rw [e]; exact w2.cel))) i, ok_ret.mp qv⟩
    · exact .no
  · exact .no
theorem gc_ret : GPc I p c F FP G GP fr (.ret e) := by
  intro q hq b S z pe env cx
  show Sm I p c b S z (RFl p b q) (exC F G (.ret e) env S) _
  rw [c_ret]; simp only [exP]
  cases q with
  | true =>
    have h := simE O e b S z pe env cx
    have hf : frE fr e = true := hq rfl
    rw [hf] at h
    refine Sm.stepE cx.hb h fun v d S1 z1 ex w r => ?_
    exact .ret w (Ro.weak r cx.hb)
  | false =>
    refine Sm.stepE cx.hb (U O e b S z pe env cx) fun v d S1 z1 ex w r => ?_
    exact .ret w r
theorem gc_rtn {i : Nat} : GPc I p c F FP G GP fr (.rtn i) := by
  intro q hq b S z pe env cx
  show Sm I p c b S z (RFl p b q) (exC F G (.ret (.var i)) env S) _
  rw [c_ret, e_var]; simp only [exP]
  split
  · rename_i v hx
    obtain ⟨d0, e0, _, h2⟩ := cx.r.slot i _ true hx
    rw [e0, gcase_some, bind_ok]
    cases q with
    | true => exact .ret cx.w (h2 rfl)
    | false =>
      obtain ⟨z2, ex, wo, rp, _⟩ := (h2 rfl).frz cx.w
      exact fun t Q i qv => ⟨_, _, z2, .rt _, t, rfl, ex, wo, rp, i, ok_ret.mp qv⟩
  · exact .no
theorem gc_pass : GPc I p c F FP G GP fr .pass := by
  intro q hq b S z pe env cx
  show Sm I p c b S z (RFl p b q) (exC F G .pass env S) _
  rw [c_pass]; simp only [exP]; exact .ret cx.w cx.r
theorem gc_frz {i : Nat} : GPc I p c F FP G GP fr (.frz i) := by
  intro q hq b S z pe env cx
  show Sm I p c b S z (RFl p b q) (.ok (.nx env) S) _
  simp only [exP]
  split
  · rename_i v o hx
    cases o with
    | true =>
      obtain ⟨z2, ex, wo, rel, _⟩ := cx.r.frz cx.w hx
      exact fun t Q i qv => ⟨_, _, z2, .nx _, t, rfl, ex, wo, rel, i, ok_ret.mp qv⟩
    | false =>
      have : pe.set i (some (v, false)) = pe := by
        obtain ⟨hl, he⟩ := List.getElem?_eq_some_iff.mp hx
        rw [← he, List.set_getElem_self]
      rw [this]
      exact .ret cx.w cx.r
  · exact .no
theorem gc_ife {a b : List PC} (ha : GPcs I p c F FP G GP fr a) (hb : GPcs I p c F FP G GP fr b) : GPc I p c F FP G GP fr (.ife e a b) := by
  intro q hq b0 S z pe env cx
  show Sm I p c b0 S z (RFl p b0 q) (exC F G (.ife e (erCs a) (erCs b)) env S) _
  rw [c_ife]; simp only [exP]
  have hq : q = true → (frCs fr a && frCs fr b) = true := hq
  refine Sm.stepE cx.hb (Kk O e b0 S z pe env cx) fun v d S1 z1 ex w r => ?_
  cases g : truP v with
  | none => exact .no
  | some t =>
    rw [r.1.truth w g]
    cases t with
    | true => exact ha q (fun h => by have := hq h; rw [Bool.and_eq_true] at this; exact this.1) b0 S1 z1 pe env (cx.mono ex w)
    | false => exact hb q (fun h => by have := hq h; rw [Bool.and_eq_true] at this; exact this.2) b0 S1 z1 pe env (cx.mono ex w)
theorem for_sim {t : Tg} {bd : List PC} {ws : List Nat} (hb : GPcs I p c F FP G GP fr bd) {q : Bool} (hq : q = true → frCs fr bd = true) {b : Nat} {S0 : Sto} {z0 : Nat → Prop} (hb0 : b ≤ S0.length)
    {keep : Sto → Prop} (hk : ∀ b S' z', Ex p b S0 z0 S' z' → keep S') : ∀ (xs : List P) (ds : List D) (S : Sto) (z : Nat → Prop) (pe : PEnv) (env : Env), Ex p b S0 z0 S z → WOk p c S z → RelE p b S z pe env → Rps p S z xs ds →
      Sm I p c b S z (RFl p b q) (forGo (forTurn F G t (erCs bd)) keep ds env S) (forP (fun x env => (asP FP GP t x env).bind fun env1 => exPs FP GP fr bd env1) ws xs pe) := by
  intro xs
  induction xs with
  | nil =>
    intro ds S z pe env ex w rel r
    cases r
    unfold forGo
    rw [if_pos (hk _ _ _ ex)]
    exact .ret w rel
  | cons x xs ih =>
    intro ds S z pe env ex w rel r
    cases r with
    | @cons _ d _ ds q1 r =>
    unfold forGo forP
    rw [if_pos (hk _ _ _ ex)]
    have cx : Cxt p c b S z pe env := ⟨w, Nat.le_trans hb0 ex.len, rel⟩
    have turn : Sm I p c b S z (RFl p b q) (forTurn F G t (erCs bd) d env S) ((asP FP GP t x pe).bind fun env1 => exPs FP GP fr bd env1) := by
      unfold forTurn
      refine Sm.stepE cx.hb (simT O t b S z pe env x d cx q1) fun pe1 env1 S1 z1 ex1 w1 r1 => ?_
      exact hb q hq b S1 z1 pe1 env1 ⟨w1, Nat.le_trans cx.hb ex1.len, r1⟩
    refine Sm.bind turn fun fp fw S1 z1 ex1 w1 r1 => ?_
    cases fp with
    | nx pe1 =>
      cases fw with
      | nx env1 =>
        have r1 : RelE p b S1 z1 pe1 env1 := r1
        exact ih ds S1 z1 _ _ (ex.trans ex1) w1 (r1.wipe' ws) (r.mono ex1)
      | rt _ => exact r1.elim
    | rt v =>
      cases fw with
      | nx _ => exact r1.elim
      | rt d => exact .ret w1 r1
theorem gc_for {ws : List Nat} {t : Tg} {it : It} {bd : List PC} (hb : GPcs I p c F FP G GP fr bd) : GPc I p c F FP G GP fr (.for_ ws t it bd) := by
  intro q hq b S z pe env cx
  show Sm I p c b S z (RFl p b q) (exC F G (.for_ t it (erCs bd)) env S) _
  rw [c_for]; simp only [exP]
  refine Sm.stepE cx.hb (simI O it b S z (hideP pe) env ⟨cx.w, cx.hb, cx.r.hide⟩) fun vs src S1 z1 ex w r => ?_
  have cx1 := cx.mono ex w
  exact for_sim O hb hq cx1.hb (fun b' S' z' => r.2.2 hide_no b' S' z') vs src.items S1 z1 pe env .refl w cx1.r r.1
theorem whl_sim {bd : List PC} {ws : List Nat} (hb : GPcs I p c F FP G GP fr bd) {q : Bool} (hq : q = true → frCs fr bd = true) {b : Nat} :
    ∀ (n : Nat) (S : Sto) (z : Nat → Prop) (pe : PEnv) (env : Env), Cxt p c b S z pe env →
      Sm I p c b S z (RFl p b q) (whlGo (whlTest F G e) (exCs F G (erCs bd)) n env S) (whlP (fun env => (pkP e (evP FP GP e) env).bind fun x => ofP (truP x)) (fun env => exPs FP GP fr bd env) ws n pe) := by
  intro n
  induction n with
  | zero => intro S z pe env cx; exact .no
  | succ n ih =>
    intro S z pe env cx
    unfold whlGo whlP
    have test : Sm I p c S.length S z (fun S' z' (x y : Bool) => x = y) (whlTest F G e env S) ((pkP e (evP FP GP e) pe).bind fun x => ofP (truP x)) := by
      unfold whlTest
      refine Sm.step (Kk O e b S z pe env cx) fun v d S1 z1 ex w r => ?_
      cases g : truP v with
      | none => exact .no
      | some t => rw [r.1.truth w g]; exact .ret w rfl
    refine Sm.stepE cx.hb test fun x y S1 z1 ex w r => ?_
    subst r
    have cx1 := cx.mono ex w
    cases x with
    | false => exact .ret w cx1.r
    | true =>
      refine Sm.bind (hb q hq b S1 z1 pe env cx1) fun fp fw S2 z2 ex2 w2 r2 => ?_
      cases fp with
      | nx pe1 =>
        cases fw with
        | nx env1 =>
          have r2 : RelE p b S2 z2 pe1 env1 := r2
          exact ih S2 z2 _ _ ⟨w2, Nat.le_trans cx1.hb ex2.len, r2.wipe' ws⟩
        | rt _ => exact r2.elim
      | rt v =>
        cases fw with
        | nx _ => exact r2.elim
        | rt d => exact .ret w2 r2
theorem gc_whl {ws : List Nat} {bd : List PC} (hb : GPcs I p c F FP G GP fr bd) : GPc I p c F FP G GP fr (.whl ws e bd) := by
  intro q hq b S z pe env cx
  show Sm I p c b S z (RFl p b q) (exC F G (.whl e (erCs bd)) env S) _
  rw [c_whl]; simp only [exP]
  exact whl_sim O hb hq whlMost S z pe env cx
theorem gcs_nil : GPcs I p c F FP G GP fr [] := by
  intro q hq b S z pe env cx
  show Sm I p c b S z (RFl p b q) (exCs F G .nil env S) _
  rw [cs_nil]; simp only [exPs]; exact .ret cx.w cx.r
theorem gcs_cons {s : PC} {cs : List PC} (h : GPc I p c F FP G GP fr s) (hs : GPcs I p c F FP G GP fr cs) : GPcs I p c F FP G GP fr (s :: cs) := by
  intro q hq b S z pe env cx
  have hq : q = true → (frC fr s && frCs fr cs) = true := hq
  have h := h q (fun h => by have := hq h; rw [Bool.and_eq_true] at this; exact this.1) b S z pe env cx
  have hs' := hs q (fun h => by have := hq h; rw [Bool.and_eq_true] at this; exact this.2) b
  have fin : ∀ {w : Res Fl}, Sm I p c b S z (RFl p b q) w (exP FP GP fr s pe) → Sm I p c b S z (RFl p b q) (w.bind fun f S1 => flcase f (fun env1 => exCs F G (erCs cs) env1 S1) S1) (exPs FP GP fr (s :: cs) pe) := by
    intro w hw
    simp only [exPs]
    refine Sm.bind hw fun fp fw S1 z1 ex w1 r => ?_
    cases fp with
    | nx pe1 =>
      cases fw with
      | nx env1 => exact hs' S1 z1 pe1 env1 ⟨w1, Nat.le_trans cx.hb ex.len, r⟩
      | rt _ => exact r.elim
    | rt v =>
      cases fw with
      | nx _ => exact r.elim
      | rt d => exact .ret w1 r
  cases e : erC s with
  | some d =>
    rw [e] at h
    have : erCs (s :: cs) = .cons d (erCs cs) := by simp only [erCs, e]
    rw [this, cs_cons]
    exact fin h
  | none =>
    rw [e] at h
    have : erCs (s :: cs) = erCs cs := by simp only [erCs, e]
    rw [this]
    exact fin h
mutual
theorem simS : ∀ s : PC, GPc I p c F FP G GP fr s
  | .asg t e => gc_asg O
  | .new i e => gc_new O
  | .par i j a b => gc_par O
  | .aug i op e => gc_aug O
  | .expr e => gc_expr O
  | .chg m i es => gc_chg O
  | .put i k e => gc_put O
  | .ret e => gc_ret O
  | .rtn i => gc_rtn O
  | .ife e a b => gc_ife O (simSs a) (simSs b)
  | .whl ws e bd => gc_whl O (simSs bd)
  | .for_ ws t it bd => gc_for O (simSs bd)
  | .pass => gc_pass O
  | .frz i => gc_frz O
theorem simSs : ∀ s : List PC, GPcs I p c F FP G GP fr s
  | [] => gcs_nil O
  | s :: cs => gcs_cons O (simS s) (simSs cs)
end
end
end Wk

set_option Elab.async false
set_option linter.all false
set_option maxRecDepth 100000
set_option maxHeartbeats 4000000
namespace Wk
open PySem PySem.Spec PyProof.Rows L2
section
variable {p c b : Nat} {S S' : Sto} {z z' : Nat → Prop}
theorem Rps.get' {vs : List P} {ds : List D} {i : Nat} {v : P} (h : Rps p S z vs ds) (e : vs[i]? = some v) : ∃ d, ds[i]? = some d ∧ Rp p S z v d := h.get e
theorem rel_start {d : PDf} {vs : List P} {ds : List D} {n : Nat} {nm : Str} {bd : Cs} (r : Rps p S z vs ds) (hn : n = d.slots) : RelE p b S z (startP d vs) (start0 ⟨nm, n, d.pars, bd⟩ ds) := by
  subst hn
  have own : ∀ (i : Nat) (v : P) (o : Bool), (startP d vs)[i]? = some (some (v, o)) → o = false ∧ vs[i]? = some v := by
    intro i v o e
    unfold startP at e
    by_cases hi : i < vs.length
    · rw [List.getElem?_append_left (by rw [List.length_map]; exact hi), List.getElem?_map] at e
      cases q : vs[i]? with
      | none => rw [q] at e; cases e
      | some u => rw [q] at e; cases e; exact ⟨rfl, rfl⟩
    · rw [List.getElem?_append_right (by rw [List.length_map]; omega)] at e
      rw [List.getElem?_replicate] at e
      split at e <;> cases e
  refine ⟨?_, fun i v o e => ?_, fun i j v v' l ne e _ _ _ => ?_⟩
  · unfold startP start0
    simp [r.length]
  · obtain ⟨rfl, e0⟩ := own i v o e
    obtain ⟨d', e', q⟩ := r.get e0
    refine ⟨d', ?_, fun _ => q, fun q => nomatch q⟩
    unfold start0
    have hi : i < ds.length := (List.getElem?_eq_some_iff.mp e').1
    rw [List.getElem?_append_left (by rw [List.length_map]; exact hi), List.getElem?_map, e']
    rfl
  · cases (own i v true e).1
end
theorem run_step {T : Txt} {k f : Nat} {ds : List D} {S : Sto} : T.run (k + 1) f ds S = match T.tab[f]? with
    | some fi => if ds.length = fi.ps.length then (exCs (T.run k) T.shp fi.body (start0 fi.dfn ds) S).bind fun fl S1 => .ok (retOf fl) S1 else .no
    | none => .no := by
  rw [Txt.run, Wk.run]; dsimp only; rw [List.getElem?_map]
  cases T.tab[f]? with
  | none => rfl
  | some fi => rfl
/-- a text on values is the text T, but for the defs that are known otherwise -/
structure TabOk (T : Txt) (tab : Nat → Option PDf) (fr : Nat → Bool) : Prop where
  tab : ∀ (f : Nat) (d : PDf), tab f = some d → ∃ fi, T.tab[f]? = some fi ∧ fi.body = erCs d.body ∧ fi.N.length = d.slots ∧ fi.ps.length = d.pars ∧ (fr f = true → frCs fr d.body = true)
section
variable {I : Sto → Nat → Nat → Nat → Prop} {p c : Nat} {T : Txt} {tab : Nat → Option PDf} {pr : Prim} {GP : PShp} {fr : Nat → Bool}
theorem run_sim (hI : PenI I) (ht : TabOk T tab fr)
    (shp : ∀ (h : Nat) (vs ws : List P) (ds es : List D) (S : Sto) (z : Nat → Prop), Rps p S z vs ds → Rps p S z ws es → Rps p S z (GP.shp h vs ws) (T.shp.shp h ds es))
    (cst : ∀ (i : Nat) (S : Sto) (z : Nat → Prop), Rp p S z (GP.cst i) (T.shp.cst i))
    (prim : ∀ (f n : Nat) (g : List P → Cm P), pr f = some (n, g) → ∀ (k : Nat), n ≤ k → ∀ (vs : List P) (ds : List D) (S : Sto) (z : Nat → Prop), WOk p c S z → Rps p S z vs ds → Sm I p c S.length S z (Rf p (fr f) S.length) (T.run (k + 1) f ds S) (g vs)) :
    ∀ k, Orcs I p c (T.run k) (runP tab pr GP fr k) T.shp GP fr
  | 0 => ⟨hI, fun f vs ds S z w r => .no, shp, cst⟩
  | k + 1 => by
    refine ⟨hI, fun f vs ds S z w r => ?_, shp, cst⟩
    unfold runP
    cases hp : pr f with
    | some q =>
      obtain ⟨n, g⟩ := q
      dsimp only
      split
      · rename_i hk; exact prim f n g hp k hk vs ds S z w r
      · exact .no
    | none =>
      dsimp only
      cases hf : tab f with
      | none => exact .no
      | some d =>
        dsimp only
        split
        · rename_i hl
          obtain ⟨fi, e1, e2, e3, e4, e5⟩ := ht.tab f d hf
          have eW : T.run (k + 1) f ds S = (exCs (T.run k) T.shp (erCs d.body) (start0 ⟨fi.name, d.slots, d.pars, erCs d.body⟩ ds) S).bind fun fl S1 => .ok (retOf fl) S1 := by
            rw [run_step, e1]
            dsimp only
            rw [if_pos (by rw [← r.length, hl, e4])]
            unfold Fi.dfn
            rw [e2, e3, e4]
          rw [eW]
          have ih := run_sim hI ht shp cst prim k
          refine Sm.bind (simSs ih d.body (fr f) e5 S.length S z (startP d vs) _ ⟨w, Nat.le_refl _, rel_start r rfl⟩) fun fp fw S1 z1 ex w1 r1 => ?_
          refine .ret w1 ?_
          cases fp with
          | nx pe1 =>
            cases fw with
            | nx env1 => unfold Rf; split; exact .non; exact .non
            | rt _ => exact r1.elim
          | rt v =>
            cases fw with
            | nx _ => exact r1.elim
            | rt d => exact r1
        · exact .no
end
/-- a draw -/
def drawP : List P → Cm P
  | [.pen, .int m] => .ask m fun r => .ret (.int r)
  | _ => .no
section
variable {I : Sto → Nat → Nat → Nat → Prop} {p c : Nat}
theorem draw_sim (hI : PenI I) {w : List D → Sto → Res D} {q : Bool}
    (h : ∀ (S : Sto) (t : Nat) (m : Int), I S p c t → c ≠ p → t < askMost → 0 < m → m < askWide → ∃ r S', w [.loc p, .int m] S = .ok (.int r) S' ∧ 0 ≤ r ∧ r < m ∧ Kp p S S' ∧ I S' p c (t + 1))
    (vs : List P) (ds : List D) (S : Sto) (z : Nat → Prop) (wo : WOk p c S z) (r : Rps p S z vs ds) : Sm I p c S.length S z (Rf p q S.length) (w ds S) (drawP vs) := by
  unfold drawP
  split
  · rename_i m
    cases r with | cons r1 r =>
    cases r1
    cases r with | cons r2 r =>
    cases r2
    cases r
    intro t Q i qv
    obtain ⟨m0, m1, ht, hq⟩ := ok_ask.mp qv
    obtain ⟨x, S', e, x0, x1, kp, i'⟩ := h S t m i (fun e => wo.pen (by rw [← e]; exact wo.cel)) ht m0 m1
    have fz : ∀ l, z l → S'[l]? = S[l]? := fun l hl => kp.2 l (wo.lt l hl) fun e => wo.pen (by rw [← e]; exact hl)
    refine ⟨_, S', z, .int x, t + 1, e, ⟨kp.1, fun l hl => ⟨hl, fz l hl⟩, fun l hl hp hz => ⟨hz, kp.2 l hl hp⟩⟩, ⟨wo.pen, wo.cel, fun l hl => Nat.lt_of_lt_of_le (wo.lt l hl) kp.1, Nat.lt_of_lt_of_le wo.pl kp.1⟩, ?_, i', ok_ret.mp (hq x x0 x1)⟩
    unfold Rf; split
    · exact .int _
    · exact .int _
  · exact .no
end
/-! ### the pen's kinds, the law's start -/
def toP : D → P
  | .non => .non
  | .bl b => .bl b
  | .int i => .int i
  | .str x => .str x
  | .tup [] => .tup []
  | _ => .pen
def plainD : D → Bool
  | .non => true
  | .bl _ => true
  | .int _ => true
  | .str _ => true
  | .tup [] => true
  | _ => false
theorem rp_plain {p : Nat} {S : Sto} {z : Nat → Prop} : ∀ {d : D}, plainD d = true → Rp p S z (toP d) d
  | .non, _ => .non
  | .bl b, _ => .bl b
  | .int i, _ => .int i
  | .str x, _ => .str x
  | .tup [], _ => .tup .nil
  | .tup (_ :: _), h => nomatch h
  | .loc _, h => nomatch h
def Txt.shpP (T : Txt) : PShp where
  shp := fun h ds ws => match T.shs[h]? with
    | some s => if ds.length = s.n ∧ ws.length = s.ks.length then pickG .non ds ws (T.dfl.map toP) s.pk else List.replicate (s.pk.length + 1) .non
    | none => []
  cst := fun i => match T.cs[i]? with
    | some c => toP c.2
    | none => .non
theorem rps_getD {p : Nat} {S : Sto} {z : Nat → Prop} {vs : List P} {ds : List D} (r : Rps p S z vs ds) (i : Nat) : Rp p S z (vs.getD i .non) (ds.getD i .non) := by
  rw [List.getD_eq_getElem?_getD, List.getD_eq_getElem?_getD]
  cases e : vs[i]? with
  | some v => obtain ⟨d, e2, q⟩ := r.get e; rw [e2]; exact q
  | none =>
    have : ds[i]? = none := by
      rw [List.getElem?_eq_none_iff] at e ⊢
      rw [← r.length]; exact e
    rw [this]; exact .non
theorem rps_pick {p : Nat} {S : Sto} {z : Nat → Prop} {vs ws us : List P} {ds es fs : List D} (r : Rps p S z vs ds) (r2 : Rps p S z ws es) (r3 : Rps p S z us fs) : ∀ pk : List Pk, Rps p S z (pickG .non vs ws us pk) (pickG .non ds es fs pk)
  | [] => .nil
  | .pos i :: pk => .cons (rps_getD r i) (rps_pick r r2 r3 pk)
  | .kw i :: pk => .cons (rps_getD r2 i) (rps_pick r r2 r3 pk)
  | .con i :: pk => .cons (rps_getD r3 i) (rps_pick r r2 r3 pk)
theorem rps_non {p : Nat} {S : Sto} {z : Nat → Prop} : ∀ n, Rps p S z (List.replicate n .non) (List.replicate n .non)
  | 0 => .nil
  | n + 1 => .cons .non (rps_non n)
theorem rps_plain {p : Nat} {S : Sto} {z : Nat → Prop} : ∀ {ds : List D}, ds.all plainD = true → Rps p S z (ds.map toP) ds
  | [], _ => .nil
  | d :: ds, h => by
    rw [List.all_cons, Bool.and_eq_true] at h
    exact .cons (rp_plain h.1) (rps_plain h.2)
theorem shpP_ok {T : Txt} (hd : T.dfl.all plainD = true) {p : Nat} (h : Nat) (vs ws : List P) (ds es : List D) (S : Sto) (z : Nat → Prop) (r : Rps p S z vs ds) (r2 : Rps p S z ws es) : Rps p S z (T.shpP.shp h vs ws) (T.shp.shp h ds es) := by
  unfold Txt.shpP Txt.shp
  dsimp only
  cases T.shs[h]? with
  | none => exact .nil
  | some s =>
    dsimp only
    rw [← r.length, ← r2.length]
    split
    · exact rps_pick r r2 (rps_plain hd) _
    · exact rps_non _
theorem cstP_ok {T : Txt} (hc : (T.cs.map (·.2)).all plainD = true) {p : Nat} (i : Nat) (S : Sto) (z : Nat → Prop) : Rp p S z (T.shpP.cst i) (T.shp.cst i) := by
  unfold Txt.shpP Txt.shp
  dsimp only
  cases e : T.cs[i]? with
  | none => exact .non
  | some c =>
    rw [List.all_map, List.all_eq_true] at hc
    exact rp_plain (hc c (List.mem_of_getElem? e))
/-- a law: the pen is made, the rest runs on values -/
theorem law_of {T : Txt} {tab : Nat → Option PDf} {pr : Prim} {fr : Nat → Bool} {I : Sto → Nat → Nat → Nat → Prop} {k li pf pi sl : Nat} {rest : List PC} {fi : Fi} {S0 : Sto}
    (hI : PenI I) (ht : TabOk T tab fr) (hd : T.dfl.all plainD = true) (hc : (T.cs.map (·.2)).all plainD = true)
    (hfi : T.tab[li]? = some fi) (hb : fi.body = .cons (.asg (.name 1) (.call pf (.cons (.var 0) .nil))) (erCs rest)) (hps : fi.ps.length = 1) (hN : fi.N.length = sl + 2)
    (hpen : ∃ p c S1, T.run k pf [.loc 0] S0 = .ok (.loc p) S1 ∧ I S1 p c 0 ∧ c ≠ p ∧ c < S1.length ∧ p < S1.length ∧ 
      (∀ (f n : Nat) (g : List P → Cm P), pr f = some (n, g) → ∀ (k : Nat), n ≤ k → ∀ (vs : List P) (ds : List D) (S : Sto) (z : Nat → Prop), WOk p c S z → Rps p S z vs ds → Sm I p c S.length S z (Rf p (fr f) S.length) (T.run (k + 1) f ds S) (g vs)))
    (hl : (exPs (runP tab pr T.shpP fr k) T.shpP fr rest (none :: some (.pen, false) :: List.replicate sl none)).ok 0 fun fl _ => fl = .rt (.bl true)) :
    (T.run (k + 1) li [.loc 0] S0).wp fun v _ => v = .bl true := by
  obtain ⟨p, c, S1, e1, i1, ne, hc1, hp1, prim⟩ := hpen
  have eW : T.run (k + 1) li [.loc 0] S0 = (exCs (T.run k) T.shp fi.body (start0 fi.dfn [.loc 0]) S0).bind fun fl S1 => .ok (retOf fl) S1 := by
    rw [run_step, hfi]
    dsimp only
    rw [if_pos (by rw [hps]; rfl)]
  have es : start0 fi.dfn [.loc 0] = some (.loc 0) :: none :: List.replicate sl none := by
    unfold start0 Fi.dfn
    rw [hN]; rfl
  have O := run_sim (k := k) hI ht (shpP_ok hd (p := p)) (cstP_ok hc) prim
  have w : WOk p c S1 (fun l => l = c) := ⟨fun e => ne e.symm, rfl, fun l e => by subst e; exact hc1, hp1⟩
  have rel : RelE p S1.length S1 (fun l => l = c) (none :: some (.pen, false) :: List.replicate sl none) (some (.loc 0) :: some (.loc p) :: List.replicate sl none) := by
    have own : ∀ (i : Nat) (v : P) (o : Bool), (none :: some (P.pen, false) :: List.replicate sl none : PEnv)[i]? = some (some (v, o)) → i = 1 ∧ v = .pen ∧ o = false := by
      intro i v o e
      match i, e with
      | 0, e => cases e
      | 1, e => cases e; exact ⟨rfl, rfl, rfl⟩
      | i + 2, e =>
        rw [List.getElem?_cons_succ, List.getElem?_cons_succ, List.getElem?_replicate] at e
        split at e <;> cases e
    refine ⟨by simp, fun i v o e => ?_, fun i j v v' l ne e _ _ _ => ?_⟩
    · obtain ⟨rfl, rfl, rfl⟩ := own i v o e
      exact ⟨_, rfl, fun _ => .pen, fun q => nomatch q⟩
    · exact nomatch (own i v true e).2.2
  obtain ⟨fl, S2, z2, pf2, t2, e2, _, _, r2, _, q2⟩ := simSs O rest false (fun h => nomatch h) S1.length S1 _ _ _ ⟨w, Nat.le_refl _, rel⟩ 0 _ i1 hl
  rw [eW, es, hb]
  have e3 : exCs (T.run k) T.shp (.cons (.asg (.name 1) (.call pf (.cons (.var 0) .nil))) (erCs rest)) (some (.loc 0) :: none :: List.replicate sl none) S0 = exCs (T.run k) T.shp (erCs rest) (some (.loc 0) :: some (.loc p) :: List.replicate sl none) S1 := by
    have ea : evEs (T.run k) T.shp (.cons (.var 0) .nil) (some (.loc 0) :: none :: List.replicate sl none) S0 = .ok [.loc 0] S0 := rfl
    rw [cs_cons, c_asg, e_call, ea, bind_ok, e1]; rfl
  rw [e3, e2]
  show retOf fl = _
  subst q2
  cases fl with
  | nx _ => exact r2.elim
  | rt d =>
    have r2 : Rp p S2 z2 (.bl true) d := r2
    cases r2; rfl
end Wk

set_option Elab.async false
set_option linter.all false
set_option maxRecDepth 100000
set_option maxHeartbeats 4000000
namespace Wk
open PySem PySem.Spec PyProof.Rows L2
/-! ### the value machine's steps as equations -/
/-- a bind whose rest is not looked into -/
def CmD {α β : Type} (_ : α → Cm β) : Type := Cm α
def Cm.bd {α β : Type} (k : α → Cm β) (c : CmD k) : Cm β := Cm.bind c k
section
variable {α β γ : Type}
theorem bq_ret {a : α} {f : α → Cm β} : Cm.bd f (Cm.ret a) = f a := same rfl
theorem bq_no {f : α → Cm β} : Cm.bd f (Cm.no : Cm α) = .no := same rfl
theorem bq_bd {c : Cm α} {f : α → Cm β} {g : β → Cm γ} : Cm.bd g (Cm.bd f c) = Cm.bd (fun a => Cm.bd g (f a)) c := bd_bd
theorem bq_eq {c : Cm α} {f : α → Cm β} : c.bind f = Cm.bd f c := same rfl
theorem ok_bd {c : Cm α} {f : α → Cm β} {t : Nat} {Q : β → Nat → Prop} : (Cm.bd f c).ok t Q ↔ c.ok t fun a t1 => (f a).ok t1 Q := ok_bind
end
def vget (o : Option (Option (P × Bool))) : Cm P := match o with
  | some (some (v, false)) => .ret v
  | _ => .no
def kget (o : Option (Option (P × Bool))) : Cm P := match o with
  | some (some (v, _)) => .ret v
  | _ => .no
def oget (o : Option (Option (P × Bool))) : Cm (List P) := match o with
  | some (some (.lst vs, true)) => .ret vs
  | _ => .no
def rget (o : Option (Option (P × Bool))) : Cm P := match o with
  | some (some (v, true)) => .ret v
  | _ => .no
def tcaseP {α : Type} (o : Option Bool) (x y : Cm α) : Cm α := match o with
  | some true => x
  | some false => y
  | none => .no
def bcaseP {α : Type} (v : P) (x y : Cm α) : Cm α := match v with
  | .bl true => x
  | .bl false => y
  | _ => .no
def icaseP {α : Type} (v : P) (f : Int → Cm α) : Cm α := match v with
  | .int i => f i
  | _ => .no
def flP (fl : PFl) (f : PEnv → Cm PFl) : Cm PFl := match fl with
  | .nx env => f env
  | .rt v => .ret (.rt v)
def seqP (v : P) : Cm (List P) := match v with
    | .str z => .ret (z.cps.toList.map fun c => .str ⟨#[c]⟩)
    | .tup vs => .ret vs
    | .lst vs => .ret vs
    | _ => .no
def rg1P (v : P) : Cm (List P) := match v with
    | .int j => if -(2 ^ 62) ≤ j ∧ j < 2 ^ 62 then .ret ((List.range j.toNat).map fun k => .int (k : Nat)) else .no
    | _ => .no
def rg2P (x y : P) : Cm (List P) := match x, y with
    | .int i, .int j => if -(2 ^ 62) ≤ i ∧ i < 2 ^ 62 ∧ -(2 ^ 62) ≤ j ∧ j < 2 ^ 62 then .ret ((List.range (j - i).toNat).map fun k => .int (i + (k : Nat))) else .no
    | _, _ => .no
def rg3P (x y z : P) : Cm (List P) := match x, y, z with
    | .int i, .int j, .int k => if -(2 ^ 62) ≤ i ∧ i < 2 ^ 62 ∧ -(2 ^ 62) ≤ j ∧ j < 2 ^ 62 ∧ k = -1 then .ret ((List.range (i - j).toNat).map fun m => .int (i - (m : Nat))) else .no
    | _, _, _ => .no
def enP (x : P) : Cm (List P) := match x with
    | .tup vs => .ret (vs.zipIdx.map fun p => .tup [.int (p.2 : Nat), p.1])
    | .str z => .ret (z.cps.toList.zipIdx.map fun p => .tup [.int (p.2 : Nat), .str ⟨#[p.1]⟩])
    | .lst vs => .ret (vs.zipIdx.map fun p => .tup [.int (p.2 : Nat), p.1])
    | _ => .no
def zpP (x y : P) : Cm (List P) := match x, y with
    | .tup vs, .tup ws => .ret ((vs.zip ws).map fun p => .tup [p.1, p.2])
    | .lst vs, .lst ws => .ret ((vs.zip ws).map fun p => .tup [p.1, p.2])
    | _, _ => .no
def tcase2 {α : Type} (v : P) (f : List P → Cm α) : Cm α := match v with
  | .tup vs => f vs
  | _ => .no
section
variable {α : Type} {F : POrc} {G : PShp} {fr : Nat → Bool} {env : PEnv} {a b c e : E} {es ks : Es} {v : P}
theorem tcaseP_some {b : Bool} {x y : Cm α} : tcaseP (some b) x y = if b = true then x else y := by cases b <;> rfl
theorem tc_t {x y : Cm α} : tcaseP (truP (.bl true)) x y = x := same rfl
theorem tc_f {x y : Cm α} : tcaseP (truP (.bl false)) x y = y := same rfl
theorem tc_n {x y : Cm α} : tcaseP (truP .non) x y = y := same rfl
theorem bc_t {x y : Cm α} : bcaseP (.bl true) x y = x := same rfl
theorem bc_f {x y : Cm α} : bcaseP (.bl false) x y = y := same rfl
theorem bcaseP_bl {b : Bool} {x y : Cm α} : bcaseP (.bl b) x y = if b = true then x else y := by cases b <;> rfl
theorem icaseP_int {i : Int} {f : Int → Cm α} : icaseP (.int i) f = f i := same rfl
theorem flP_nx {f : PEnv → Cm PFl} : flP (.nx env) f = f env := same rfl
theorem flP_rt {f : PEnv → Cm PFl} : flP (.rt v) f = .ret (.rt v) := same rfl
theorem vget_some : vget (some (some (v, false))) = .ret v := same rfl
theorem kget_some {o : Bool} : kget (some (some (v, o))) = .ret v := same rfl
theorem oget_some {vs : List P} : oget (some (some (.lst vs, true))) = .ret vs := same rfl
theorem rget_some : rget (some (some (v, true))) = .ret v := same rfl
theorem tcase2_tup {vs : List P} {f : List P → Cm α} : tcase2 (.tup vs) f = f vs := same rfl
theorem pk_var {i : Nat} {f : PEnv → Cm P} : pkP (.var i) f env = kget env[i]? := same rfl
theorem pk_int {i : Int} {f : PEnv → Cm P} : pkP (.int i) f env = f env := same rfl
theorem pk_str {i : Str} {f : PEnv → Cm P} : pkP (.str i) f env = f env := same rfl
theorem pk_bl {i : Bool} {f : PEnv → Cm P} : pkP (.bl i) f env = f env := same rfl
theorem pk_non {f : PEnv → Cm P} : pkP .non f env = f env := same rfl
theorem pk_glob {i : Nat} {f : PEnv → Cm P} : pkP (.glob i) f env = f env := same rfl
theorem pk_tup {f : PEnv → Cm P} : pkP (.tup es) f env = f env := same rfl
theorem pk_lst {f : PEnv → Cm P} : pkP (.lst es) f env = f env := same rfl
theorem pk_dic {ks : List Str} {f : PEnv → Cm P} : pkP (.dic ks es) f env = f env := same rfl
theorem pk_bin {op : BOp} {f : PEnv → Cm P} : pkP (.bin op a b) f env = f env := same rfl
theorem pk_neg {f : PEnv → Cm P} : pkP (.neg a) f env = f env := same rfl
theorem pk_not {f : PEnv → Cm P} : pkP (.not a) f env = f env := same rfl
theorem pk_cmp {op : COp} {f : PEnv → Cm P} : pkP (.cmp op a b) f env = f env := same rfl
theorem pk_chain {o1 o2 : COp} {f : PEnv → Cm P} : pkP (.chain o1 o2 a b c) f env = f env := same rfl
theorem pk_and {f : PEnv → Cm P} : pkP (.and es) f env = f env := same rfl
theorem pk_or {f : PEnv → Cm P} : pkP (.or es) f env = f env := same rfl
theorem pk_ite {f : PEnv → Cm P} : pkP (.ite c a b) f env = f env := same rfl
theorem pk_call {g : Nat} {f : PEnv → Cm P} : pkP (.call g es) f env = f env := same rfl
theorem pk_callK {g h : Nat} {f : PEnv → Cm P} : pkP (.callK g h es ks) f env = f env := same rfl
theorem pk_blt {g : Blt} {f : PEnv → Cm P} : pkP (.blt g es) f env = f env := same rfl
theorem pk_isi {t : Ty} {f : PEnv → Cm P} : pkP (.isi a t) f env = f env := same rfl
theorem pk_idx {f : PEnv → Cm P} : pkP (.idx a b) f env = f env := same rfl
theorem pk_slc {lo hi : Oe} {f : PEnv → Cm P} : pkP (.slc a lo hi) f env = f env := same rfl
theorem pk_rev {f : PEnv → Cm P} : pkP (.rev a) f env = f env := same rfl
theorem pk_mth {m : Mth} {f : PEnv → Cm P} : pkP (.mth m a es) f env = f env := same rfl
theorem pk_lc {own : List Nat} {t : Tg} {it : It} {o : Oe} {f : PEnv → Cm P} : pkP (.lc own t it o e) f env = f env := same rfl
theorem p_var {i : Nat} : evP F G (.var i) env = vget env[i]? := same rfl
theorem p_int {i : Int} : evP F G (.int i) env = .ret (.int i) := same rfl
theorem p_str {x : Str} : evP F G (.str x) env = .ret (.str x) := same rfl
theorem p_bl {x : Bool} : evP F G (.bl x) env = .ret (.bl x) := same rfl
theorem p_non : evP F G .non env = .ret .non := same rfl
theorem p_glob {i : Nat} : evP F G (.glob i) env = .ret (G.cst i) := same rfl
theorem p_tup : evP F G (.tup es) env = Cm.bd (fun vs => if vs.length ≤ 1000 then .ret (.tup vs) else .no) (evPs F G es env) := same rfl
theorem p_lst : evP F G (.lst es) env = Cm.bd (fun vs => if vs.length ≤ 1000 then .ret (.lst vs) else .no) (evPs F G es env) := same rfl
theorem p_dic {ks : List Str} : evP F G (.dic ks es) env = Cm.bd (fun vs => if ks.length = vs.length ∧ ks.length ≤ 15 ∧ ks.Nodup then .ret (.dic (ks.map Sum.inr) vs) else .no) (evPs F G es env) := same rfl
theorem p_bin {op : BOp} : evP F G (.bin op a b) env = Cm.bd (fun x => Cm.bd (fun y => binP op x y) (pkP b (evP F G b) env)) (pkP a (evP F G a) env) := same rfl
theorem p_neg : evP F G (.neg a) env = Cm.bd (fun x => icaseP x fun i => .ret (.int (-i))) (pkP a (evP F G a) env) := same rfl
theorem p_not : evP F G (.not a) env = Cm.bd (fun x => ofP ((truP x).map fun c => .bl (!c))) (pkP a (evP F G a) env) := same rfl
theorem p_cmp {op : COp} : evP F G (.cmp op a b) env = Cm.bd (fun x => Cm.bd (fun y => cmpP op x y) (pkP b (evP F G b) env)) (pkP a (evP F G a) env) := same rfl
theorem p_chain {o1 o2 : COp} : evP F G (.chain o1 o2 a b c) env = Cm.bd (fun x => Cm.bd (fun y => Cm.bd (fun r => bcaseP r (Cm.bd (fun z => cmpP o2 y z) (pkP c (evP F G c) env)) (.ret (.bl false))) (cmpP o1 x y)) (pkP b (evP F G b) env)) (pkP a (evP F G a) env) := same rfl
theorem p_and : evP F G (.and es) env = evAndP F G es env := same rfl
theorem p_or : evP F G (.or es) env = evOrP F G es env := same rfl
theorem p_ite : evP F G (.ite c a b) env = Cm.bd (fun x => tcaseP (truP x) (evP F G a env) (evP F G b env)) (pkP c (evP F G c) env) := same rfl
theorem p_call {f : Nat} : evP F G (.call f es) env = Cm.bd (fun vs => F f vs) (evPs F G es env) := same rfl
theorem p_callK {f h : Nat} : evP F G (.callK f h es ks) env = Cm.bd (fun vs => Cm.bd (fun ws => F f (G.shp h vs ws)) (evPs F G ks env)) (evPs F G es env) := same rfl
theorem p_blt {f : Blt} : evP F G (.blt f es) env = Cm.bd (fun vs => bltP f vs) (evKs F G es env) := same rfl
theorem p_isi {t : Ty} : evP F G (.isi a t) env = Cm.bd (fun x => ofP ((isTyP x t).map .bl)) (pkP a (evP F G a) env) := same rfl
theorem p_idx : evP F G (.idx a b) env = Cm.bd (fun x => Cm.bd (fun y => ixP x y) (pkP b (evP F G b) env)) (pkP a (evP F G a) env) := same rfl
theorem p_slc {lo hi : Oe} : evP F G (.slc a lo hi) env = Cm.bd (fun x => Cm.bd (fun l => Cm.bd (fun h => slP x l h) (evOP F G hi env)) (evOP F G lo env)) (pkP a (evP F G a) env) := same rfl
theorem p_rev : evP F G (.rev a) env = Cm.bd (fun x => revP x) (pkP a (evP F G a) env) := same rfl
theorem p_mth {m : Mth} : evP F G (.mth m a es) env = Cm.bd (fun x => Cm.bd (fun vs => mthP m x vs) (evKs F G es env)) (pkP a (evP F G a) env) := same rfl
/-- a comprehension's turn -/
noncomputable def lcT (F : POrc) (G : PShp) (t : Tg) (o : Oe) (e : E) (env : PEnv) (x : P) : Cm (Option P) := Cm.bd (fun env2 => Cm.bd (fun b => if b then Cm.bd (fun y => .ret (some y)) (evP F G e env2) else .ret none) (tsP F G o env2)) (asP F G t x env)
theorem p_lc {own : List Nat} {t : Tg} {it : It} {o : Oe} : evP F G (.lc own t it o e) env = Cm.bd (fun xs => Cm.bd (fun ys => .ret (.lst ys)) (lcP (lcT F G t o e (wipeP env own)) [] xs)) (evIP F G it env) := same rfl
theorem p_lrg1 {tp : Bool} : evP F G (.lrg1 tp a) env = Cm.bd (fun x => lrgP tp (.int 0) x) (pkP a (evP F G a) env) := same rfl
theorem p_lrg2 {tp : Bool} : evP F G (.lrg2 tp a b) env = Cm.bd (fun x => Cm.bd (fun y => lrgP tp x y) (pkP b (evP F G b) env)) (pkP a (evP F G a) env) := same rfl
theorem pk_lrg1 {tp : Bool} {f : PEnv → Cm P} : pkP (.lrg1 tp a) f env = f env := same rfl
theorem pk_lrg2 {tp : Bool} {f : PEnv → Cm P} : pkP (.lrg2 tp a b) f env = f env := same rfl
theorem pand_1 : evAndP F G (.cons e .nil) env = evP F G e env := same rfl
theorem pand_2 {e2 : E} : evAndP F G (.cons e (.cons e2 es)) env = Cm.bd (fun x => bcaseP x (evAndP F G (.cons e2 es) env) (.ret (.bl false))) (evP F G e env) := same rfl
theorem por_1 : evOrP F G (.cons e .nil) env = evP F G e env := same rfl
theorem por_2 {e2 : E} : evOrP F G (.cons e (.cons e2 es)) env = Cm.bd (fun x => bcaseP x (.ret (.bl true)) (evOrP F G (.cons e2 es) env)) (evP F G e env) := same rfl
theorem ps_nil : evPs F G .nil env = .ret [] := same rfl
theorem ps_cons' : evPs F G (.cons e es) env = Cm.bd (fun x => Cm.bd (fun xs => .ret (x :: xs)) (evPs F G es env)) (evP F G e env) := same rfl
theorem pks_nil : evKs F G .nil env = .ret [] := same rfl
theorem pks_cons : evKs F G (.cons e es) env = Cm.bd (fun x => Cm.bd (fun xs => .ret (x :: xs)) (evKs F G es env)) (pkP e (evP F G e) env) := same rfl
theorem po_none : evOP F G .none env = .ret none := same rfl
theorem po_some : evOP F G (.some e) env = Cm.bd (fun x => icaseP x fun i => .ret (some i)) (evP F G e env) := same rfl
theorem pts_none : tsP F G .none env = .ret true := same rfl
theorem pts_some : tsP F G (.some e) env = Cm.bd (fun x => ofP (truP x)) (pkP e (evP F G e) env) := same rfl
theorem pit_seq : evIP F G (.seq e) env = Cm.bd seqP (pkP e (evP F G e) env) := same rfl
theorem pit_rng1 : evIP F G (.rng1 a) env = Cm.bd rg1P (evP F G a env) := same rfl
theorem pit_rng2 : evIP F G (.rng2 a b) env = Cm.bd (fun x => Cm.bd (fun y => rg2P x y) (evP F G b env)) (evP F G a env) := same rfl
theorem pit_rng3 : evIP F G (.rng3 a b c) env = Cm.bd (fun x => Cm.bd (fun y => Cm.bd (fun z => rg3P x y z) (evP F G c env)) (evP F G b env)) (evP F G a env) := same rfl
theorem pit_enum : evIP F G (.enum e) env = Cm.bd enP (pkP e (evP F G e) env) := same rfl
theorem pit_zip : evIP F G (.zip a b) env = Cm.bd (fun x => Cm.bd (fun y => zpP x y) (pkP b (evP F G b) env)) (pkP a (evP F G a) env) := same rfl
theorem pt_name {i : Nat} : asP F G (.name i) v env = .ret (env.set i (some (v, false))) := same rfl
theorem pt_tup {ts : Tgs} : asP F G (.tup ts) v env = tcase2 v fun vs => asPs F G ts vs env := same rfl
theorem pts_nil' : asPs F G .nil [] env = .ret env := same rfl
theorem pts_cons {t : Tg} {ts : Tgs} {r : List P} : asPs F G (.cons t ts) (v :: r) env = Cm.bd (fun env1 => asPs F G ts r env1) (asP F G t v env) := same rfl
theorem x_asg {t : Tg} : exP F G fr (.asg t e) env = Cm.bd (fun v => Cm.bd (fun env1 => .ret (.nx env1)) (asP F G t v env)) (evP F G e env) := same rfl
theorem x_new {i : Nat} : exP F G fr (.new i e) env = if frE fr e = true then Cm.bd (fun v => .ret (.nx (env.set i (some (v, true))))) (evP F G e env) else .no := same rfl
theorem x_par {i j : Nat} : exP F G fr (.par i j a b) env = Cm.bd (fun x => Cm.bd (fun y => .ret (.nx ((env.set i (some (x, false))).set j (some (y, false))))) (evP F G b env)) (evP F G a env) := same rfl
theorem x_aug {i : Nat} {op : BOp} : exP F G fr (.aug i op e) env = Cm.bd (fun x => Cm.bd (fun y => if augOkP op x = true then Cm.bd (fun z => .ret (.nx (env.set i (some (z, false))))) (binP op x y) else .no) (evP F G e env)) (vget env[i]?) := by
  rcases h : env[i]? with _ | _ | ⟨v, o⟩
  · simp only [exP, h]; rfl
  · simp only [exP, h]; rfl
  · cases o <;> (simp only [exP, h]; rfl)
theorem x_expr : exP F G fr (.expr e) env = Cm.bd (fun _ => .ret (.nx env)) (evP F G e env) := same rfl
theorem x_chg {m : Mth} {i : Nat} : exP F G fr (.chg m i es) env = Cm.bd (fun vs => Cm.bd (fun as => Cm.bd (fun ws => .ret (.nx (env.set i (some (.lst ws, true))))) (chgP m vs as)) (evPs F G es env)) (oget env[i]?) := by
  rcases h : env[i]? with _ | _ | ⟨v, o⟩
  · simp only [exP, h]; rfl
  · simp only [exP, h]; rfl
  · cases o <;> cases v <;> (simp only [exP, h]; rfl)
theorem x_put {i : Nat} {k : E} : exP F G fr (.put i k e) env = Cm.bd (fun vs => Cm.bd (fun v => Cm.bd (fun j => Cm.bd (fun ws => .ret (.nx (env.set i (some (.lst ws, true))))) (putP vs j v)) (evP F G k env)) (evP F G e env)) (oget env[i]?) := by
  rcases h : env[i]? with _ | _ | ⟨v, o⟩
  · simp only [exP, h]; rfl
  · simp only [exP, h]; rfl
  · cases o <;> cases v <;> (simp only [exP, h]; rfl)
theorem x_ret : exP F G fr (.ret e) env = Cm.bd (fun v => .ret (.rt v)) (evP F G e env) := same rfl
theorem x_rtn {i : Nat} : exP F G fr (.rtn i) env = Cm.bd (fun v => .ret (.rt v)) (rget env[i]?) := by
  rcases h : env[i]? with _ | _ | ⟨v, o⟩
  · simp only [exP, h]; rfl
  · simp only [exP, h]; rfl
  · cases o <;> (simp only [exP, h]; rfl)
theorem x_ife {a b : List PC} : exP F G fr (.ife c a b) env = Cm.bd (fun x => tcaseP (truP x) (exPs F G fr a env) (exPs F G fr b env)) (pkP c (evP F G c) env) := same rfl
noncomputable def whT (F : POrc) (G : PShp) (c : E) (env : PEnv) : Cm Bool := Cm.bd (fun x => ofP (truP x)) (pkP c (evP F G c) env)
noncomputable def foT (F : POrc) (G : PShp) (fr : Nat → Bool) (t : Tg) (b : List PC) (x : P) (env : PEnv) : Cm PFl := Cm.bd (fun env1 => exPs F G fr b env1) (asP F G t x env)
theorem x_whl {ws : List Nat} {b : List PC} : exP F G fr (.whl ws c b) env = whlP (whT F G c) (exPs F G fr b) ws whlMost env := same rfl
theorem x_for {ws : List Nat} {t : Tg} {it : It} {b : List PC} : exP F G fr (.for_ ws t it b) env = Cm.bd (fun xs => forP (foT F G fr t b) ws xs env) (evIP F G it (hideP env)) := same rfl
theorem x_pass : exP F G fr .pass env = .ret (.nx env) := same rfl
theorem x_frz {i : Nat} : exP F G fr (.frz i) env = Cm.bd (fun v => .ret (.nx (env.set i (some (v, false))))) (kget env[i]?) := by
  rcases h : env[i]? with _ | _ | ⟨v, o⟩
  · simp only [exP, h]; rfl
  · simp only [exP, h]; rfl
  · cases o <;> (simp only [exP, h]; rfl)
theorem xs_nil : exPs F G fr [] env = .ret (.nx env) := same rfl
theorem xs_cons {s : PC} {cs : List PC} : exPs F G fr (s :: cs) env = Cm.bd (fun f => flP f fun env1 => exPs F G fr cs env1) (exP F G fr s env) := same rfl
theorem wipe_nil : wipeP env [] = env := same rfl
theorem wipe_cons {w : Nat} {ws : List Nat} : wipeP env (w :: ws) = (wipeP env ws).set w none := same rfl
theorem hide_nil : hideP [] = [] := same rfl
theorem hide_none {r : PEnv} : hideP (none :: r) = none :: hideP r := same rfl
theorem hide_sh {r : PEnv} : hideP (some (v, false) :: r) = some (v, false) :: hideP r := same rfl
theorem hide_ow {r : PEnv} : hideP (some (v, true) :: r) = none :: hideP r := same rfl
theorem fo_eq {t : Tg} {b : List PC} {x : P} : foT F G fr t b x env = Cm.bd (fun env1 => exPs F G fr b env1) (asP F G t x env) := same rfl
theorem wh_eq : whT F G c env = Cm.bd (fun x => ofP (truP x)) (pkP c (evP F G c) env) := same rfl
theorem lt_eq {t : Tg} {o : Oe} {x : P} : lcT F G t o e env x = Cm.bd (fun env2 => Cm.bd (fun b => if b = true then Cm.bd (fun y => .ret (some y)) (evP F G e env2) else .ret none) (tsP F G o env2)) (asP F G t x env) := same rfl
/-! operators -/
theorem q_add {i j : Int} : binP .add (.int i) (.int j) = .ret (.int (i + j)) := same rfl
theorem q_sub {i j : Int} : binP .sub (.int i) (.int j) = .ret (.int (i - j)) := same rfl
theorem q_mulL {i j : Int} (h : -18446744073709551616 < i ∧ i < 18446744073709551616) : binP .mul (.int i) (.int j) = .ret (.int (i * j)) := by
  unfold binP; exact if_pos (.inl (.inl h))
theorem q_mulR {i j : Int} (h : -18446744073709551616 < j ∧ j < 18446744073709551616) : binP .mul (.int i) (.int j) = .ret (.int (i * j)) := by
  unfold binP; exact if_pos (.inl (.inr h))
theorem q_fdiv {i j : Int} (h : 0 < j ∧ j < 1073741824) : binP .fdiv (.int i) (.int j) = .ret (.int (i / j)) := by
  unfold binP; exact if_pos (.inl h)
theorem q_mod {i j : Int} (h : 0 < j) : binP .mod (.int i) (.int j) = .ret (.int (i % j)) := by
  unfold binP; exact if_pos h
theorem q_pow {i j : Int} (h : 0 ≤ j ∧ j ≤ 1000000 ∧ -18446744073709551616 < i ∧ i < 18446744073709551616) : binP .pow (.int i) (.int j) = .ret (.int (i ^ j.toNat)) := by
  unfold binP; exact if_pos ⟨h.1, h.2.1, by omega⟩
theorem q_addS {x y : Str} (h : x.length + y.length ≤ sizeLine) : binP .add (.str x) (.str y) = .ret (.str (x ++ y)) := by unfold binP; exact if_pos h
theorem q_addT {x y : List P} (h : x.length + y.length ≤ sizeLine) : binP .add (.tup x) (.tup y) = .ret (.tup (x ++ y)) := by unfold binP; exact if_pos h
theorem q_addL {x y : List P} (h : x.length + y.length ≤ sizeLine) : binP .add (.lst x) (.lst y) = .ret (.lst (x ++ y)) := by unfold binP; exact if_pos h
theorem q_lt {i j : Int} : cmpP .lt (.int i) (.int j) = .ret (.bl (decide (i < j))) := same rfl
theorem q_le {i j : Int} : cmpP .le (.int i) (.int j) = .ret (.bl (decide (i ≤ j))) := same rfl
theorem q_gt {i j : Int} : cmpP .gt (.int i) (.int j) = .ret (.bl (decide (j < i))) := same rfl
theorem q_ge {i j : Int} : cmpP .ge (.int i) (.int j) = .ret (.bl (decide (j ≤ i))) := same rfl
theorem q_eq {x y : P} {r : Bool} (h : eqP x y = some r) : cmpP .eq x y = .ret (.bl r) := by unfold cmpP; rw [h]; rfl
theorem q_ne {x y : P} {r : Bool} (h : eqP x y = some r) : cmpP .ne x y = .ret (.bl (!r)) := by unfold cmpP; rw [h]; rfl
theorem q_eqi {i j : Int} : cmpP .eq (.int i) (.int j) = .ret (.bl (i == j)) := same rfl
theorem q_nei {i j : Int} : cmpP .ne (.int i) (.int j) = .ret (.bl (!(i == j))) := same rfl
theorem q_eqb {i j : Bool} : cmpP .eq (.bl i) (.bl j) = .ret (.bl (i == j)) := same rfl
theorem q_neb {i j : Bool} : cmpP .ne (.bl i) (.bl j) = .ret (.bl (!(i == j))) := same rfl
theorem q_eqs {i j : Str} : cmpP .eq (.str i) (.str j) = .ret (.bl (i == j)) := same rfl
theorem q_nes {i j : Str} : cmpP .ne (.str i) (.str j) = .ret (.bl (!(i == j))) := same rfl
theorem q_isn0 : cmpP .isN .non .non = .ret (.bl true) := same rfl
theorem q_isni {i : Int} : cmpP .isN (.int i) .non = .ret (.bl false) := same rfl
theorem q_isnt {vs : List P} : cmpP .isN (.tup vs) .non = .ret (.bl false) := same rfl
theorem q_isnl {vs : List P} : cmpP .isN (.lst vs) .non = .ret (.bl false) := same rfl
theorem q_notn0 : cmpP .notN .non .non = .ret (.bl false) := same rfl
theorem q_notni {i : Int} : cmpP .notN (.int i) .non = .ret (.bl true) := same rfl
theorem q_notnt {vs : List P} : cmpP .notN (.tup vs) .non = .ret (.bl true) := same rfl
theorem q_notnl {vs : List P} : cmpP .notN (.lst vs) .non = .ret (.bl true) := same rfl
theorem q_eqni {i : Int} : cmpP .eq .non (.int i) = .ret (.bl false) := same rfl
theorem q_eqin {i : Int} : cmpP .eq (.int i) .non = .ret (.bl false) := same rfl
theorem q_eqnn : cmpP .eq .non .non = .ret (.bl true) := same rfl
theorem q_neni {i : Int} : cmpP .ne .non (.int i) = .ret (.bl true) := same rfl
theorem q_nein {i : Int} : cmpP .ne (.int i) .non = .ret (.bl true) := same rfl
theorem q_nenn : cmpP .ne .non .non = .ret (.bl false) := same rfl
theorem tp_bl {b : Bool} : truP (.bl b) = some b := same rfl
theorem tp_int {i : Int} : truP (.int i) = some (i != 0) := same rfl
theorem tp_non : truP .non = some false := same rfl
theorem tp_tup {vs : List P} : truP (.tup vs) = some (!vs.isEmpty) := same rfl
theorem tp_lst {vs : List P} : truP (.lst vs) = some (!vs.isEmpty) := same rfl
theorem q_ixT {vs : List P} {i : Int} : ixP (.tup vs) (.int i) = ofP (atI vs i) := same rfl
theorem q_ixL {vs : List P} {i : Int} : ixP (.lst vs) (.int i) = ofP (atI vs i) := same rfl
theorem q_lenL {vs : List P} : bltP .len [.lst vs] = .ret (.int vs.length) := same rfl
theorem q_lenT {vs : List P} : bltP .len [.tup vs] = .ret (.int vs.length) := same rfl
theorem q_lenS {x : Str} (h : x.length ≤ sizeLine) : bltP .len [.str x] = .ret (.int x.length) := by unfold bltP; exact if_pos h
theorem q_abs {i : Int} : bltP .abs [.int i] = .ret (.int (if i < 0 then -i else i)) := same rfl
theorem q_intb {b : Bool} : bltP .int [.bl b] = .ret (.int (if b then 1 else 0)) := same rfl
theorem q_inti {i : Int} : bltP .int [.int i] = .ret (.int i) := same rfl
theorem q_tupL {vs : List P} : bltP .tuple [.lst vs] = .ret (.tup vs) := same rfl
theorem q_tupT {vs : List P} : bltP .tuple [.tup vs] = .ret (.tup vs) := same rfl
theorem q_lstL {vs : List P} : bltP .list [.lst vs] = .ret (.lst vs) := same rfl
theorem q_lstT {vs : List P} : bltP .list [.tup vs] = .ret (.lst vs) := same rfl
theorem q_max2 {i j : Int} : bltP .max2 [.int i, .int j] = .ret (.int (if j > i then j else i)) := same rfl
theorem q_min2 {i j : Int} : bltP .min2 [.int i, .int j] = .ret (.int (if j < i then j else i)) := same rfl
theorem q_app {vs : List P} (h : vs.length < sizeLine) : chgP .append vs [v] = .ret (vs ++ [v]) := by unfold chgP; exact if_pos h
theorem q_slT {vs : List P} {lo hi : Option Int} : slP (.tup vs) lo hi = .ret (.tup (cutG vs lo hi)) := same rfl
theorem q_slL {vs : List P} {lo hi : Option Int} : slP (.lst vs) lo hi = .ret (.lst (cutG vs lo hi)) := same rfl
theorem q_slS {x : Str} {lo hi : Option Int} (h : x.length ≤ sizeLine) : slP (.str x) lo hi = .ret (.str (cutS x lo hi)) := by unfold slP; exact if_pos h
theorem rgP_nat {n : Nat} : rgP 0 (n : Int) = (List.range n).map fun k => P.int (k : Nat) := by
  unfold rgP
  rw [show ((n : Int) - 0).toNat = n by omega]
  exact List.map_congr_left fun k _ => by rw [Int.zero_add]
theorem q_lrgL {i j : Int} (h : RgOk i j) : lrgP false (.int i) (.int j) = .ret (.lst (rgP i j)) := if_pos h
theorem q_lrgT {i j : Int} (h : RgOk i j) : lrgP true (.int i) (.int j) = .ret (.tup (rgP i j)) := if_pos h
theorem q_revT {vs : List P} : revP (.tup vs) = .ret (.tup vs.reverse) := same rfl
theorem q_revL {vs : List P} : revP (.lst vs) = .ret (.lst vs.reverse) := same rfl
theorem q_seqT {vs : List P} : seqP (.tup vs) = .ret vs := same rfl
theorem q_seqL {vs : List P} : seqP (.lst vs) = .ret vs := same rfl
theorem q_enT {vs : List P} : enP (.tup vs) = .ret (vs.zipIdx.map fun p => .tup [.int (p.2 : Nat), p.1]) := same rfl
theorem q_enL {vs : List P} : enP (.lst vs) = .ret (vs.zipIdx.map fun p => .tup [.int (p.2 : Nat), p.1]) := same rfl
theorem q_zpT {vs ws : List P} : zpP (.tup vs) (.tup ws) = .ret ((vs.zip ws).map fun p => .tup [p.1, p.2]) := same rfl
theorem q_zpL {vs ws : List P} : zpP (.lst vs) (.lst ws) = .ret ((vs.zip ws).map fun p => .tup [p.1, p.2]) := same rfl
theorem q_rg1 {j : Int} (h : -(2 ^ 62) ≤ j ∧ j < 2 ^ 62) : rg1P (.int j) = .ret ((List.range j.toNat).map fun k => .int (k : Nat)) := if_pos h
theorem q_rg2 {i j : Int} (h : -(2 ^ 62) ≤ i ∧ i < 2 ^ 62 ∧ -(2 ^ 62) ≤ j ∧ j < 2 ^ 62) : rg2P (.int i) (.int j) = .ret ((List.range (j - i).toNat).map fun k => .int (i + (k : Nat))) := if_pos h
theorem ag_ai {i : Int} : augOkP .add (.int i) = true := same rfl
theorem ag_si {i : Int} : augOkP .sub (.int i) = true := same rfl
theorem ag_as {x : Str} : augOkP .add (.str x) = true := same rfl
theorem len0P : ([] : List P).length ≤ 1000 := by decide
theorem pa0 {a : P} {l : List P} : atI (a :: l) 0 = some a := by simp [atI, ixN]
theorem pa1 {a b : P} {l : List P} : atI (a :: b :: l) 1 = some b := by
  have h : ixN (a :: b :: l).length 1 = some 1 := by
    unfold ixN
    rw [if_pos (by decide), if_pos (by simp only [List.length_cons]; omega)]; rfl
  unfold atI; rw [h]; rfl
/-! runs of defs -/
noncomputable def bodyP (F : POrc) (G : PShp) (fr : Nat → Bool) (slots : Nat) (bd : List PC) (as : List P) : Cm P := Cm.bd (fun fl => .ret (retP fl)) (exPs F G fr bd (as.map (fun v => some (v, false)) ++ List.replicate (slots - as.length) none))
theorem run_def {tab : Nat → Option PDf} {pr : Prim} {k f : Nat} {d : PDf} {as : List P} (h1 : pr f = none) (h2 : tab f = some d) (h3 : as.length = d.pars) : runP tab pr G fr (k + 1) f as = bodyP (runP tab pr G fr k) G fr d.slots d.body as := by
  rw [runP]; simp only [h1, h2, h3, if_true]; rfl
theorem run_prim {tab : Nat → Option PDf} {pr : Prim} {k f n : Nat} {g : List P → Cm P} {as : List P} (h1 : pr f = some (n, g)) (h2 : n ≤ k) : runP tab pr G fr (k + 1) f as = g as := by
  rw [runP]; simp only [h1, h2, if_true]
theorem retP_rt : retP (.rt v) = v := same rfl
theorem retP_nx : retP (.nx env) = .non := same rfl
theorem body_eq {n : Nat} {bd : List PC} {as : List P} : bodyP F G fr n bd as = Cm.bd (fun fl => .ret (retP fl)) (exPs F G fr bd (as.map (fun v => some (v, false)) ++ List.replicate (n - as.length) none)) := same rfl
end
/-! short names -/
theorem zaa : type_of% @bq_ret := @bq_ret
theorem zab : type_of% @bq_no := @bq_no
theorem zac : type_of% @bq_bd := @bq_bd
theorem zad : type_of% @tcaseP_some := @tcaseP_some
theorem zae : type_of% @tc_t := @tc_t
theorem zaf : type_of% @tc_f := @tc_f
theorem zag : type_of% @tc_n := @tc_n
theorem zah : type_of% @bc_t := @bc_t
theorem zai : type_of% @bc_f := @bc_f
theorem zaj : type_of% @bcaseP_bl := @bcaseP_bl
theorem zak : type_of% @icaseP_int := @icaseP_int
theorem zal : type_of% @flP_nx := @flP_nx
theorem zam : type_of% @flP_rt := @flP_rt
theorem zan : type_of% @vget_some := @vget_some
theorem zao : type_of% @kget_some := @kget_some
theorem zap : type_of% @oget_some := @oget_some
theorem zaq : type_of% @rget_some := @rget_some
theorem zar : type_of% @tcase2_tup := @tcase2_tup
theorem zas : type_of% @pk_var := @pk_var
theorem zat : type_of% @pk_int := @pk_int
theorem zau : type_of% @pk_str := @pk_str
theorem zav : type_of% @pk_bl := @pk_bl
theorem zaw : type_of% @pk_non := @pk_non
theorem zax : type_of% @pk_glob := @pk_glob
theorem zay : type_of% @pk_tup := @pk_tup
theorem zaz : type_of% @pk_lst := @pk_lst
theorem zba : type_of% @pk_dic := @pk_dic
theorem zbb : type_of% @pk_bin := @pk_bin
theorem zbc : type_of% @pk_neg := @pk_neg
theorem zbd : type_of% @pk_not := @pk_not
theorem zbe : type_of% @pk_cmp := @pk_cmp
theorem zbf : type_of% @pk_chain := @pk_chain
theorem zbg : type_of% @pk_and := @pk_and
theorem zbh : type_of% @pk_or := @pk_or
theorem zbi : type_of% @pk_ite := @pk_ite
theorem zbj : type_of% @pk_call := @pk_call
theorem zbk : type_of% @pk_callK := @pk_callK
theorem zbl : type_of% @pk_blt := @pk_blt
theorem zbm : type_of% @pk_isi := @pk_isi
theorem zbn : type_of% @pk_idx := @pk_idx
theorem zbo : type_of% @pk_slc := @pk_slc
theorem zbp : type_of% @pk_rev := @pk_rev
theorem zbq : type_of% @pk_mth := @pk_mth
theorem zbr : type_of% @pk_lc := @pk_lc
theorem zbs : type_of% @p_var := @p_var
theorem zbt : type_of% @p_int := @p_int
theorem zbu : type_of% @p_str := @p_str
theorem zbv : type_of% @p_bl := @p_bl
theorem zbw : type_of% @p_non := @p_non
theorem zbx : type_of% @p_glob := @p_glob
theorem zby : type_of% @p_tup := @p_tup
theorem zbz : type_of% @p_lst := @p_lst
theorem zca : type_of% @p_dic := @p_dic
theorem zcb : type_of% @p_bin := @p_bin
theorem zcc : type_of% @p_neg := @p_neg
theorem zcd : type_of% @p_not := @p_not
theorem zce : type_of% @p_cmp := @p_cmp
theorem zcf : type_of% @p_chain := @p_chain
theorem zcg : type_of% @p_and := @p_and
theorem zch : type_of% @p_or := @p_or
theorem zci : type_of% @p_ite := @p_ite
theorem zcj : type_of% @p_call := @p_call
theorem zck : type_of% @p_callK := @p_callK
theorem zcl : type_of% @p_blt := @p_blt
theorem zcm : type_of% @p_isi := @p_isi
theorem zcn : type_of% @p_idx := @p_idx
theorem zco : type_of% @p_slc := @p_slc
theorem zcp : type_of% @p_rev := @p_rev
theorem zcq : type_of% @p_mth := @p_mth
theorem zcr : type_of% @p_lrg1 := @p_lrg1
theorem zcs : type_of% @p_lrg2 := @p_lrg2
theorem zct : type_of% @pk_lrg1 := @pk_lrg1
theorem zcu : type_of% @pk_lrg2 := @pk_lrg2
theorem zcv : type_of% @pand_1 := @pand_1
theorem zcw : type_of% @pand_2 := @pand_2
theorem zcx : type_of% @por_1 := @por_1
theorem zcy : type_of% @por_2 := @por_2
theorem zcz : type_of% @ps_nil := @ps_nil
theorem zda : type_of% @ps_cons' := @ps_cons'
theorem zdb : type_of% @pks_nil := @pks_nil
theorem zdc : type_of% @pks_cons := @pks_cons
theorem zdd : type_of% @po_none := @po_none
theorem zde : type_of% @po_some := @po_some
theorem zdf : type_of% @pts_none := @pts_none
theorem zdg : type_of% @pts_some := @pts_some
theorem zdh : type_of% @pit_seq := @pit_seq
theorem zdi : type_of% @pit_rng1 := @pit_rng1
theorem zdj : type_of% @pit_rng2 := @pit_rng2
theorem zdk : type_of% @pit_rng3 := @pit_rng3
theorem zdl : type_of% @pit_enum := @pit_enum
theorem zdm : type_of% @pit_zip := @pit_zip
theorem zdn : type_of% @pt_name := @pt_name
theorem zdo : type_of% @pt_tup := @pt_tup
theorem zdp : type_of% @pts_nil' := @pts_nil'
theorem zdq : type_of% @pts_cons := @pts_cons
theorem zdr : type_of% @x_asg := @x_asg
theorem zds : type_of% @x_new := @x_new
theorem zdt : type_of% @x_par := @x_par
theorem zdu : type_of% @x_aug := @x_aug
theorem zdv : type_of% @x_expr := @x_expr
theorem zdw : type_of% @x_chg := @x_chg
theorem zdx : type_of% @x_put := @x_put
theorem zdy : type_of% @x_ret := @x_ret
theorem zdz : type_of% @x_rtn := @x_rtn
theorem zea : type_of% @x_ife := @x_ife
theorem zeb : type_of% @x_pass := @x_pass
theorem zec : type_of% @x_frz := @x_frz
theorem zed : type_of% @xs_nil := @xs_nil
theorem zee : type_of% @xs_cons := @xs_cons
theorem zef : type_of% @wipe_nil := @wipe_nil
theorem zeg : type_of% @wipe_cons := @wipe_cons
theorem zeh : type_of% @hide_nil := @hide_nil
theorem zei : type_of% @hide_none := @hide_none
theorem zej : type_of% @hide_sh := @hide_sh
theorem zek : type_of% @hide_ow := @hide_ow
theorem zel : type_of% @q_add := @q_add
theorem zem : type_of% @q_sub := @q_sub
theorem zen : type_of% @q_mulL := @q_mulL
theorem zeo : type_of% @q_mulR := @q_mulR
theorem zep : type_of% @q_fdiv := @q_fdiv
theorem zeq : type_of% @q_mod := @q_mod
theorem zer : type_of% @q_pow := @q_pow
theorem zes : type_of% @q_addS := @q_addS
theorem zet : type_of% @q_addT := @q_addT
theorem zeu : type_of% @q_addL := @q_addL
theorem zev : type_of% @q_lt := @q_lt
theorem zew : type_of% @q_le := @q_le
theorem zex : type_of% @q_gt := @q_gt
theorem zey : type_of% @q_ge := @q_ge
theorem zez : type_of% @q_eqi := @q_eqi
theorem zfa : type_of% @q_nei := @q_nei
theorem zfb : type_of% @q_eqb := @q_eqb
theorem zfc : type_of% @q_neb := @q_neb
theorem zfd : type_of% @q_eqs := @q_eqs
theorem zfe : type_of% @q_nes := @q_nes
theorem zff : type_of% @q_isn0 := @q_isn0
theorem zfg : type_of% @q_isni := @q_isni
theorem zfh : type_of% @q_isnt := @q_isnt
theorem zfi : type_of% @q_isnl := @q_isnl
theorem zfj : type_of% @q_notn0 := @q_notn0
theorem zfk : type_of% @q_notni := @q_notni
theorem zfl : type_of% @q_notnt := @q_notnt
theorem zfm : type_of% @q_notnl := @q_notnl
theorem zfn : type_of% @q_eqni := @q_eqni
theorem zfo : type_of% @q_eqin := @q_eqin
theorem zfp : type_of% @q_eqnn := @q_eqnn
theorem zfq : type_of% @q_neni := @q_neni
theorem zfr : type_of% @q_nein := @q_nein
theorem zfs : type_of% @q_nenn := @q_nenn
theorem zft : type_of% @tp_bl := @tp_bl
theorem zfu : type_of% @tp_int := @tp_int
theorem zfv : type_of% @tp_non := @tp_non
theorem zfw : type_of% @tp_tup := @tp_tup
theorem zfx : type_of% @tp_lst := @tp_lst
theorem zfy : type_of% @q_ixT := @q_ixT
theorem zfz : type_of% @q_ixL := @q_ixL
theorem zga : type_of% @q_lenL := @q_lenL
theorem zgb : type_of% @q_lenT := @q_lenT
theorem zgc : type_of% @q_lenS := @q_lenS
theorem zgd : type_of% @q_abs := @q_abs
theorem zge : type_of% @q_intb := @q_intb
theorem zgf : type_of% @q_inti := @q_inti
theorem zgg : type_of% @q_tupL := @q_tupL
theorem zgh : type_of% @q_tupT := @q_tupT
theorem zgi : type_of% @q_lstL := @q_lstL
theorem zgj : type_of% @q_lstT := @q_lstT
theorem zgk : type_of% @q_max2 := @q_max2
theorem zgl : type_of% @q_min2 := @q_min2
theorem zgm : type_of% @q_app := @q_app
theorem zgn : type_of% @q_slT := @q_slT
theorem zgo : type_of% @q_slL := @q_slL
theorem zgp : type_of% @q_slS := @q_slS
theorem zgq : type_of% @rgP_nat := @rgP_nat
theorem zgr : type_of% @q_lrgL := @q_lrgL
theorem zgs : type_of% @q_lrgT := @q_lrgT
theorem zgt : type_of% @q_revT := @q_revT
theorem zgu : type_of% @q_revL := @q_revL
theorem zgv : type_of% @q_seqT := @q_seqT
theorem zgw : type_of% @q_seqL := @q_seqL
theorem zgx : type_of% @q_enT := @q_enT
theorem zgy : type_of% @q_enL := @q_enL
theorem zgz : type_of% @q_zpT := @q_zpT
theorem zha : type_of% @q_zpL := @q_zpL
theorem zhb : type_of% @ag_ai := @ag_ai
theorem zhc : type_of% @ag_si := @ag_si
theorem zhd : type_of% @ag_as := @ag_as
theorem zhe : type_of% @len0P := @len0P
theorem zhf : type_of% @pa0 := @pa0
theorem zhg : type_of% @pa1 := @pa1
theorem zhh : type_of% @retP_rt := @retP_rt
theorem zhi : type_of% @retP_nx := @retP_nx
theorem zhj : type_of% @q_rg1 := @q_rg1
theorem zhk : type_of% @q_rg2 := @q_rg2
theorem zhl : type_of% @bd_ret := @bd_ret
theorem zhm : type_of% @bd_no := @bd_no
theorem zhn : type_of% @bd_bd := @bd_bd
theorem zho : type_of% @ofP_some := @ofP_some
theorem zhp : type_of% @Option.map_some := @Option.map_some
theorem zhq : type_of% @List.getElem?_cons_zero := @List.getElem?_cons_zero
theorem zhr : type_of% @List.getElem?_cons_succ := @List.getElem?_cons_succ
theorem zhs : type_of% @List.set_cons_zero := @List.set_cons_zero
theorem zht : type_of% @List.set_cons_succ := @List.set_cons_succ
theorem zhu : type_of% @List.length_cons := @List.length_cons
theorem zhv : type_of% @List.length_nil := @List.length_nil
theorem zhw : type_of% @if_true := @if_true
theorem zhx : type_of% @if_false := @if_false
theorem zhy : type_of% @Bool.false_eq_true := @Bool.false_eq_true
theorem zhz : type_of% @Bool.true_eq_false := @Bool.true_eq_false
theorem zia : type_of% @decide_eq_true_eq := @decide_eq_true_eq
theorem zib : type_of% @beq_self_eq_true := @beq_self_eq_true
theorem zic : type_of% @List.map_cons := @List.map_cons
theorem zid : type_of% @List.map_nil := @List.map_nil
theorem zie : type_of% @List.replicate_succ := @List.replicate_succ
theorem zif : type_of% @List.replicate_zero := @List.replicate_zero
theorem zig : type_of% @List.cons_append := @List.cons_append
theorem zih : type_of% @List.nil_append := @List.nil_append
theorem zii : type_of% @Nat.zero_add := @Nat.zero_add
theorem zij : type_of% @Bool.not_true := @Bool.not_true
theorem zik : type_of% @Bool.not_false := @Bool.not_false
theorem zil : type_of% @decide_true := @decide_true
theorem zim : type_of% @decide_false := @decide_false
theorem zin : type_of% @decide_eq_false_iff_not := @decide_eq_false_iff_not
theorem zio : type_of% @Bool.and_true := @Bool.and_true
theorem zip : type_of% @Bool.true_and := @Bool.true_and
theorem ziq : type_of% @Bool.and_false := @Bool.and_false
theorem zir : type_of% @Bool.false_and := @Bool.false_and
theorem zis : type_of% @not_true_eq_false := @not_true_eq_false
theorem zit : type_of% @not_false_eq_true := @not_false_eq_true
theorem ziu : type_of% @and_self := @and_self
theorem ziv : type_of% @Nat.zero_le := @Nat.zero_le
theorem ziw : type_of% @Bool.not_eq_true' := @Bool.not_eq_true'
theorem zLc : type_of% @p_lc := @p_lc
theorem zFor : type_of% @x_for := @x_for
theorem zWhl : type_of% @x_whl := @x_whl
end Wk

set_option Elab.async false
set_option linter.all false
set_option maxRecDepth 100000
set_option maxHeartbeats 4000000
namespace Wk
open PySem PySem.Spec PyProof.Rows L2
section
variable {α β : Type} {F : POrc} {G : PShp} {fr : Nat → Bool}
/-- a computation that surely answers v, and draws nothing, is that answer -/
theorem ok_eq {c : Cm α} {v : α} {t : Nat} (h : c.ok t fun a t1 => a = v ∧ t1 = t) : c = .ret v := by
  cases c with
  | ret a => obtain ⟨rfl, _⟩ := ok_ret.mp h; rfl
  | no => exact (ok_no.mp h).elim
  | ask m k =>
    have h := ok_ask.mp h
    have h2 := ok_le (h.2.2.2 0 (Int.le_refl _) h.1)
    obtain ⟨a, t1, ⟨_, e⟩, l⟩ := ok_ex h2
    omega
theorem ok_of_eq {c : Cm α} {v : α} {t : Nat} {Q : α → Nat → Prop} (h : c = .ret v) (q : Q v t) : c.ok t Q := by rw [h]; exact ok_ret.mpr q
theorem for_ok {turn : P → PEnv → Cm PFl} {ws : List Nat} {xs : List P} {env : PEnv} {t : Nat} {Q : PFl → Nat → Prop} (Inv : Nat → PEnv → Nat → Prop) (h0 : Inv 0 env t)
    (hs : ∀ (i : Nat) (x : P) (env : PEnv) (t : Nat), xs[i]? = some x → Inv i env t → (turn x env).ok t fun fl t1 => match fl with | .nx env1 => Inv (i + 1) (wipeP env1 ws) t1 | .rt v => Q (.rt v) t1)
    (he : ∀ (env : PEnv) (t : Nat), Inv xs.length env t → Q (.nx env) t) : (forP turn ws xs env).ok t Q := by
  induction xs generalizing env t Inv with
  | nil => exact ok_ret.mpr (he env t h0)
  | cons x xs ih =>
    unfold forP
    rw [ok_bind]
    refine ok_mono (hs 0 x env t rfl h0) fun fl t1 q => ?_
    cases fl with
    | rt v => exact ok_ret.mpr q
    | nx env1 => exact ih (fun i => Inv (i + 1)) q (fun i x env t e => hs (i + 1) x env t e) he
theorem whl_ok {test : PEnv → Cm Bool} {turn : PEnv → Cm PFl} {ws : List Nat} {Q : PFl → Nat → Prop} (Inv : Nat → PEnv → Nat → Prop)
    (hs : ∀ (n : Nat) (env : PEnv) (t : Nat), Inv n env t → (test env).ok t fun b t1 => if b = true then (turn env).ok t1 fun fl t2 => match fl with | .nx env1 => ∃ m, m < n ∧ Inv m (wipeP env1 ws) t2 | .rt v => Q (.rt v) t2 else Q (.nx env) t1) :
    ∀ (k n : Nat) (env : PEnv) (t : Nat), n < k → Inv n env t → (whlP test turn ws k env).ok t Q
  | 0, n, env, t, h, _ => absurd h (Nat.not_lt_zero _)
  | k + 1, n, env, t, h, i => by
    unfold whlP
    rw [ok_bind]
    refine ok_mono (hs n env t i) fun b t1 q => ?_
    cases b with
    | false => exact ok_ret.mpr q
    | true =>
      rw [if_pos rfl] at q ⊢
      rw [ok_bind]
      refine ok_mono q fun fl t2 q => ?_
      cases fl with
      | rt v => exact ok_ret.mpr q
      | nx env1 =>
        obtain ⟨m, hm, i2⟩ := q
        exact whl_ok Inv hs k m _ t2 (by omega) i2
theorem lc_ok {body : P → Cm (Option P)} {xs acc : List P} {t : Nat} {Q : List P → Nat → Prop} (Inv : Nat → List P → Nat → Prop) (h0 : Inv 0 acc t)
    (hs : ∀ (i : Nat) (x : P) (acc : List P) (t : Nat), xs[i]? = some x → Inv i acc t → (body x).ok t fun o t1 => match o with | some y => acc.length < sizeLine ∧ Inv (i + 1) (acc ++ [y]) t1 | none => Inv (i + 1) acc t1)
    (he : ∀ (acc : List P) (t : Nat), Inv xs.length acc t → Q acc t) : (lcP body acc xs).ok t Q := by
  induction xs generalizing acc t Inv with
  | nil => exact ok_ret.mpr (he acc t h0)
  | cons x xs ih =>
    unfold lcP
    rw [ok_bind]
    refine ok_mono (hs 0 x acc t rfl h0) fun o t1 q => ?_
    cases o with
    | none => exact ih (fun i => Inv (i + 1)) q (fun i x acc t e => hs (i + 1) x acc t e) he
    | some y =>
      show (if _ then _ else _ : Cm _).ok _ _
      rw [if_pos q.1]
      exact ih (fun i => Inv (i + 1)) q.2 (fun i x acc t e => hs (i + 1) x acc t e) he
/-- a comprehension that draws nothing -/
theorem lc_fm {body : P → Cm (Option P)} {enc : α → P} {f : α → Option P} : ∀ {xs : List α} {acc : List P}, (∀ x ∈ xs, body (enc x) = .ret (f x)) → acc.length + xs.length ≤ sizeLine →
    lcP body acc (xs.map enc) = .ret (acc ++ xs.filterMap f)
  | [], acc, _, _ => by simp [lcP]
  | x :: xs, acc, h, hl => by
    rw [List.length_cons] at hl
    unfold lcP
    rw [List.map_cons]
    dsimp only
    rw [h x List.mem_cons_self, bd_ret]
    cases e : f x with
    | none =>
      dsimp only
      rw [lc_fm (fun y hy => h y (List.mem_cons_of_mem _ hy)) (by omega), List.filterMap_cons_none e]
    | some y =>
      dsimp only
      rw [if_pos (by omega), lc_fm (fun y hy => h y (List.mem_cons_of_mem _ hy)) (by rw [List.length_append, List.length_singleton]; omega), List.filterMap_cons_some e]
      simp
theorem lc_map {body : P → Cm (Option P)} {enc : α → P} {f : α → P} {xs : List α} (h : ∀ x ∈ xs, body (enc x) = .ret (some (f x))) (hl : xs.length ≤ sizeLine) :
    lcP body [] (xs.map enc) = .ret (xs.map f) := by
  rw [lc_fm (f := fun x => some (f x)) h (by simpa using hl), List.nil_append]
  congr 1
  induction xs with
  | nil => rfl
  | cons x xs ih => rw [List.filterMap_cons_some (f := fun x => some (f x)) (b := f x) rfl, ih (fun y hy => h y (List.mem_cons_of_mem _ hy)) (by rw [List.length_cons] at hl; omega)]; rfl
theorem lc_filter {body : P → Cm (Option P)} {enc : α → P} {p : α → Bool} {f : α → P} {xs : List α} (h : ∀ x ∈ xs, body (enc x) = .ret (if p x = true then some (f x) else none)) (hl : xs.length ≤ sizeLine) :
    lcP body [] (xs.map enc) = .ret ((xs.filter p).map f) := by
  rw [lc_fm (f := fun x => if p x = true then some (f x) else none) h (by simpa using hl), List.nil_append]
  congr 1
  clear h hl
  induction xs with
  | nil => rfl
  | cons x xs ih =>
    by_cases hp : p x = true
    · rw [List.filterMap_cons_some (b := f x) (by simp [hp]), List.filter_cons_of_pos hp, ih]; rfl
    · rw [List.filterMap_cons_none (by simp [hp]), List.filter_cons_of_neg hp, ih]
/-- a loop over a state, nothing drawn, nothing handed out -/
theorem for_fold {σ : Type} {turn : P → PEnv → Cm PFl} {ws : List Nat} {enc : α → P} {ev : σ → PEnv} {step : σ → α → σ} (ok : σ → Prop) : ∀ {xs : List α} {s : σ}, ok s →
    (∀ s x, x ∈ xs → ok s → ok (step s x) ∧ ∃ env', turn (enc x) (ev s) = .ret (.nx env') ∧ wipeP env' ws = ev (step s x)) → forP turn ws (xs.map enc) (ev s) = .ret (.nx (ev (xs.foldl step s)))
  | [], s, _, _ => rfl
  | x :: xs, s, hs, h => by
    obtain ⟨h1, env', e, e2⟩ := h s x List.mem_cons_self hs
    rw [List.map_cons]
    unfold forP
    rw [e, bd_ret]
    dsimp only
    rw [e2]
    exact for_fold ok h1 fun s y hy => h s y (List.mem_cons_of_mem _ hy)
/-- a loop that looks for the first thing that ends it -/
theorem for_find {turn : P → PEnv → Cm PFl} {ws : List Nat} {enc : α → P} {env : PEnv} {g : α → Option P} : ∀ {xs : List α},
    (∀ x, x ∈ xs → ∃ env', turn (enc x) env = .ret (match g x with | some v => .rt v | none => .nx env') ∧ wipeP env' ws = env) → forP turn ws (xs.map enc) env = .ret (match xs.findSome? g with | some v => .rt v | none => .nx env)
  | [], _ => rfl
  | x :: xs, h => by
    obtain ⟨env', e, e2⟩ := h x List.mem_cons_self
    rw [List.map_cons]
    unfold forP
    rw [e, bd_ret, List.findSome?_cons]
    cases q : g x with
    | some v => rfl
    | none =>
      dsimp only
      rw [e2]
      exact for_find fun y hy => h y (List.mem_cons_of_mem _ hy)
end

/-- a loop whose turns leave all as it is, and draw at most c times each -/
theorem for_same {turn : P → PEnv → Cm PFl} {ws : List Nat} {xs : List P} {env : PEnv} {t c m : Nat} (ht : t + c * xs.length ≤ m)
    (h : ∀ x t, x ∈ xs → t + c ≤ m → (turn x env).ok t fun fl t1 => t1 ≤ t + c ∧ ∃ env', fl = .nx env' ∧ wipeP env' ws = env) : (forP turn ws xs env).ok t fun fl t1 => fl = .nx env ∧ t1 ≤ t + c * xs.length := by
  refine for_ok (fun i e u => e = env ∧ u ≤ t + c * i) ⟨rfl, Nat.le_refl _⟩ (fun i x e u hx hi => ?_) fun e u hi => ⟨by rw [hi.1], hi.2⟩
  obtain ⟨rfl, hu⟩ := hi
  have hl : i + 1 ≤ xs.length := (List.getElem?_eq_some_iff.mp hx).1
  have h2 : c * (i + 1) ≤ c * xs.length := Nat.mul_le_mul_left c hl
  rw [Nat.mul_succ] at h2
  refine ok_mono (h x u (List.mem_of_getElem? hx) (by omega)) fun fl t1 q => ?_
  obtain ⟨q1, env', rfl, q3⟩ := q
  exact ⟨q3, by rw [Nat.mul_succ]; omega⟩

/-! ### values of the program's kinds -/
def hdP (h : Nat × Nat) : P := .tup [.int h.1, .int h.2]
def trP (T : List (Nat × Nat)) : P := .tup (T.map hdP)
def nsP (r : List Nat) : List P := r.map fun n => .int (n : Nat)
def rowP (r : List Nat) : P := .tup (nsP r)
theorem atI_nat' {α : Type} {xs : List α} {n : Nat} : atI xs (n : Int) = xs[n]? := by
  unfold atI ixN
  rw [if_pos (by omega)]
  by_cases h : (n : Int) < xs.length
  · rw [if_pos h]; simp
  · rw [if_neg h, List.getElem?_eq_none (by omega)]; rfl
theorem atI_map' {α β : Type} {xs : List α} {f : α → β} {i : Int} : atI (xs.map f) i = (atI xs i).map f := by
  unfold atI
  rw [List.length_map]
  cases ixN xs.length i with
  | none => rfl
  | some j => simp [List.getElem?_map]
theorem tr_get {T : List (Nat × Nat)} {n : Nat} : atI (T.map hdP) (n : Int) = T[n]?.map hdP := by rw [atI_nat', List.getElem?_map]
theorem ns_get {r : List Nat} {n : Nat} : atI (nsP r) (n : Int) = r[n]?.map fun n => P.int (n : Nat) := by unfold nsP; rw [atI_nat', List.getElem?_map]
theorem ns_len {r : List Nat} : (nsP r).length = r.length := by unfold nsP; rw [List.length_map]
/-- (beat less rest) by gap -/
theorem mod0 {b : Int} {g r : Nat} (hr : r < g) : ((b - r) % g == 0) = (b % g == r) := by
  rw [Bool.eq_iff_iff, beq_iff_eq, beq_iff_eq]
  have e : (r : Int) % g = r := Int.emod_eq_of_lt (by omega) (by omega)
  rw [← Int.emod_eq_emod_iff_emod_sub_eq_zero, e]
end Wk

set_option Elab.async false
set_option linter.all false
set_option maxRecDepth 100000
set_option maxHeartbeats 4000000
namespace Wk
open PySem PySem.Spec PyProof.Rows L2
/-! ### pens on values -/
theorem penI_D : PenI PenD := ⟨fun S S' p c t h1 h2 ⟨a, l, ns, g1, g2, g⟩ => ⟨a, l, ns, h1.trans g1, h2.trans g2, g⟩⟩
theorem penI_L : PenI PenL := ⟨fun S S' p c t h1 h2 ⟨a, l, ns, g1, g2, g⟩ => ⟨a, l, ns, h1.trans g1, h2.trans g2, g⟩⟩
/-- a row of so many numbers drawn one by one out of what is left -/
def pickC : Nat → List P → Cm (List P)
  | 0, _ => .ret []
  | n + 1, left => .ask left.length fun r => (pickC n (left.eraseIdx r.toNat)).bind fun rest => .ret (left.getD r.toNat .non :: rest)
def rowC : List P → Cm P
  | [.pen, .int n] => if 0 ≤ n ∧ n ≤ 1000 then (pickC n.toNat (rgP 0 n)).bind fun r => .ret (.tup r) else .no
  | _ => .no
def rowB (dr : Nat) : Cs := (.cons (.asg (.name 2) (.lrg1 false (.var 1))) (.cons (.ret (.blt .tuple (.cons (.lc [3] (.name 3) (.rng1 (.var 1)) .none (.mth .pop1 (.var 2) (.cons (.call dr (.cons (.var 0) (.cons (.blt .len (.cons (.var 2) .nil)) .nil))) .nil))) .nil))) .nil))
section
variable {I : Sto → Nat → Nat → Nat → Prop} {p c : Nat} {F : Orc} {G : Shp}
/-- the draw as it is on the store -/
def DrawOk (I : Sto → Nat → Nat → Nat → Prop) (p c : Nat) (w : List D → Sto → Res D) : Prop := ∀ (S : Sto) (t : Nat) (m : Int), I S p c t → c ≠ p → t < askMost → 0 < m → m < askWide → ∃ r S', w [.loc p, .int m] S = .ok (.int r) S' ∧ 0 ≤ r ∧ r < m ∧ Kp p S S' ∧ I S' p c (t + 1)
theorem draw_sm {w : List D → Sto → Res D} (h : DrawOk I p c w) {S : Sto} {z : Nat → Prop} (wo : WOk p c S z) (m : Int) : Sm I p c S.length S z (fun S' z' (v : Int) d => z' = z ∧ d = .int v ∧ 0 ≤ v ∧ v < m) (w [.loc p, .int m] S) (.ask m fun r => .ret r) := by
  intro t Q i qv
  obtain ⟨m0, m1, ht, hq⟩ := ok_ask.mp qv
  obtain ⟨x, S', e, x0, x1, kp, i'⟩ := h S t m i (fun e => wo.pen (by rw [← e]; exact wo.cel)) ht m0 m1
  have fz : ∀ l, z l → S'[l]? = S[l]? := fun l hl => kp.2 l (wo.lt l hl) fun e => wo.pen (by rw [← e]; exact hl)
  exact ⟨_, S', z, x, t + 1, e, ⟨kp.1, fun l hl => ⟨hl, fz l hl⟩, fun l hl hp hz => ⟨hz, kp.2 l hl hp⟩⟩, ⟨wo.pen, wo.cel, fun l hl => Nat.lt_of_lt_of_le (wo.lt l hl) kp.1, Nat.lt_of_lt_of_le wo.pl kp.1⟩, ⟨rfl, rfl, x0, x1⟩, i', ok_ret.mp (hq x x0 x1)⟩
theorem eraseIdx_map {α β : Type} (f : α → β) : ∀ (l : List α) (n : Nat), (l.map f).eraseIdx n = (l.eraseIdx n).map f
  | [], _ => rfl
  | _ :: _, 0 => rfl
  | a :: l, n + 1 => congrArg (f a :: ·) (eraseIdx_map f l n)
theorem lens_loc {S : Sto} {l : Nat} {ds : List D} (h : S[l]? = some (.lst ds)) : bltop .len [.loc l] S = .ok (.int ds.length) S := by
  show ofO ((items S (.loc l)).map fun ds => D.int ds.length) S = _; rw [it_lst h]; rfl
theorem row_lc {dr b l : Nat} {n0 : Int} {o2 : Option D} (hI : PenI I) (hd : DrawOk I p c (F dr)) (hb : b ≤ l) (hp : l ≠ p) :
    ∀ (xs : List D) (ns : List Int) (acc : List P) (as : List D) (S : Sto) (z : Nat → Prop), xs.length ≤ ns.length → ns.length ≤ 1000 → acc.length + xs.length ≤ 1000 → S[l]? = some (.lst (ns.map D.int)) → ¬ z l → b ≤ S.length → WOk p c S z → Rps p S z acc as →
      Sm I p c b S z (fun S' z' v d => Rps p S' z' (acc ++ v) d) (lcGo (lcBody F G [3] (.name 3) .none (.mth .pop1 (.var 2) (.cons (.call dr (.cons (.var 0) (.cons (.blt .len (.cons (.var 2) .nil)) .nil))) .nil)) [some (.loc p), some (.int n0), some (.loc l), o2]) (fun _ => True) as xs S) (pickC xs.length (ns.map P.int)) := by
  intro xs
  induction xs with
  | nil =>
    intro ns acc as S z _ _ _ _ _ _ w r
    unfold lcGo
    rw [if_pos trivial]
    refine .ret w ?_
    rw [List.append_nil]; exact r
  | cons x xs ih =>
    intro ns acc as S z hx hn ha hl hz hb2 w r
    unfold lcGo
    rw [if_pos trivial]
    have e1 : lcBody F G [3] (.name 3) .none (.mth .pop1 (.var 2) (.cons (.call dr (.cons (.var 0) (.cons (.blt .len (.cons (.var 2) .nil)) .nil))) .nil)) [some (.loc p), some (.int n0), some (.loc l), o2] x S = (F dr [.loc p, .int ns.length] S).bind fun d S1 => (mthop .pop1 (.loc l) [d] S1).bind fun y S2 => .ok (some y) S2 := by
      have lc0 : wipeE [some (D.loc p), some (.int n0), some (.loc l), o2] [3] = [some (D.loc p), some (.int n0), some (.loc l), none] := rfl
      have mt : mthTy .pop1 (.loc l) S = true := by show (items S (.loc l)).isSome = true; rw [it_lst hl]; rfl
      have e2 : lcBody F G [3] (.name 3) .none (.mth .pop1 (.var 2) (.cons (.call dr (.cons (.var 0) (.cons (.blt .len (.cons (.var 2) .nil)) .nil))) .nil)) [some (.loc p), some (.int n0), some (.loc l), o2] x S = ((if mthTy .pop1 (.loc l) S = true then ((((bltop .len [.loc l] S).bind fun x S1 => .ok [x] S1).bind fun xs S2 => .ok (.loc p :: xs) S2).bind fun ds S1 => F dr ds S1).bind (fun y S2 => (Res.ok [] S2).bind fun ys S3 => .ok (y :: ys) S3) |>.bind fun ds S2 => mthop .pop1 (.loc l) ds S2 else .no) : Res D).bind fun y S5 => .ok (some y) S5 := rfl
      rw [e2, if_pos mt, lens_loc hl, List.length_map]
      simp only [bind_ok]
      cases F dr [.loc p, .int ns.length] S <;> rfl
    have e3 : pickC (xs.length + 1) (ns.map P.int) = .ask ns.length fun r => (pickC xs.length ((ns.eraseIdx r.toNat).map P.int)).bind fun rest => .ret ((ns.map P.int).getD r.toNat .non :: rest) := by
      show Cm.ask ((ns.map P.int).length : Int) _ = _
      rw [List.length_map]
      congr 1
      funext r
      rw [eraseIdx_map]
    have e4 : pickC (x :: xs).length (ns.map P.int) = (Cm.ask (ns.length : Int) fun r => .ret r).bind fun r => (pickC xs.length ((ns.eraseIdx r.toNat).map P.int)).bind fun rest => .ret ((ns.map P.int).getD r.toNat .non :: rest) := e3
    rw [e1, e4]
    have assoc : (((F dr [.loc p, .int ns.length] S).bind fun d S1 => (mthop .pop1 (.loc l) [d] S1).bind fun y S2 => Res.ok (some y) S2).bind fun o S1 => match o with
        | some y => if as.length < sizeLine then lcGo (lcBody F G [3] (.name 3) .none (.mth .pop1 (.var 2) (.cons (.call dr (.cons (.var 0) (.cons (.blt .len (.cons (.var 2) .nil)) .nil))) .nil)) [some (.loc p), some (.int n0), some (.loc l), o2]) (fun _ => True) (as ++ [y]) xs S1 else .no
        | none => lcGo (lcBody F G [3] (.name 3) .none (.mth .pop1 (.var 2) (.cons (.call dr (.cons (.var 0) (.cons (.blt .len (.cons (.var 2) .nil)) .nil))) .nil)) [some (.loc p), some (.int n0), some (.loc l), o2]) (fun _ => True) as xs S1)
        = (F dr [.loc p, .int ns.length] S).bind fun d S1 => (mthop .pop1 (.loc l) [d] S1).bind fun y S2 => if as.length < sizeLine then lcGo (lcBody F G [3] (.name 3) .none (.mth .pop1 (.var 2) (.cons (.call dr (.cons (.var 0) (.cons (.blt .len (.cons (.var 2) .nil)) .nil))) .nil)) [some (.loc p), some (.int n0), some (.loc l), o2]) (fun _ => True) (as ++ [y]) xs S2 else .no := by
      cases F dr [.loc p, .int ns.length] S with
      | no => rfl
      | ok d S1 => show ((mthop .pop1 (.loc l) [d] S1).bind _).bind _ = (mthop .pop1 (.loc l) [d] S1).bind _; cases mthop .pop1 (.loc l) [d] S1 <;> rfl
    refine Sm.eq ?_ assoc rfl
    refine Sm.stepE hb2 (draw_sm hd w ns.length) fun v d S1 z1 ex w1 ⟨hz1, hv, v0, v1⟩ => ?_
    subst hz1; subst hv
    have hl1 : S1[l]? = some (.lst (ns.map D.int)) := (ex.own l (get_lt hl) hp hz).2.trans hl
    obtain ⟨y, hy⟩ : ∃ y, ns[v.toNat]? = some y := ⟨_, List.getElem?_eq_getElem (by omega)⟩
    have e5 : mthop .pop1 (.loc l) [.int v] S1 = .ok (.int y) (S1.set l (.lst ((ns.eraseIdx v.toNat).map D.int))) := by
      simp only [mthop, lstAt, hl1]
      rw [if_pos ⟨v0, by omega⟩]
      simp only [List.getElem?_map, hy, Option.map_some, eraseIdx_map]
    rw [e5, bind_ok]
    have hlen : as.length < sizeLine := by
      rw [← r.length]; unfold sizeLine
      have : acc.length < 1000 := by rw [List.length_cons] at ha; omega
      exact Nat.lt_of_lt_of_le this (by decide)
    rw [if_pos hlen]
    have exs : Ex p b S1 z1 (S1.set l (.lst ((ns.eraseIdx v.toNat).map D.int))) z1 := .chg hb hz
    have wos : WOk p c (S1.set l (.lst ((ns.eraseIdx v.toNat).map D.int))) z1 := ⟨w1.pen, w1.cel, fun k hk => by rw [List.length_set]; exact w1.lt k hk, by rw [List.length_set]; exact w1.pl⟩
    have hel : (ns.eraseIdx v.toNat).length = ns.length - 1 := by rw [List.length_eraseIdx]; rw [if_pos (by omega)]
    have g : (ns.map P.int).getD v.toNat .non = .int y := by rw [List.getD_eq_getElem?_getD, List.getElem?_map, hy]; rfl
    have ihh := ih (ns.eraseIdx v.toNat) (acc ++ [.int y]) (as ++ [.int y]) _ z1 (by rw [hel]; rw [List.length_cons] at hx; omega) (by rw [hel]; omega) (by rw [List.length_append, List.length_singleton]; rw [List.length_cons] at ha; omega) (set_new hl1) hz (by rw [List.length_set]; exact Nat.le_trans hb2 ex.len) wos (((r.mono ex).mono exs).append (.one (.int y)))
    rw [g]
    intro t Q i q
    have i2 : I (S1.set l (.lst ((ns.eraseIdx v.toNat).map D.int))) p c t := hI.stable _ _ _ _ _ (List.getElem?_set_ne hp) (List.getElem?_set_ne (fun e => hz (by rw [e]; exact w1.cel))) i
    rw [ok_bind] at q
    obtain ⟨d', S', z', v', t', e6, ex6, wo6, r6, i6, q6⟩ := ihh t _ i2 q
    refine ⟨d', S', z', .int y :: v', t', e6, exs.trans ex6, wo6, ?_, i6, ok_ret.mp q6⟩
    have : acc ++ .int y :: v' = (acc ++ [.int y]) ++ v' := by simp
    show Rps p S' z' (acc ++ .int y :: v') d'
    rw [this]; exact r6
theorem row_sim {dr : Nat} (hI : PenI I) (hd : DrawOk I p c (F dr)) {q : Bool} (vs : List P) (ds : List D) (S : Sto) (z : Nat → Prop) (w : WOk p c S z) (r : Rps p S z vs ds) :
    Sm I p c S.length S z (Rf p q S.length) ((exCs F G (rowB dr) (ds.map some ++ List.replicate (4 - ds.length) none) S).bind fun fl S1 => .ok (retOf fl) S1) (rowC vs) := by
  unfold rowC
  split
  · rename_i n
    cases r with | cons r1 r =>
    cases r1
    cases r with | cons r2 r =>
    cases r2
    cases r
    split
    · rename_i hn
      have ok : RgOk 0 n := .of_le (by omega) (by omega) (by omega) (by omega)
      have el : lrgop false (.int 0) (.int n) S = alloc S (.lst (rgD 0 n)) := if_pos ok
      have er : rgD 0 n = ((List.range n.toNat).map fun k : Nat => (k : Int)).map D.int := by
        unfold rgD
        rw [List.map_map, show (n - 0).toNat = n.toNat by omega]
        exact List.map_congr_left fun k _ => by show D.int (0 + ((k : Nat) : Int)) = D.int ((k : Nat) : Int); rw [Int.zero_add]
      have erP : rgP 0 n = ((List.range n.toNat).map fun k : Nat => (k : Int)).map P.int := by
        unfold rgP
        rw [List.map_map, show (n - 0).toNat = n.toNat by omega]
        exact List.map_congr_left fun k _ => by show P.int (0 + ((k : Nat) : Int)) = P.int ((k : Nat) : Int); rw [Int.zero_add]
      have r1 : evI F G (.rng1 (.var 1)) [some (.loc p), some (.int n), some (.loc S.length), none] (S ++ [.lst (rgD 0 n)]) = .ok ⟨(List.range n.toNat).map fun k => .int (k : Nat), fun _ => True⟩ (S ++ [.lst (rgD 0 n)]) := by
        rw [i_rng1]
        show rng1op (.int n) _ = _
        exact if_pos ⟨by omega, by omega⟩
      have eW : exCs F G (rowB dr) ([D.loc p, .int n].map some ++ List.replicate (4 - [D.loc p, .int n].length) none) S = ((lcGo (lcBody F G [3] (.name 3) .none (.mth .pop1 (.var 2) (.cons (.call dr (.cons (.var 0) (.cons (.blt .len (.cons (.var 2) .nil)) .nil))) .nil)) [some (.loc p), some (.int n), some (.loc S.length), none]) (fun _ => True) [] ((List.range n.toNat).map fun k => .int (k : Nat)) (S ++ [.lst (rgD 0 n)])).bind fun ys S6 => alloc S6 (.lst ys)).bind (fun x S1 => (bltop .tuple [x] S1).bind fun v S2 => .ok (.rt v) S2) := by
        have e1 : exCs F G (rowB dr) ([D.loc p, .int n].map some ++ List.replicate (4 - [D.loc p, .int n].length) none) S = ((lrgop false (.int 0) (.int n) S).bind fun x S1 => exCs F G (.cons (.ret (.blt .tuple (.cons (.lc [3] (.name 3) (.rng1 (.var 1)) .none (.mth .pop1 (.var 2) (.cons (.call dr (.cons (.var 0) (.cons (.blt .len (.cons (.var 2) .nil)) .nil))) .nil))) .nil))) .nil) [some (.loc p), some (.int n), some x, none] S1) := by
          unfold rowB
          rw [cs_cons, c_asg]
          show (((lrgop false (.int 0) (.int n) S).bind fun x S1 => (Res.ok ([some (D.loc p), some (.int n), some x, none] : Env) S1).bind fun env1 S2 => Res.ok (Fl.nx env1) S2).bind _) = _
          cases lrgop false (.int 0) (.int n) S <;> rfl
        rw [e1, el]
        show exCs F G _ _ (S ++ [.lst (rgD 0 n)]) = _
        rw [cs_cons, c_ret, e_blt, es_cons, e_lc, r1, bind_ok]
        dsimp only
        cases lcGo (lcBody F G [3] (.name 3) .none (.mth .pop1 (.var 2) (.cons (.call dr (.cons (.var 0) (.cons (.blt .len (.cons (.var 2) .nil)) .nil))) .nil)) [some (.loc p), some (.int n), some (.loc S.length), none]) (fun _ => True) [] ((List.range n.toNat).map fun k => .int (k : Nat)) (S ++ [.lst (rgD 0 n)]) with
        | no => rfl
        | ok ys S6 =>
          show (((bltop .tuple [.loc S6.length] (S6 ++ [.lst ys])).bind fun x S1 => Res.ok (Fl.rt x) S1).bind fun f S1 => flcase f (fun env1 => exCs F G .nil env1 S1) S1) = (bltop .tuple [.loc S6.length] (S6 ++ [.lst ys])).bind fun v S2 => .ok (.rt v) S2
          cases bltop .tuple [.loc S6.length] (S6 ++ [.lst ys]) <;> rfl
      rw [eW]
      have main := row_lc (G := G) (n0 := n) (o2 := none) (b := S.length) (l := S.length) (dr := dr) hI hd (Nat.le_refl _) (by have := w.pl; omega) ((List.range n.toNat).map fun k => D.int (k : Nat)) ((List.range n.toNat).map fun k : Nat => (k : Int)) [] [] (S ++ [.lst (rgD 0 n)]) z
        (by simp) (by simp; omega) (by simp; omega) (by rw [er]; exact ap_new) w.notnew (by simp) w.push .nil
      rw [← erP] at main
      simp only [List.length_map, List.length_range] at main
      intro t Q i q
      rw [ok_bind] at q
      obtain ⟨d', S', z', v', t', e6, ex6, wo6, r6, i6, q6⟩ := main t _ (hI.stable _ _ _ _ _ (List.getElem?_append_left w.pl) (List.getElem?_append_left (w.lt _ w.cel)) i) q
      rw [e6]
      have r6 : Rps p S' z' v' d' := r6
      have ex : Ex p S.length S z (S' ++ [.lst d']) z' := ((Ex.push w (Nat.le_refl _)).trans ex6).trans (.push wo6 (by have := ex6.len; simp at this; omega))
      refine ⟨.tup d', S' ++ [.lst d'], z', .tup v', t', ?_, ex, wo6.push, ?_, hI.stable _ _ _ _ _ (List.getElem?_append_left wo6.pl) (List.getElem?_append_left (wo6.lt _ wo6.cel)) i6, ok_ret.mp q6⟩
      · show (((bltop .tuple [.loc S'.length] (S' ++ [.lst d'])).bind fun v S2 => Res.ok (Fl.rt v) S2).bind fun fl S1 => .ok (retOf fl) S1) = _
        have : bltop .tuple [.loc S'.length] (S' ++ [.lst d']) = .ok (.tup d') (S' ++ [.lst d']) := by
          have e : items (S' ++ [.lst d']) (.loc S'.length) = some d' := it_lst ap_new
          simp only [bltop, e]; rfl
        rw [this]; rfl
      · have r7 : Rps p (S' ++ [.lst d']) z' v' d' := r6.mono (.push wo6 (Nat.le_refl _))
        unfold Rf; split
        · exact .tup r7
        · exact .tup r7
    · exact .no
  · exact .no
end
end Wk

set_option Elab.async false
set_option linter.all false
set_option maxRecDepth 100000
set_option maxHeartbeats 4000000
namespace Wk
open PySem PySem.Spec PyProof.Rows L2
/-! ### a law's end, by its pen's kind -/
noncomputable def defRun (F : Orc) (G : Shp) (n : Nat) (bd : Cs) (as : List D) (S : Sto) : Res D := (exCs F G bd (as.map some ++ List.replicate (n - as.length) none) S).bind fun fl S1 => .ok (retOf fl) S1
structure Kind where
  I : Sto → Nat → Nat → Nat → Prop
  hI : PenI I
  db : Cs
  ds : Nat
  pb : Cs
  draw : ∀ (F : Orc) (G : Shp) (p c : Nat), DrawOk I p c (defRun F G ds db)
  pen : ∀ (F : Orc) (G : Shp) (ns : List Int), ∃ p c S1, defRun F G 1 pb [.loc 0] [.scr (ns.map D.int)] = .ok (.loc p) S1 ∧ I S1 p c 0 ∧ c ≠ p ∧ c < S1.length ∧ p < S1.length
theorem run_at {T : Txt} {k f : Nat} {fi : Fi} {bd : Cs} {n m : Nat} {as : List D} {S : Sto} (h : T.tab[f]? = some fi) (hb : fi.body = bd) (hN : fi.N.length = n) (hp : fi.ps.length = m) (hl : as.length = m) : T.run (k + 1) f as S = defRun (T.run k) T.shp n bd as S := by
  rw [run_step, h]
  dsimp only
  rw [if_pos (by rw [hp, hl])]
  subst hb; subst hN; rfl
structure PrOk (K : Kind) (T : Txt) (pr : Prim) (df : Nat) : Prop where
  pr : ∀ (f n : Nat) (g : List P → Cm P), pr f = some (n, g) → (f = df ∧ g = drawP) ∨ (1 ≤ n ∧ g = rowC ∧ ∃ fi, T.tab[f]? = some fi ∧ fi.body = rowB df ∧ fi.N.length = 4 ∧ fi.ps.length = 2)
  dr : ∃ fi, T.tab[df]? = some fi ∧ fi.body = K.db ∧ fi.N.length = K.ds ∧ fi.ps.length = 2
theorem len2 {p : Nat} {S : Sto} {z : Nat → Prop} {vs : List P} {ds : List D} (r : Rps p S z vs ds) : vs.length = ds.length := r.length
theorem law_end (K : Kind) {T : Txt} {tab : Nat → Option PDf} {pr : Prim} {fr : Nat → Bool} {k li df pf sl : Nat} {rest : List PC} {fi pfi : Fi}
    (hpr : PrOk K T pr df) (ht : TabOk T tab fr) (hd : T.dfl.all plainD = true) (hc : (T.cs.map (·.2)).all plainD = true)
    (hfi : T.tab[li]? = some fi) (hb : fi.body = .cons (.asg (.name 1) (.call pf (.cons (.var 0) .nil))) (erCs rest)) (hps : fi.ps.length = 1) (hN : fi.N.length = sl + 2)
    (hpfi : T.tab[pf]? = some pfi) (hpb : pfi.body = K.pb) (hpN : pfi.N.length = 1) (hpp : pfi.ps.length = 1)
    (hl : (exPs (runP tab pr T.shpP fr (k + 1)) T.shpP fr rest (none :: some (.pen, false) :: List.replicate sl none)).ok 0 fun fl _ => fl = .rt (.bl true)) (ns : List Int) :
    (T.run (k + 2) li [.loc 0] [.scr (ns.map D.int)]).wp fun v _ => v = .bl true := by
  refine law_of (I := K.I) (pi := 0) K.hI ht hd hc hfi hb hps hN ?_ hl
  obtain ⟨p, c, S1, e, i, h1, h2, h3⟩ := K.pen (T.run k) T.shp ns
  refine ⟨p, c, S1, ?_, i, h1, h2, h3, fun f n g hf k hk vs ds S z w r => ?_⟩
  · rw [run_at hpfi hpb hpN hpp rfl]; exact e
  · obtain ⟨dfi, d1, d2, d3, d4⟩ := hpr.dr
    have dok : ∀ k, DrawOk K.I p c (T.run (k + 1) df) := fun k S t m i ne ht h0 h1 => by
      rw [run_at d1 d2 d3 d4 rfl]; exact K.draw (T.run k) T.shp p c S t m i ne ht h0 h1
    rcases hpr.pr f n g hf with ⟨rfl, rfl⟩ | ⟨hn, rfl, rfi, r1, r2, r3, r4⟩
    · exact draw_sim K.hI (fun S t m i ne ht h0 h1 => dok k S t m i ne ht h0 h1) vs ds S z w r
    · obtain ⟨j, rfl⟩ : ∃ j, k = j + 1 := ⟨k - 1, by omega⟩
      have h := row_sim (F := T.run (j + 1)) (G := T.shp) (dr := df) (q := fr f) K.hI (dok j) vs ds S z w r
      by_cases hl : ds.length = 2
      · rw [run_at r1 r2 r3 r4 hl]; exact h
      · intro t Q i q
        exfalso
        have hv : vs.length ≠ 2 := by rw [r.length]; exact hl
        unfold rowC at q
        split at q
        · exact hv rfl
        · exact (ok_no.mp q).elim
theorem take_ints (ns : List Int) : ∃ ms : List Int, cutG (ns.map D.int) none (some 63) = ms.map D.int := by
  refine ⟨cutG ns none (some 63), ?_⟩
  unfold cutG
  rw [List.length_map, List.map_take, List.map_drop]
def penDB : Cs := (.cons (.ret (.dic ["cells", "at", "left"] (.cons (.blt .list (.cons (.slc (.var 0) .none (.some (.int 63))) .nil)) (.cons (.int 0) (.cons (.int 0) .nil))))) .nil)
def penLB : Cs := (.cons (.ret (.lst (.cons (.blt .list (.cons (.slc (.var 0) .none (.some (.int 63))) .nil)) (.cons (.int 0) (.cons (.int 0) .nil))))) .nil)
section
variable {F : Orc} {G : Shp} {ns : List Int}
theorem cells_run {env : Env} {S : Sto} {ds : List D} (h : S[0]? = some (.scr ds)) : evE F G (.blt .list (.cons (.slc (.var 0) .none (.some (.int 63))) .nil)) (some (.loc 0) :: env) S = .ok (.loc (S.length + 1)) (S ++ [.lst (cutG ds none (some 63))] ++ [.lst (cutG ds none (some 63))]) := by
  have e1 : items S (.loc 0) = some ds := it_scr h
  have e2 : slop (.loc 0) none (some 63) S = alloc S (.lst (cutG ds none (some 63))) := by simp only [slop, e1]
  have e3 : bltop .list [.loc S.length] (S ++ [.lst (cutG ds none (some 63))]) = alloc (S ++ [.lst (cutG ds none (some 63))]) (.lst (cutG ds none (some 63))) := by
    have : items (S ++ [.lst (cutG ds none (some 63))]) (.loc S.length) = some (cutG ds none (some 63)) := it_lst ap_new
    simp only [bltop, this]
  rw [e_blt, es_cons, e_slc]
  show ((((slop (D.loc 0) none (some 63) S)).bind fun x S1 => (evEs F G .nil (some (D.loc 0) :: env) S1).bind fun xs S2 => .ok (x :: xs) S2).bind fun ds S1 => bltop .list ds S1) = _
  rw [e2]
  show bltop .list [D.loc S.length] (S ++ [.lst (cutG ds none (some 63))]) = _
  rw [e3]
  show Res.ok (D.loc (S ++ [O.lst (cutG ds none (some 63))]).length) _ = _
  rw [List.length_append]; rfl
theorem penL_run : ∃ p c S1, defRun F G 1 penLB [.loc 0] [.scr (ns.map D.int)] = .ok (.loc p) S1 ∧ PenL S1 p c 0 ∧ c ≠ p ∧ c < S1.length ∧ p < S1.length := by
  obtain ⟨ms, em⟩ := take_ints ns
  have h0 := cells_run (F := F) (G := G) (env := []) (S := [.scr (ns.map D.int)]) (ds := ns.map D.int) rfl
  rw [em] at h0
  refine ⟨3, 2, [.scr (ns.map D.int), .lst (ms.map D.int), .lst (ms.map D.int), .lst [.loc 2, .int 0, .int 0]], ?_, ⟨0, 0, ms, rfl, rfl, by omega, by omega, by omega⟩, by omega, by simp, by simp⟩
  show ((exCs F G penLB (some (.loc 0) :: []) [.scr (ns.map D.int)]).bind fun fl S1 => .ok (retOf fl) S1) = _
  unfold penLB
  rw [cs_cons, c_ret, e_lst, es_cons, h0]
  rfl
theorem penD_run : ∃ p c S1, defRun F G 1 penDB [.loc 0] [.scr (ns.map D.int)] = .ok (.loc p) S1 ∧ PenD S1 p c 0 ∧ c ≠ p ∧ c < S1.length ∧ p < S1.length := by
  obtain ⟨ms, em⟩ := take_ints ns
  have h0 := cells_run (F := F) (G := G) (env := []) (S := [.scr (ns.map D.int)]) (ds := ns.map D.int) rfl
  rw [em] at h0
  refine ⟨3, 2, [.scr (ns.map D.int), .lst (ms.map D.int), .lst (ms.map D.int), .dK (penKv 2 0 0)], ?_, ⟨0, 0, ms, rfl, rfl, by omega, by omega, by omega⟩, by omega, by simp, by simp⟩
  show ((exCs F G penDB (some (.loc 0) :: []) [.scr (ns.map D.int)]).bind fun fl S1 => .ok (retOf fl) S1) = _
  unfold penDB
  rw [cs_cons, c_ret, e_dic, es_cons, h0, bind_ok, es_cons, e_int, bind_ok, es_cons, e_int, bind_ok, es_nil, bind_ok, bind_ok, bind_ok, bind_ok]
  rw [if_pos ⟨rfl, by decide, by decide +kernel⟩]
  rfl
theorem drawDK {S : Sto} {p c t : Nat} {m : Int} (pen : PenD S p c t) (hpc : c ≠ p) (ht : t < 1000000) (hm : 0 < m) (hm2 : m < 1606938044258990275541962092341162602522202993782792835301376) :
    ∃ r S', exCs F G penA [some (.loc p), some (.int m), none, none, none, none, none, none] S = .ok (.rt (.int r)) S' ∧ 0 ≤ r ∧ r < m ∧ Kp p S S' ∧ PenD S' p c (t + 1) := by
  obtain ⟨a, l, ns, hp, hc, ha, hat, hl⟩ := pen
  by_cases h0 : 0 < l
  · simp (disch := first | omega | assumption) only [e_var, e_int, e_str, e_bl, e_non, e_glob, e_tup, e_lst, e_bin, e_neg, e_not, e_cmp, e_chain, e_and, e_or, e_ite, e_call, e_callK, e_blt, e_isi, e_idx, e_slc, e_rev, e_mth, e_lc, an_1, an_2, or_1, or_2, es_nil, es_cons, o_none, o_some, ts_none, ts_some, i_seq, i_rng1, i_rng2, t_name, t_tup, t_sub, Wk.ts_nil, Wk.ts_cons, ts_nilc, ts_consn, tupcase_tup, c_asg, c_par, c_aug, c_expr, c_ret, c_ife, c_whl, c_for, c_pass, Wk.cs_nil, Wk.cs_cons, gcase_some, icase_int, flcase_nx, flcase_rt, tcase_some, bcase_bl, bind_ok, bind_no, wp_ok, ofO_some, Option.map_some, b_add, b_sub, m_lt, m_le, m_gt, m_ge, m_eqi, m_nei, m_eqb, m_neb, m_eqs, m_nes, tr_bl, tr_int, tr_non, ixt_eq, l_t0, l_t1, l_t2, l_t3, ne3, beq_self_eq_true, Int.reduceBEq, Int.reduceLT, Int.reduceLE, Int.reduceNeg, abs_int, int_bl, int_int, al_eq, len0, List.getElem?_cons_zero, List.getElem?_cons_succ, List.set_cons_zero, List.set_cons_succ, if_true, if_false, Bool.false_eq_true, decide_eq_true_eq, Bool.not_eq_true', List.length_cons, List.length_nil, b_mod, b_fdiv, b_mulL, b_mulR, b_pow, Nat.reduceLeDiff, Nat.reduceAdd, Nat.zero_le, Nat.reduceLT, m_ne, m_eq, reduceCtorEq, Bool.true_eq_false, penA, ix_dK hp, kv_left, kv_cells, kv_at, h0, st_pen hp, kp_left, b_fdivL]
    exact ⟨_, _, rfl, (em_pos hm).1, (em_pos hm).2, Kp.set, ⟨a, l / m, ns, set_new hp, set_get hc hpc, ha, by omega, Int.ediv_nonneg hl (by omega)⟩⟩
  · have g1 : (S.set p (.dK (penKv c (a + 1) l)))[p]? = some (.dK (penKv c (a + 1) l)) := set_new hp
    have g2 : (S.set p (.dK (penKv c (a + 1) l)))[c]? = some (.lst (ns.map D.int)) := set_get hc hpc
    generalize hS1 : S.set p (.dK (penKv c (a + 1) l)) = S1 at g1 g2
    have g3 : (S1 ++ [O.lst []])[p]? = some (.dK (penKv c (a + 1) l)) := ap_get g1
    have g4 : (S1 ++ [O.lst []])[c]? = some (.lst (ns.map D.int)) := ap_get g2
    have ee := eq_empty' g4 ap_new
    have k1 : Kp p S (S1 ++ [O.lst []]) := by rw [← hS1]; exact Kp.set.trans Ke.ap.kp
    have mix : ∀ (z : Int) (S2 : Sto), ∃ w : Int, exCs F G mixA [some (.loc p), some (.int m), none, some (.int a), some (.int z), none, none, none] S2 = .ok (.rt (.int (w % m))) S2 := by
      intro z S2
      have b1 := em_pos (x := z) (m := 2147483587) (by decide)
      have b2 := em_pos (x := (z % 2147483587 + 61031 * a + 101) ^ (5 : Int).toNat) (m := 2147483629) (by decide)
      generalize h1 : (z % 2147483587 + 61031 * a + 101) ^ (5 : Int).toNat % 2147483629 = one at b2
      have b3 : 0 ≤ one * (3 * a + 7) ∧ one * (3 * a + 7) ≤ 2147483629 * 3000007 := ⟨Int.mul_nonneg b2.1 (by omega), Int.mul_le_mul (by omega) (by omega) (by omega) (by omega)⟩
      have b4 : 0 ≤ 45007 * a * a ∧ 45007 * a * a ≤ 45007000000 * 1000000 := ⟨Int.mul_nonneg (by omega) ha, Int.mul_le_mul (by omega) (by omega) (by omega) (by omega)⟩
      refine ⟨(one * (3 * a + 7) + 45007 * a * a + 11) ^ (3 : Int).toNat % 2147483563 / 64, ?_⟩
      simp (disch := first | omega | assumption) only [e_var, e_int, e_str, e_bl, e_non, e_glob, e_tup, e_lst, e_bin, e_neg, e_not, e_cmp, e_chain, e_and, e_or, e_ite, e_call, e_callK, e_blt, e_isi, e_idx, e_slc, e_rev, e_mth, e_lc, an_1, an_2, or_1, or_2, es_nil, es_cons, o_none, o_some, ts_none, ts_some, i_seq, i_rng1, i_rng2, t_name, t_tup, t_sub, Wk.ts_nil, Wk.ts_cons, ts_nilc, ts_consn, tupcase_tup, c_asg, c_par, c_aug, c_expr, c_ret, c_ife, c_whl, c_for, c_pass, Wk.cs_nil, Wk.cs_cons, gcase_some, icase_int, flcase_nx, flcase_rt, tcase_some, bcase_bl, bind_ok, bind_no, wp_ok, ofO_some, Option.map_some, b_add, b_sub, m_lt, m_le, m_gt, m_ge, m_eqi, m_nei, m_eqb, m_neb, m_eqs, m_nes, tr_bl, tr_int, tr_non, ixt_eq, l_t0, l_t1, l_t2, l_t3, ne3, beq_self_eq_true, Int.reduceBEq, Int.reduceLT, Int.reduceLE, Int.reduceNeg, abs_int, int_bl, int_int, al_eq, len0, List.getElem?_cons_zero, List.getElem?_cons_succ, List.set_cons_zero, List.set_cons_succ, if_true, if_false, Bool.false_eq_true, decide_eq_true_eq, Bool.not_eq_true', List.length_cons, List.length_nil, b_mod, b_fdiv, b_mulL, b_mulR, b_pow, Nat.reduceLeDiff, Nat.reduceAdd, Nat.zero_le, Nat.reduceLT, m_ne, m_eq, reduceCtorEq, Bool.true_eq_false, mixA, h1]
    have last : ∀ z : Int, ∃ r S', exCs F G penA3 [some (.loc p), some (.int m), none, some (.int a), some (.int z), none, none, none] (S1 ++ [O.lst []]) = .ok (.rt (.int r)) S' ∧ 0 ≤ r ∧ r < m ∧ Kp p S S' ∧ PenD S' p c (t + 1) := by
      intro z
      obtain ⟨r, er⟩ := mix z (S1 ++ [O.lst []])
      have e18 : (10 : Int) ^ (18 : Int).toNat = 1000000000000000000 := rfl
      by_cases h1 : a < (ns.length : Int)
      · by_cases h2 : (1000000000000000000 : Int) ≤ if z < 0 then -z else z
        · simp (disch := first | omega | assumption) only [e_var, e_int, e_str, e_bl, e_non, e_glob, e_tup, e_lst, e_bin, e_neg, e_not, e_cmp, e_chain, e_and, e_or, e_ite, e_call, e_callK, e_blt, e_isi, e_idx, e_slc, e_rev, e_mth, e_lc, an_1, an_2, or_1, or_2, es_nil, es_cons, o_none, o_some, ts_none, ts_some, i_seq, i_rng1, i_rng2, t_name, t_tup, t_sub, Wk.ts_nil, Wk.ts_cons, ts_nilc, ts_consn, tupcase_tup, c_asg, c_par, c_aug, c_expr, c_ret, c_ife, c_whl, c_for, c_pass, Wk.cs_nil, Wk.cs_cons, gcase_some, icase_int, flcase_nx, flcase_rt, tcase_some, bcase_bl, bind_ok, bind_no, wp_ok, ofO_some, Option.map_some, b_add, b_sub, m_lt, m_le, m_gt, m_ge, m_eqi, m_nei, m_eqb, m_neb, m_eqs, m_nes, tr_bl, tr_int, tr_non, ixt_eq, l_t0, l_t1, l_t2, l_t3, ne3, beq_self_eq_true, Int.reduceBEq, Int.reduceLT, Int.reduceLE, Int.reduceNeg, abs_int, int_bl, int_int, al_eq, len0, List.getElem?_cons_zero, List.getElem?_cons_succ, List.set_cons_zero, List.set_cons_succ, if_true, if_false, Bool.false_eq_true, decide_eq_true_eq, Bool.not_eq_true', List.length_cons, List.length_nil, b_mod, b_fdiv, b_mulL, b_mulR, b_pow, Nat.reduceLeDiff, Nat.reduceAdd, Nat.zero_le, Nat.reduceLT, m_ne, m_eq, reduceCtorEq, Bool.true_eq_false, penA3, ix_dK g3, kv_cells, len_loc (it_lst g4), List.length_map, h1, h2, e18, decide_true, st_pen g3, kp_left, b_fdivL]
          refine ⟨_, _, rfl, (em_pos hm).1, (em_pos hm).2, k1.trans Kp.set, ⟨a + 1, _, ns, set_new g3, set_get g4 hpc, by omega, by omega, Int.ediv_nonneg ?_ (by omega)⟩⟩
          split <;> omega
        · simp (disch := first | omega | assumption) only [e_var, e_int, e_str, e_bl, e_non, e_glob, e_tup, e_lst, e_bin, e_neg, e_not, e_cmp, e_chain, e_and, e_or, e_ite, e_call, e_callK, e_blt, e_isi, e_idx, e_slc, e_rev, e_mth, e_lc, an_1, an_2, or_1, or_2, es_nil, es_cons, o_none, o_some, ts_none, ts_some, i_seq, i_rng1, i_rng2, t_name, t_tup, t_sub, Wk.ts_nil, Wk.ts_cons, ts_nilc, ts_consn, tupcase_tup, c_asg, c_par, c_aug, c_expr, c_ret, c_ife, c_whl, c_for, c_pass, Wk.cs_nil, Wk.cs_cons, gcase_some, icase_int, flcase_nx, flcase_rt, tcase_some, bcase_bl, bind_ok, bind_no, wp_ok, ofO_some, Option.map_some, b_add, b_sub, m_lt, m_le, m_gt, m_ge, m_eqi, m_nei, m_eqb, m_neb, m_eqs, m_nes, tr_bl, tr_int, tr_non, ixt_eq, l_t0, l_t1, l_t2, l_t3, ne3, beq_self_eq_true, Int.reduceBEq, Int.reduceLT, Int.reduceLE, Int.reduceNeg, abs_int, int_bl, int_int, al_eq, len0, List.getElem?_cons_zero, List.getElem?_cons_succ, List.set_cons_zero, List.set_cons_succ, if_true, if_false, Bool.false_eq_true, decide_eq_true_eq, Bool.not_eq_true', List.length_cons, List.length_nil, b_mod, b_fdiv, b_mulL, b_mulR, b_pow, Nat.reduceLeDiff, Nat.reduceAdd, Nat.zero_le, Nat.reduceLT, m_ne, m_eq, reduceCtorEq, Bool.true_eq_false, penA3, ix_dK g3, kv_cells, len_loc (it_lst g4), List.length_map, h1, h2, e18, decide_true, decide_false, er]
          exact ⟨_, _, rfl, (em_pos hm).1, (em_pos hm).2, k1, ⟨a + 1, l, ns, g3, g4, by omega, by omega, hl⟩⟩
      · simp (disch := first | omega | assumption) only [e_var, e_int, e_str, e_bl, e_non, e_glob, e_tup, e_lst, e_bin, e_neg, e_not, e_cmp, e_chain, e_and, e_or, e_ite, e_call, e_callK, e_blt, e_isi, e_idx, e_slc, e_rev, e_mth, e_lc, an_1, an_2, or_1, or_2, es_nil, es_cons, o_none, o_some, ts_none, ts_some, i_seq, i_rng1, i_rng2, t_name, t_tup, t_sub, Wk.ts_nil, Wk.ts_cons, ts_nilc, ts_consn, tupcase_tup, c_asg, c_par, c_aug, c_expr, c_ret, c_ife, c_whl, c_for, c_pass, Wk.cs_nil, Wk.cs_cons, gcase_some, icase_int, flcase_nx, flcase_rt, tcase_some, bcase_bl, bind_ok, bind_no, wp_ok, ofO_some, Option.map_some, b_add, b_sub, m_lt, m_le, m_gt, m_ge, m_eqi, m_nei, m_eqb, m_neb, m_eqs, m_nes, tr_bl, tr_int, tr_non, ixt_eq, l_t0, l_t1, l_t2, l_t3, ne3, beq_self_eq_true, Int.reduceBEq, Int.reduceLT, Int.reduceLE, Int.reduceNeg, abs_int, int_bl, int_int, al_eq, len0, List.getElem?_cons_zero, List.getElem?_cons_succ, List.set_cons_zero, List.set_cons_succ, if_true, if_false, Bool.false_eq_true, decide_eq_true_eq, Bool.not_eq_true', List.length_cons, List.length_nil, b_mod, b_fdiv, b_mulL, b_mulR, b_pow, Nat.reduceLeDiff, Nat.reduceAdd, Nat.zero_le, Nat.reduceLT, m_ne, m_eq, reduceCtorEq, Bool.true_eq_false, penA3, ix_dK g3, kv_cells, len_loc (it_lst g4), List.length_map, h1, decide_false, er]
        exact ⟨_, _, rfl, (em_pos hm).1, (em_pos hm).2, k1, ⟨a + 1, l, ns, g3, g4, by omega, by omega, hl⟩⟩
    cases ns with
    | nil =>
      obtain ⟨r, S', er, h⟩ := last (52361 * a + 829)
      simp (disch := first | omega | assumption) only [e_var, e_int, e_str, e_bl, e_non, e_glob, e_tup, e_lst, e_bin, e_neg, e_not, e_cmp, e_chain, e_and, e_or, e_ite, e_call, e_callK, e_blt, e_isi, e_idx, e_slc, e_rev, e_mth, e_lc, an_1, an_2, or_1, or_2, es_nil, es_cons, o_none, o_some, ts_none, ts_some, i_seq, i_rng1, i_rng2, t_name, t_tup, t_sub, Wk.ts_nil, Wk.ts_cons, ts_nilc, ts_consn, tupcase_tup, c_asg, c_par, c_aug, c_expr, c_ret, c_ife, c_whl, c_for, c_pass, Wk.cs_nil, Wk.cs_cons, gcase_some, icase_int, flcase_nx, flcase_rt, tcase_some, bcase_bl, bind_ok, bind_no, wp_ok, ofO_some, Option.map_some, b_add, b_sub, m_lt, m_le, m_gt, m_ge, m_eqi, m_nei, m_eqb, m_neb, m_eqs, m_nes, tr_bl, tr_int, tr_non, ixt_eq, l_t0, l_t1, l_t2, l_t3, ne3, beq_self_eq_true, Int.reduceBEq, Int.reduceLT, Int.reduceLE, Int.reduceNeg, abs_int, int_bl, int_int, al_eq, len0, List.getElem?_cons_zero, List.getElem?_cons_succ, List.set_cons_zero, List.set_cons_succ, if_true, if_false, Bool.false_eq_true, decide_eq_true_eq, Bool.not_eq_true', List.length_cons, List.length_nil, b_mod, b_fdiv, b_mulL, b_mulR, b_pow, Nat.reduceLeDiff, Nat.reduceAdd, Nat.zero_le, Nat.reduceLT, m_ne, m_eq, reduceCtorEq, Bool.true_eq_false, penA, penA2, ix_dK hp, kv_left, kv_cells, kv_at, h0, st_pen hp, kp_at, hS1, ix_dK g1, ix_dK g3, m_ne ee, List.isEmpty_nil, Bool.not_true, er]
      exact ⟨r, S', rfl, h⟩
    | cons z0 zs =>
      have hlen : (0 : Int) < ((zs.length + 1 : Nat) : Int) := by omega
      obtain ⟨z, hz, _⟩ := atI_map (ns := z0 :: zs) (em_pos (x := a) hlen).1 (em_pos (x := a) hlen).2
      obtain ⟨r, S', er, h⟩ := last z
      simp (disch := first | omega | assumption) only [e_var, e_int, e_str, e_bl, e_non, e_glob, e_tup, e_lst, e_bin, e_neg, e_not, e_cmp, e_chain, e_and, e_or, e_ite, e_call, e_callK, e_blt, e_isi, e_idx, e_slc, e_rev, e_mth, e_lc, an_1, an_2, or_1, or_2, es_nil, es_cons, o_none, o_some, ts_none, ts_some, i_seq, i_rng1, i_rng2, t_name, t_tup, t_sub, Wk.ts_nil, Wk.ts_cons, ts_nilc, ts_consn, tupcase_tup, c_asg, c_par, c_aug, c_expr, c_ret, c_ife, c_whl, c_for, c_pass, Wk.cs_nil, Wk.cs_cons, gcase_some, icase_int, flcase_nx, flcase_rt, tcase_some, bcase_bl, bind_ok, bind_no, wp_ok, ofO_some, Option.map_some, b_add, b_sub, m_lt, m_le, m_gt, m_ge, m_eqi, m_nei, m_eqb, m_neb, m_eqs, m_nes, tr_bl, tr_int, tr_non, ixt_eq, l_t0, l_t1, l_t2, l_t3, ne3, beq_self_eq_true, Int.reduceBEq, Int.reduceLT, Int.reduceLE, Int.reduceNeg, abs_int, int_bl, int_int, al_eq, len0, List.getElem?_cons_zero, List.getElem?_cons_succ, List.set_cons_zero, List.set_cons_succ, if_true, if_false, Bool.false_eq_true, decide_eq_true_eq, Bool.not_eq_true', List.length_cons, List.length_nil, b_mod, b_fdiv, b_mulL, b_mulR, b_pow, Nat.reduceLeDiff, Nat.reduceAdd, Nat.zero_le, Nat.reduceLT, m_ne, m_eq, reduceCtorEq, Bool.true_eq_false, penA, penA2, ix_dK hp, kv_left, kv_cells, kv_at, h0, st_pen hp, kp_at, hS1, ix_dK g1, ix_dK g3, m_ne ee, ix_lst g4, len_loc (it_lst g4), List.isEmpty_cons, Bool.not_false, List.length_map, hz, er]
      exact ⟨r, S', rfl, h⟩
end
theorem draw_of {n : Nat} {bd : Cs} {I : Sto → Nat → Nat → Nat → Prop} {F : Orc} {G : Shp} {p c : Nat} (h : ∀ (S : Sto) (t : Nat) (m : Int), I S p c t → c ≠ p → t < 1000000 → 0 < m → m < 1606938044258990275541962092341162602522202993782792835301376 → ∃ r S', exCs F G bd ([D.loc p, .int m].map some ++ List.replicate (n - 2) none) S = .ok (.rt (.int r)) S' ∧ 0 ≤ r ∧ r < m ∧ Kp p S S' ∧ I S' p c (t + 1)) : DrawOk I p c (defRun F G n bd) := fun S t m i ne ht h0 h1 => by
  obtain ⟨r, S', e, q⟩ := h S t m i ne ht h0 h1
  refine ⟨r, S', ?_, q⟩
  show ((exCs F G bd ([D.loc p, .int m].map some ++ List.replicate (n - 2) none) S).bind fun fl S1 => .ok (retOf fl) S1) = _
  rw [e]; rfl
def kindD : Kind := ⟨PenD, penI_D, penA, 8, penDB, fun F G p c => draw_of fun S t m i ne ht h0 h1 => drawDK i ne ht h0 h1, fun F G ns => penD_run⟩
def kindB : Kind := ⟨PenL, penI_L, penL1 e0B mixB, 7, penLB, fun F G p c => draw_of fun S t m i ne ht h0 h1 => drawB i ne ht h0 h1, fun F G ns => penL_run⟩
def kindC : Kind := ⟨PenL, penI_L, penL1 e0C mixC, 8, penLB, fun F G p c => draw_of fun S t m i ne ht h0 h1 => drawC i ne ht h0 h1, fun F G ns => penL_run⟩
def kindE : Kind := ⟨PenL, penI_L, penL1 e0D mixD, 8, penLB, fun F G p c => draw_of fun S t m i ne ht h0 h1 => drawDD i ne ht h0 h1, fun F G ns => penL_run⟩
end Wk

set_option linter.all false
set_option maxRecDepth 100000
namespace Wk
open PySem PySem.Spec PyProof.Rows L2
def B_greatest_common_L0 : List PC := [ .par 0 1 (.var 1) (.bin .mod (.var 0) (.var 1))]
def B_greatest_common : List PC := [ .whl [] (.cmp .gt (.var 1) (.int 0)) B_greatest_common_L0, .ret (.var 0)]
def B_bar (c0 : Nat) : List PC := [ .asg (.name 2) (.call c0 (.cons (.idx (.var 0) (.int 0)) (.cons (.idx (.var 1) (.int 0)) .nil))), .ret (.ite (.cmp .eq (.bin .mod (.bin .sub (.idx (.var 0) (.int 1)) (.idx (.var 1) (.int 1))) (.var 2)) (.int 0)) .non (.var 2))]
def B_common_round (c0 : Nat) : List PC := [ .ret (.bin .mul (.bin .fdiv (.var 0) (.call c0 (.cons (.var 0) (.cons (.var 1) .nil)))) (.var 1))]
def B_is_awake : List PC := [ .asg (.tup (.cons (.name 2) (.cons (.name 3) .nil))) (.var 0), .ret (.cmp .eq (.bin .mod (.bin .sub (.var 1) (.var 3)) (.var 2)) (.int 0))]
def B_heard (c0 : Nat) : List PC := [ .asg (.name 4) (.lc [5, 6] (.tup (.cons (.name 5) (.cons (.name 6) .nil))) (.enum (.var 1)) .none (.ite (.and (.cons (.call c0 (.cons (.idx (.var 0) (.var 6)) (.cons (.var 2) .nil))) (.cons (.cmp .notin (.var 5) (.var 3)) .nil))) (.str "1") (.str "0"))), .ret (.mth .join (.str "") (.cons (.var 4) .nil))]
def B_l_lid_L0 : List PC := [ .asg (.name 2) (.bin .add (.var 2) (.var 0))]
def B_l_lid : List PC := [ .asg (.name 2) (.var 0), .whl [] (.cmp .ne (.bin .mod (.var 2) (.var 1)) (.int 0)) B_l_lid_L0, .ret (.var 2)]
def B_l_crew_L0 (c0 c1 : Nat) : List PC := [ .asg (.name 7) (.lc [8] (.name 8) (.rng2 (.int 1) (.int 13)) (.some (.cmp .le (.call c1 (.cons (.var 4) (.cons (.var 8) .nil))) (.int 60))) (.var 8)), .asg (.name 8) (.idx (.var 7) (.call c0 (.cons (.var 0) (.cons (.blt .len (.cons (.var 7) .nil)) .nil)))), .ife (.cmp .eq (.var 2) (.int 2)) [ .asg (.name 8) (.idx (.lst (.cons (.idx (.var 7) (.int 0)) (.cons (.idx (.var 7) (.int 1)) (.cons (.idx (.var 7) (.neg (.int 1))) .nil)))) (.call c0 (.cons (.var 0) (.cons (.int 3) .nil))))] [], .asg (.name 9) (.call c0 (.cons (.var 0) (.cons (.var 8) .nil))), .ife (.cmp .eq (.var 2) (.int 0)) [ .asg (.name 9) (.bin .mod (.var 3) (.var 8))] [], .ife (.and (.cons (.cmp .eq (.var 2) (.int 3)) (.cons (.cmp .ne (.var 5) (.lst .nil)) (.cons (.cmp .eq (.call c0 (.cons (.var 0) (.cons (.int 2) .nil))) (.int 0)) .nil)))) [ .asg (.tup (.cons (.name 8) (.cons (.name 9) .nil))) (.idx (.var 5) (.call c0 (.cons (.var 0) (.cons (.blt .len (.cons (.var 5) .nil)) .nil))))] [], .asg (.name 4) (.call c1 (.cons (.var 4) (.cons (.var 8) .nil))), .chg .append 5 (.cons (.tup (.cons (.var 8) (.cons (.var 9) .nil))) .nil)]
def B_l_crew (c0 c1 : Nat) : List PC := [ .asg (.name 2) (.call c0 (.cons (.var 0) (.cons (.int 4) .nil))), .asg (.name 3) (.call c0 (.cons (.var 0) (.cons (.int 60) .nil))), .asg (.name 4) (.int 1), .new 5 (.lst .nil), .for_ [6, 7, 8, 9] (.name 6) (.rng1 (.var 1)) (B_l_crew_L0 c0 c1), .ret (.blt .tuple (.cons (.var 5) .nil))]
def B_l_time (c0 : Nat) : List PC := [ .asg (.name 1) (.call c0 (.cons (.var 0) (.cons (.int 4) .nil))), .ife (.cmp .eq (.var 1) (.int 0)) [ .ret (.bin .sub (.call c0 (.cons (.var 0) (.cons (.int 61) .nil))) (.int 30))] [], .ife (.cmp .eq (.var 1) (.int 1)) [ .ret (.bin .sub (.call c0 (.cons (.var 0) (.cons (.int 2001) .nil))) (.int 1000))] [], .asg (.name 2) (.bin .add (.bin .add (.bin .mul (.call c0 (.cons (.var 0) (.cons (.bin .pow (.int 10) (.int 9)) .nil))) (.bin .pow (.int 10) (.int 31))) (.bin .mul (.call c0 (.cons (.var 0) (.cons (.bin .pow (.int 10) (.int 9)) .nil))) (.bin .pow (.int 10) (.int 13)))) (.call c0 (.cons (.var 0) (.cons (.bin .pow (.int 10) (.int 9)) .nil)))), .ret (.idx (.lst (.cons (.var 2) (.cons (.bin .sub (.int 0) (.var 2)) .nil))) (.bin .sub (.var 1) (.int 2)))]
def B_l_time_of (c0 c1 : Nat) : List PC := [ .asg (.name 2) (.call c0 (.cons (.var 0) .nil)), .asg (.tup (.cons (.name 3) (.cons (.name 4) .nil))) (.idx (.var 1) (.call c1 (.cons (.var 0) (.cons (.blt .len (.cons (.var 1) .nil)) .nil)))), .ret (.bin .add (.var 2) (.bin .mul (.bin .mod (.bin .sub (.var 4) (.var 2)) (.var 3)) (.blt .int (.cons (.cmp .gt (.call c1 (.cons (.var 0) (.cons (.int 4) .nil))) (.int 0)) .nil))))]
def B_l_asleep (c0 : Nat) : List PC := [ .asg (.name 2) (.call c0 (.cons (.var 0) (.cons (.int 4) .nil))), .asg (.name 3) (.lc [4] (.name 4) (.rng1 (.idx (.lst (.cons (.int 0) (.cons (.int 1) (.cons (.int 2) (.cons (.bin .add (.int 1) (.call c0 (.cons (.var 0) (.cons (.int 6) .nil)))) .nil))))) (.var 2))) .none (.call c0 (.cons (.var 0) (.cons (.var 1) .nil)))), .ret (.blt .tuple (.cons (.var 3) .nil))]
def B_l_word_L0 (c0 : Nat) : List PC := [ .asg (.name 4) (.bin .add (.var 4) (.idx (.str "01") (.blt .int (.cons (.and (.cons (.call c0 (.cons (.idx (.var 0) (.var 6)) (.cons (.var 2) .nil))) (.cons (.cmp .notin (.var 5) (.var 3)) .nil))) .nil))))]
def B_l_word (c0 : Nat) : List PC := [ .asg (.name 4) (.str ""), .for_ [5, 6] (.tup (.cons (.name 5) (.cons (.name 6) .nil))) (.enum (.var 1)) (B_l_word_L0 c0), .ret (.var 4)]
def B_stretches_in_L0 : List PC := [ .ife (.and (.cons (.cmp .eq (.var 3) (.str "1")) (.cons (.or (.cons (.cmp .eq (.var 2) (.int 0)) (.cons (.cmp .eq (.idx (.var 0) (.bin .sub (.var 2) (.int 1))) (.str "0")) .nil))) .nil))) [ .chg .append 1 (.cons (.tup (.cons (.var 2) (.cons (.var 2) .nil))) .nil)] [ .ife (.cmp .eq (.var 3) (.str "1")) [ .put 1 (.neg (.int 1)) (.tup (.cons (.idx (.idx (.var 1) (.neg (.int 1))) (.int 0)) (.cons (.var 2) .nil)))] []]]
def B_stretches_in : List PC := [ .new 1 (.lst .nil), .for_ [2, 3] (.tup (.cons (.name 2) (.cons (.name 3) .nil))) (.enum (.var 0)) B_stretches_in_L0, .rtn 1]
def B_stretches (c0 c1 h0 : Nat) : List PC := [ .ret (.call c0 (.cons (.callK c1 h0 (.cons (.var 0) (.cons (.var 1) (.cons (.var 2) .nil))) (.cons (.var 3) .nil)) .nil))]
def B_l_runs_L0 : List PC := [ .ife (.cmp .ne (.var 3) (.str "")) [ .chg .append 1 (.cons (.tup (.cons (.var 2) (.cons (.bin .sub (.bin .add (.var 2) (.blt .len (.cons (.var 3) .nil))) (.int 1)) .nil))) .nil)] [], .asg (.name 2) (.bin .add (.bin .add (.var 2) (.blt .len (.cons (.var 3) .nil))) (.int 1))]
def B_l_runs : List PC := [ .new 1 (.lst .nil), .asg (.name 2) (.int 0), .for_ [3] (.name 3) (.seq (.mth .split (.var 0) (.cons (.str "0") .nil))) B_l_runs_L0, .rtn 1]
def B_turned_by_L0 (c0 : Nat) : List PC := [ .asg (.name 0) (.bin .add (.bin .add (.slc (.var 0) .none (.some (.var 2))) (.rev (.slc (.var 0) (.some (.var 2)) (.some (.bin .add (.var 3) (.int 1)))))) (.slc (.var 0) (.some (.bin .add (.var 3) (.int 1))) .none))]
def B_turned_by (c0 : Nat) : List PC := [ .for_ [2, 3] (.tup (.cons (.name 2) (.cons (.name 3) .nil))) (.seq (.call c0 (.cons (.var 1) .nil))) (B_turned_by_L0 c0), .ret (.var 0)]
def B_turned (c0 c1 h0 : Nat) : List PC := [ .ret (.call c0 (.cons (.var 1) (.cons (.callK c1 h0 (.cons (.var 0) (.cons (.var 1) (.cons (.var 2) .nil))) (.cons (.var 3) .nil)) .nil)))]
def B_l_about_L0 : List PC := [ .asg (.name 4) (.bin .sub (.var 4) (.int 1))]
def B_l_about_L1 : List PC := [ .asg (.name 5) (.bin .add (.var 5) (.int 1))]
def B_l_about_L2 : List PC := [ .ife (.cmp .eq (.idx (.var 1) (.var 3)) (.str "1")) [ .asg (.name 4) (.var 3), .asg (.name 5) (.var 3), .whl [] (.and (.cons (.cmp .gt (.var 4) (.int 0)) (.cons (.cmp .eq (.idx (.var 1) (.bin .sub (.var 4) (.int 1))) (.str "1")) .nil))) B_l_about_L0, .whl [] (.and (.cons (.cmp .lt (.var 5) (.bin .sub (.blt .len (.cons (.var 0) .nil)) (.int 1))) (.cons (.cmp .eq (.idx (.var 1) (.bin .add (.var 5) (.int 1))) (.str "1")) .nil))) B_l_about_L1, .put 2 (.bin .sub (.bin .add (.var 4) (.var 5)) (.var 3)) (.idx (.var 0) (.var 3))] []]
def B_l_about : List PC := [ .new 2 (.blt .list (.cons (.var 0) .nil)), .for_ [3, 4, 5] (.name 3) (.rng1 (.blt .len (.cons (.var 0) .nil))) B_l_about_L2, .ret (.blt .tuple (.cons (.var 2) .nil))]
def B_is_mirror : List PC := [ .ret (.blt .all (.cons (.lc [2, 3] (.tup (.cons (.name 2) (.cons (.name 3) .nil))) (.seq (.var 0)) .none (.cmp .eq (.bin .mod (.bin .sub (.var 1) (.bin .mul (.int 2) (.var 3))) (.var 2)) (.int 0))) .nil))]
def B_l_troupe_3_L0 (c0 : Nat) : List PC := [ .asg (.name 7) (.idx (.var 2) (.call c0 (.cons (.var 0) (.cons (.blt .len (.cons (.var 2) .nil)) .nil)))), .asg (.name 8) (.call c0 (.cons (.var 0) (.cons (.var 7) .nil))), .asg (.name 9) (.bin .mod (.bin .add (.var 4) (.bin .mul (.bin .mul (.bin .fdiv (.var 7) (.int 2)) (.call c0 (.cons (.var 0) (.cons (.int 2) .nil)))) (.blt .int (.cons (.cmp .eq (.bin .mod (.var 7) (.int 2)) (.int 0)) .nil)))) (.var 7)), .chg .append 5 (.cons (.tup (.cons (.var 7) (.cons (.idx (.lst (.cons (.var 8) (.cons (.var 9) .nil))) (.blt .int (.cons (.var 3) .nil))) .nil))) .nil)]
def B_l_troupe_3 (c0 : Nat) : List PC := [ .asg (.name 1) (.idx (.lst (.cons (.int 12) (.cons (.int 60) (.cons (.int 24) (.cons (.bin .add (.int 1) (.call c0 (.cons (.var 0) (.cons (.int 60) .nil)))) .nil))))) (.call c0 (.cons (.var 0) (.cons (.int 4) .nil)))), .asg (.name 2) (.lc [7] (.name 7) (.rng2 (.int 1) (.int 13)) (.some (.cmp .eq (.bin .mod (.var 1) (.var 7)) (.int 0))) (.var 7)), .asg (.name 3) (.cmp .gt (.call c0 (.cons (.var 0) (.cons (.int 3) .nil))) (.int 0)), .asg (.name 4) (.call c0 (.cons (.var 0) (.cons (.int 60) .nil))), .new 5 (.lst .nil), .for_ [6, 7, 8, 9] (.name 6) (.rng1 (.bin .add (.int 1) (.call c0 (.cons (.var 0) (.cons (.int 5) .nil))))) (B_l_troupe_3_L0 c0), .ret (.blt .tuple (.cons (.var 5) .nil))]
def B_l_is_mirror_L0 : List PC := [ .ife (.cmp .ne (.cmp .eq (.bin .mod (.bin .sub (.var 4) (.var 3)) (.var 2)) (.int 0)) (.cmp .eq (.bin .mod (.bin .sub (.bin .sub (.var 1) (.var 4)) (.var 3)) (.var 2)) (.int 0))) [ .ret (.bl false)] []]
def B_l_is_mirror_L1 : List PC := [ .for_ [4] (.name 4) (.rng1 (.var 2)) B_l_is_mirror_L0]
def B_l_is_mirror : List PC := [ .for_ [2, 3, 4] (.tup (.cons (.name 2) (.cons (.name 3) .nil))) (.seq (.var 0)) B_l_is_mirror_L1, .ret (.bl true)]
end Wk

set_option Elab.async false
set_option linter.all false
set_option maxRecDepth 100000
set_option maxHeartbeats 4000000
namespace Wk
open PySem PySem.Spec PyProof.Rows L2
section
variable {F : POrc} {G : PShp} {fr : Nat → Bool}
theorem gcd_ok (a b : Nat) (hb : b < 1000000000000) : bodyP F G fr 2 B_greatest_common [.int a, .int b] = .ret (.int (Nat.gcd a b : Nat)) := by
  have loop : whlP (whT F G (.cmp .gt (.var 1) (.int 0))) (exPs F G fr B_greatest_common_L0) [] whlMost [some (.int a, false), some (.int b, false)] = .ret (.nx [some (.int (Nat.gcd a b : Nat), false), some (.int 0, false)]) := by
    refine ok_eq (t := 0) (whl_ok (fun n env t => ∃ x y : Nat, env = [some (.int x, false), some (.int y, false)] ∧ t = 0 ∧ n = y ∧ Nat.gcd x y = Nat.gcd a b) ?_ whlMost b _ _ hb ⟨a, b, rfl, rfl, rfl, rfl⟩)
    rintro n env t ⟨x, y, rfl, rfl, rfl, hg⟩
    simp (disch := first | omega | assumption) only [zaa, zab, zac, zad, ↓zae, ↓zaf, ↓zag, ↓zah, ↓zai, zaj, ↓zak, ↓zal, ↓zam, zan, zao, zap, zaq, ↓zar, ↓zas, ↓zat, ↓zau, ↓zav, ↓zaw, ↓zax, ↓zay, ↓zaz, ↓zba, ↓zbb, ↓zbc, ↓zbd, ↓zbe, ↓zbf, ↓zbg, ↓zbh, ↓zbi, ↓zbj, ↓zbk, ↓zbl, ↓zbm, ↓zbn, ↓zbo, ↓zbp, ↓zbq, ↓zbr, ↓zbs, ↓zbt, ↓zbu, ↓zbv, ↓zbw, ↓zbx, ↓zby, ↓zbz, ↓zca, ↓zcb, ↓zcc, ↓zcd, ↓zce, ↓zcf, ↓zcg, ↓zch, ↓zci, ↓zcj, ↓zck, ↓zcl, ↓zcm, ↓zcn, ↓zco, ↓zcp, ↓zcq, ↓zcr, ↓zcs, ↓zct, ↓zcu, ↓zcv, ↓zcw, ↓zcx, ↓zcy, ↓zcz, ↓zda, ↓zdb, ↓zdc, ↓zdd, ↓zde, ↓zdf, ↓zdg, ↓zdh, ↓zdi, ↓zdj, ↓zdk, ↓zdl, ↓zdm, ↓zdn, ↓zdo, ↓zdp, ↓zdq, ↓zdr, ↓zds, ↓zdt, ↓zdu, ↓zdv, ↓zdw, ↓zdx, ↓zdy, ↓zdz, ↓zea, ↓zeb, ↓zec, ↓zed, ↓zee, zef, zeg, zeh, zei, zej, zek, zel, zem, zen, zeo, zep, zeq, zer, zes, zet, zeu, zev, zew, zex, zey, zez, zfa, zfb, zfc, zfd, zfe, zff, zfg, zfh, zfi, zfj, zfk, zfl, zfm, zfn, zfo, zfp, zfq, zfr, zfs, zft, zfu, zfv, zfw, zfx, zfy, zfz, zga, zgb, zgc, zgd, zge, zgf, zgg, zgh, zgi, zgj, zgk, zgl, zgm, zgn, zgo, zgp, zgq, zgr, zgs, zgt, zgu, zgv, zgw, zgx, zgy, zgz, zha, zhb, zhc, zhd, zhe, zhf, zhg, zhh, zhi, zhj, zhk, zhl, zhm, zhn, zho, zhp, zhq, zhr, zhs, zht, zhu, zhv, zhw, zhx, zhy, zhz, zia, zib, zic, zid, zie, zif, zig, zih, zii, zij, zik, zil, zim, zin, zio, zip, ziq, zir, zis, zit, ziu, ziv, ziw, Int.reduceBEq, Int.reduceLT, Int.reduceLE, Int.reduceNeg, Nat.reduceLeDiff, Nat.reduceAdd, Nat.reduceLT, Nat.reduceSub, reduceCtorEq, Wk.frE, ne_eq, reduceIte, ↓zLc, ↓zFor, ↓zWhl, wh_eq, ok_ret]
    by_cases hy : 0 < (n : Int)
    · simp (disch := first | omega | assumption) only [zaa, zab, zac, zad, ↓zae, ↓zaf, ↓zag, ↓zah, ↓zai, zaj, ↓zak, ↓zal, ↓zam, zan, zao, zap, zaq, ↓zar, ↓zas, ↓zat, ↓zau, ↓zav, ↓zaw, ↓zax, ↓zay, ↓zaz, ↓zba, ↓zbb, ↓zbc, ↓zbd, ↓zbe, ↓zbf, ↓zbg, ↓zbh, ↓zbi, ↓zbj, ↓zbk, ↓zbl, ↓zbm, ↓zbn, ↓zbo, ↓zbp, ↓zbq, ↓zbr, ↓zbs, ↓zbt, ↓zbu, ↓zbv, ↓zbw, ↓zbx, ↓zby, ↓zbz, ↓zca, ↓zcb, ↓zcc, ↓zcd, ↓zce, ↓zcf, ↓zcg, ↓zch, ↓zci, ↓zcj, ↓zck, ↓zcl, ↓zcm, ↓zcn, ↓zco, ↓zcp, ↓zcq, ↓zcr, ↓zcs, ↓zct, ↓zcu, ↓zcv, ↓zcw, ↓zcx, ↓zcy, ↓zcz, ↓zda, ↓zdb, ↓zdc, ↓zdd, ↓zde, ↓zdf, ↓zdg, ↓zdh, ↓zdi, ↓zdj, ↓zdk, ↓zdl, ↓zdm, ↓zdn, ↓zdo, ↓zdp, ↓zdq, ↓zdr, ↓zds, ↓zdt, ↓zdu, ↓zdv, ↓zdw, ↓zdx, ↓zdy, ↓zdz, ↓zea, ↓zeb, ↓zec, ↓zed, ↓zee, zef, zeg, zeh, zei, zej, zek, zel, zem, zen, zeo, zep, zeq, zer, zes, zet, zeu, zev, zew, zex, zey, zez, zfa, zfb, zfc, zfd, zfe, zff, zfg, zfh, zfi, zfj, zfk, zfl, zfm, zfn, zfo, zfp, zfq, zfr, zfs, zft, zfu, zfv, zfw, zfx, zfy, zfz, zga, zgb, zgc, zgd, zge, zgf, zgg, zgh, zgi, zgj, zgk, zgl, zgm, zgn, zgo, zgp, zgq, zgr, zgs, zgt, zgu, zgv, zgw, zgx, zgy, zgz, zha, zhb, zhc, zhd, zhe, zhf, zhg, zhh, zhi, zhj, zhk, zhl, zhm, zhn, zho, zhp, zhq, zhr, zhs, zht, zhu, zhv, zhw, zhx, zhy, zhz, zia, zib, zic, zid, zie, zif, zig, zih, zii, zij, zik, zil, zim, zin, zio, zip, ziq, zir, zis, zit, ziu, ziv, ziw, Int.reduceBEq, Int.reduceLT, Int.reduceLE, Int.reduceNeg, Nat.reduceLeDiff, Nat.reduceAdd, Nat.reduceLT, Nat.reduceSub, reduceCtorEq, Wk.frE, ne_eq, reduceIte, ↓zLc, ↓zFor, ↓zWhl, hy, ok_ret, B_greatest_common_L0]
      exact ⟨x % n, Nat.mod_lt _ (by omega), n, x % n, rfl, trivial, rfl, by rw [← hg, Nat.gcd_comm n (x % n), ← Nat.gcd_rec, Nat.gcd_comm]⟩
    · simp (disch := first | omega | assumption) only [zaa, zab, zac, zad, ↓zae, ↓zaf, ↓zag, ↓zah, ↓zai, zaj, ↓zak, ↓zal, ↓zam, zan, zao, zap, zaq, ↓zar, ↓zas, ↓zat, ↓zau, ↓zav, ↓zaw, ↓zax, ↓zay, ↓zaz, ↓zba, ↓zbb, ↓zbc, ↓zbd, ↓zbe, ↓zbf, ↓zbg, ↓zbh, ↓zbi, ↓zbj, ↓zbk, ↓zbl, ↓zbm, ↓zbn, ↓zbo, ↓zbp, ↓zbq, ↓zbr, ↓zbs, ↓zbt, ↓zbu, ↓zbv, ↓zbw, ↓zbx, ↓zby, ↓zbz, ↓zca, ↓zcb, ↓zcc, ↓zcd, ↓zce, ↓zcf, ↓zcg, ↓zch, ↓zci, ↓zcj, ↓zck, ↓zcl, ↓zcm, ↓zcn, ↓zco, ↓zcp, ↓zcq, ↓zcr, ↓zcs, ↓zct, ↓zcu, ↓zcv, ↓zcw, ↓zcx, ↓zcy, ↓zcz, ↓zda, ↓zdb, ↓zdc, ↓zdd, ↓zde, ↓zdf, ↓zdg, ↓zdh, ↓zdi, ↓zdj, ↓zdk, ↓zdl, ↓zdm, ↓zdn, ↓zdo, ↓zdp, ↓zdq, ↓zdr, ↓zds, ↓zdt, ↓zdu, ↓zdv, ↓zdw, ↓zdx, ↓zdy, ↓zdz, ↓zea, ↓zeb, ↓zec, ↓zed, ↓zee, zef, zeg, zeh, zei, zej, zek, zel, zem, zen, zeo, zep, zeq, zer, zes, zet, zeu, zev, zew, zex, zey, zez, zfa, zfb, zfc, zfd, zfe, zff, zfg, zfh, zfi, zfj, zfk, zfl, zfm, zfn, zfo, zfp, zfq, zfr, zfs, zft, zfu, zfv, zfw, zfx, zfy, zfz, zga, zgb, zgc, zgd, zge, zgf, zgg, zgh, zgi, zgj, zgk, zgl, zgm, zgn, zgo, zgp, zgq, zgr, zgs, zgt, zgu, zgv, zgw, zgx, zgy, zgz, zha, zhb, zhc, zhd, zhe, zhf, zhg, zhh, zhi, zhj, zhk, zhl, zhm, zhn, zho, zhp, zhq, zhr, zhs, zht, zhu, zhv, zhw, zhx, zhy, zhz, zia, zib, zic, zid, zie, zif, zig, zih, zii, zij, zik, zil, zim, zin, zio, zip, ziq, zir, zis, zit, ziu, ziv, ziw, Int.reduceBEq, Int.reduceLT, Int.reduceLE, Int.reduceNeg, Nat.reduceLeDiff, Nat.reduceAdd, Nat.reduceLT, Nat.reduceSub, reduceCtorEq, Wk.frE, ne_eq, reduceIte, ↓zLc, ↓zFor, ↓zWhl, hy, ok_ret]
      have : n = 0 := by omega
      subst this
      rw [Nat.gcd_zero_right] at hg
      rw [hg]
      exact ⟨rfl, trivial⟩
  simp (disch := first | omega | assumption) only [zaa, zab, zac, zad, ↓zae, ↓zaf, ↓zag, ↓zah, ↓zai, zaj, ↓zak, ↓zal, ↓zam, zan, zao, zap, zaq, ↓zar, ↓zas, ↓zat, ↓zau, ↓zav, ↓zaw, ↓zax, ↓zay, ↓zaz, ↓zba, ↓zbb, ↓zbc, ↓zbd, ↓zbe, ↓zbf, ↓zbg, ↓zbh, ↓zbi, ↓zbj, ↓zbk, ↓zbl, ↓zbm, ↓zbn, ↓zbo, ↓zbp, ↓zbq, ↓zbr, ↓zbs, ↓zbt, ↓zbu, ↓zbv, ↓zbw, ↓zbx, ↓zby, ↓zbz, ↓zca, ↓zcb, ↓zcc, ↓zcd, ↓zce, ↓zcf, ↓zcg, ↓zch, ↓zci, ↓zcj, ↓zck, ↓zcl, ↓zcm, ↓zcn, ↓zco, ↓zcp, ↓zcq, ↓zcr, ↓zcs, ↓zct, ↓zcu, ↓zcv, ↓zcw, ↓zcx, ↓zcy, ↓zcz, ↓zda, ↓zdb, ↓zdc, ↓zdd, ↓zde, ↓zdf, ↓zdg, ↓zdh, ↓zdi, ↓zdj, ↓zdk, ↓zdl, ↓zdm, ↓zdn, ↓zdo, ↓zdp, ↓zdq, ↓zdr, ↓zds, ↓zdt, ↓zdu, ↓zdv, ↓zdw, ↓zdx, ↓zdy, ↓zdz, ↓zea, ↓zeb, ↓zec, ↓zed, ↓zee, zef, zeg, zeh, zei, zej, zek, zel, zem, zen, zeo, zep, zeq, zer, zes, zet, zeu, zev, zew, zex, zey, zez, zfa, zfb, zfc, zfd, zfe, zff, zfg, zfh, zfi, zfj, zfk, zfl, zfm, zfn, zfo, zfp, zfq, zfr, zfs, zft, zfu, zfv, zfw, zfx, zfy, zfz, zga, zgb, zgc, zgd, zge, zgf, zgg, zgh, zgi, zgj, zgk, zgl, zgm, zgn, zgo, zgp, zgq, zgr, zgs, zgt, zgu, zgv, zgw, zgx, zgy, zgz, zha, zhb, zhc, zhd, zhe, zhf, zhg, zhh, zhi, zhj, zhk, zhl, zhm, zhn, zho, zhp, zhq, zhr, zhs, zht, zhu, zhv, zhw, zhx, zhy, zhz, zia, zib, zic, zid, zie, zif, zig, zih, zii, zij, zik, zil, zim, zin, zio, zip, ziq, zir, zis, zit, ziu, ziv, ziw, Int.reduceBEq, Int.reduceLT, Int.reduceLE, Int.reduceNeg, Nat.reduceLeDiff, Nat.reduceAdd, Nat.reduceLT, Nat.reduceSub, reduceCtorEq, Wk.frE, ne_eq, reduceIte, ↓zLc, ↓zFor, ↓zWhl, body_eq, B_greatest_common, loop]
/-- what callers take of it -/
def GcdOk (f : List P → Cm P) : Prop := ∀ a b : Nat, b < 1000000000000 → f [.int a, .int b] = .ret (.int (Nat.gcd a b : Nat))
theorem round_ok {c0 : Nat} (h0 : GcdOk (F c0)) {a b : Nat} (ha : 0 < a) (ha2 : a < 1000000) (hb : b < 1000000) : bodyP F G fr 2 (B_common_round c0) [.int a, .int b] = .ret (.int (Nat.lcm a b : Nat)) := by
  have hg : 0 < Nat.gcd a b := Nat.gcd_pos_of_pos_left b ha
  have hl : Nat.gcd a b ≤ a := Nat.gcd_le_left b ha
  have e : (a : Int) / (Nat.gcd a b : Nat) * b = (Nat.lcm a b : Nat) := by
    rw [Nat.lcm_eq_mul_div, ← Int.natCast_ediv, ← Int.natCast_mul, Nat.div_mul_right_comm (Nat.gcd_dvd_left a b)]
  simp (disch := first | omega | assumption) only [zaa, zab, zac, zad, ↓zae, ↓zaf, ↓zag, ↓zah, ↓zai, zaj, ↓zak, ↓zal, ↓zam, zan, zao, zap, zaq, ↓zar, ↓zas, ↓zat, ↓zau, ↓zav, ↓zaw, ↓zax, ↓zay, ↓zaz, ↓zba, ↓zbb, ↓zbc, ↓zbd, ↓zbe, ↓zbf, ↓zbg, ↓zbh, ↓zbi, ↓zbj, ↓zbk, ↓zbl, ↓zbm, ↓zbn, ↓zbo, ↓zbp, ↓zbq, ↓zbr, ↓zbs, ↓zbt, ↓zbu, ↓zbv, ↓zbw, ↓zbx, ↓zby, ↓zbz, ↓zca, ↓zcb, ↓zcc, ↓zcd, ↓zce, ↓zcf, ↓zcg, ↓zch, ↓zci, ↓zcj, ↓zck, ↓zcl, ↓zcm, ↓zcn, ↓zco, ↓zcp, ↓zcq, ↓zcr, ↓zcs, ↓zct, ↓zcu, ↓zcv, ↓zcw, ↓zcx, ↓zcy, ↓zcz, ↓zda, ↓zdb, ↓zdc, ↓zdd, ↓zde, ↓zdf, ↓zdg, ↓zdh, ↓zdi, ↓zdj, ↓zdk, ↓zdl, ↓zdm, ↓zdn, ↓zdo, ↓zdp, ↓zdq, ↓zdr, ↓zds, ↓zdt, ↓zdu, ↓zdv, ↓zdw, ↓zdx, ↓zdy, ↓zdz, ↓zea, ↓zeb, ↓zec, ↓zed, ↓zee, zef, zeg, zeh, zei, zej, zek, zel, zem, zen, zeo, zep, zeq, zer, zes, zet, zeu, zev, zew, zex, zey, zez, zfa, zfb, zfc, zfd, zfe, zff, zfg, zfh, zfi, zfj, zfk, zfl, zfm, zfn, zfo, zfp, zfq, zfr, zfs, zft, zfu, zfv, zfw, zfx, zfy, zfz, zga, zgb, zgc, zgd, zge, zgf, zgg, zgh, zgi, zgj, zgk, zgl, zgm, zgn, zgo, zgp, zgq, zgr, zgs, zgt, zgu, zgv, zgw, zgx, zgy, zgz, zha, zhb, zhc, zhd, zhe, zhf, zhg, zhh, zhi, zhj, zhk, zhl, zhm, zhn, zho, zhp, zhq, zhr, zhs, zht, zhu, zhv, zhw, zhx, zhy, zhz, zia, zib, zic, zid, zie, zif, zig, zih, zii, zij, zik, zil, zim, zin, zio, zip, ziq, zir, zis, zit, ziu, ziv, ziw, Int.reduceBEq, Int.reduceLT, Int.reduceLE, Int.reduceNeg, Nat.reduceLeDiff, Nat.reduceAdd, Nat.reduceLT, Nat.reduceSub, reduceCtorEq, Wk.frE, ne_eq, reduceIte, ↓zLc, ↓zFor, ↓zWhl, body_eq, B_common_round, h0 a b (by omega), e]
def RoundOk (f : List P → Cm P) : Prop := ∀ a b : Nat, 0 < a → a < 1000000 → b < 1000000 → f [.int a, .int b] = .ret (.int (Nat.lcm a b : Nat))
theorem awake1_ok {g r : Nat} {b : Int} (hg : 0 < g) : bodyP F G fr 4 B_is_awake [.tup [.int g, .int r], .int b] = .ret (.bl ((b - r) % g == 0)) := by
  simp (disch := first | omega | assumption) only [zaa, zab, zac, zad, ↓zae, ↓zaf, ↓zag, ↓zah, ↓zai, zaj, ↓zak, ↓zal, ↓zam, zan, zao, zap, zaq, ↓zar, ↓zas, ↓zat, ↓zau, ↓zav, ↓zaw, ↓zax, ↓zay, ↓zaz, ↓zba, ↓zbb, ↓zbc, ↓zbd, ↓zbe, ↓zbf, ↓zbg, ↓zbh, ↓zbi, ↓zbj, ↓zbk, ↓zbl, ↓zbm, ↓zbn, ↓zbo, ↓zbp, ↓zbq, ↓zbr, ↓zbs, ↓zbt, ↓zbu, ↓zbv, ↓zbw, ↓zbx, ↓zby, ↓zbz, ↓zca, ↓zcb, ↓zcc, ↓zcd, ↓zce, ↓zcf, ↓zcg, ↓zch, ↓zci, ↓zcj, ↓zck, ↓zcl, ↓zcm, ↓zcn, ↓zco, ↓zcp, ↓zcq, ↓zcr, ↓zcs, ↓zct, ↓zcu, ↓zcv, ↓zcw, ↓zcx, ↓zcy, ↓zcz, ↓zda, ↓zdb, ↓zdc, ↓zdd, ↓zde, ↓zdf, ↓zdg, ↓zdh, ↓zdi, ↓zdj, ↓zdk, ↓zdl, ↓zdm, ↓zdn, ↓zdo, ↓zdp, ↓zdq, ↓zdr, ↓zds, ↓zdt, ↓zdu, ↓zdv, ↓zdw, ↓zdx, ↓zdy, ↓zdz, ↓zea, ↓zeb, ↓zec, ↓zed, ↓zee, zef, zeg, zeh, zei, zej, zek, zel, zem, zen, zeo, zep, zeq, zer, zes, zet, zeu, zev, zew, zex, zey, zez, zfa, zfb, zfc, zfd, zfe, zff, zfg, zfh, zfi, zfj, zfk, zfl, zfm, zfn, zfo, zfp, zfq, zfr, zfs, zft, zfu, zfv, zfw, zfx, zfy, zfz, zga, zgb, zgc, zgd, zge, zgf, zgg, zgh, zgi, zgj, zgk, zgl, zgm, zgn, zgo, zgp, zgq, zgr, zgs, zgt, zgu, zgv, zgw, zgx, zgy, zgz, zha, zhb, zhc, zhd, zhe, zhf, zhg, zhh, zhi, zhj, zhk, zhl, zhm, zhn, zho, zhp, zhq, zhr, zhs, zht, zhu, zhv, zhw, zhx, zhy, zhz, zia, zib, zic, zid, zie, zif, zig, zih, zii, zij, zik, zil, zim, zin, zio, zip, ziq, zir, zis, zit, ziu, ziv, ziw, Int.reduceBEq, Int.reduceLT, Int.reduceLE, Int.reduceNeg, Nat.reduceLeDiff, Nat.reduceAdd, Nat.reduceLT, Nat.reduceSub, reduceCtorEq, Wk.frE, ne_eq, reduceIte, ↓zLc, ↓zFor, ↓zWhl, body_eq, B_is_awake]
def AwakeOk (f : List P → Cm P) : Prop := ∀ (g r : Nat) (b : Int), 0 < g → f [.tup [.int g, .int r], .int b] = .ret (.bl ((b - r) % g == 0))
theorem bar_ok {c0 : Nat} (h0 : GcdOk (F c0)) {g1 r1 g2 r2 : Nat} (h1 : 0 < g1) (h2 : g2 < 1000000) :
    bodyP F G fr 3 (B_bar c0) [hdP (g1, r1), hdP (g2, r2)] = .ret (if ((r1 : Int) - r2) % (Nat.gcd g1 g2 : Nat) == 0 then .non else .int (Nat.gcd g1 g2 : Nat)) := by
  have hg : 0 < Nat.gcd g1 g2 := Nat.gcd_pos_of_pos_left g2 h1
  cases c : (((r1 : Int) - r2) % (Nat.gcd g1 g2 : Nat) == 0) with
  | true => simp (disch := first | omega | assumption) only [zaa, zab, zac, zad, ↓zae, ↓zaf, ↓zag, ↓zah, ↓zai, zaj, ↓zak, ↓zal, ↓zam, zan, zao, zap, zaq, ↓zar, ↓zas, ↓zat, ↓zau, ↓zav, ↓zaw, ↓zax, ↓zay, ↓zaz, ↓zba, ↓zbb, ↓zbc, ↓zbd, ↓zbe, ↓zbf, ↓zbg, ↓zbh, ↓zbi, ↓zbj, ↓zbk, ↓zbl, ↓zbm, ↓zbn, ↓zbo, ↓zbp, ↓zbq, ↓zbr, ↓zbs, ↓zbt, ↓zbu, ↓zbv, ↓zbw, ↓zbx, ↓zby, ↓zbz, ↓zca, ↓zcb, ↓zcc, ↓zcd, ↓zce, ↓zcf, ↓zcg, ↓zch, ↓zci, ↓zcj, ↓zck, ↓zcl, ↓zcm, ↓zcn, ↓zco, ↓zcp, ↓zcq, ↓zcr, ↓zcs, ↓zct, ↓zcu, ↓zcv, ↓zcw, ↓zcx, ↓zcy, ↓zcz, ↓zda, ↓zdb, ↓zdc, ↓zdd, ↓zde, ↓zdf, ↓zdg, ↓zdh, ↓zdi, ↓zdj, ↓zdk, ↓zdl, ↓zdm, ↓zdn, ↓zdo, ↓zdp, ↓zdq, ↓zdr, ↓zds, ↓zdt, ↓zdu, ↓zdv, ↓zdw, ↓zdx, ↓zdy, ↓zdz, ↓zea, ↓zeb, ↓zec, ↓zed, ↓zee, zef, zeg, zeh, zei, zej, zek, zel, zem, zen, zeo, zep, zeq, zer, zes, zet, zeu, zev, zew, zex, zey, zez, zfa, zfb, zfc, zfd, zfe, zff, zfg, zfh, zfi, zfj, zfk, zfl, zfm, zfn, zfo, zfp, zfq, zfr, zfs, zft, zfu, zfv, zfw, zfx, zfy, zfz, zga, zgb, zgc, zgd, zge, zgf, zgg, zgh, zgi, zgj, zgk, zgl, zgm, zgn, zgo, zgp, zgq, zgr, zgs, zgt, zgu, zgv, zgw, zgx, zgy, zgz, zha, zhb, zhc, zhd, zhe, zhf, zhg, zhh, zhi, zhj, zhk, zhl, zhm, zhn, zho, zhp, zhq, zhr, zhs, zht, zhu, zhv, zhw, zhx, zhy, zhz, zia, zib, zic, zid, zie, zif, zig, zih, zii, zij, zik, zil, zim, zin, zio, zip, ziq, zir, zis, zit, ziu, ziv, ziw, Int.reduceBEq, Int.reduceLT, Int.reduceLE, Int.reduceNeg, Nat.reduceLeDiff, Nat.reduceAdd, Nat.reduceLT, Nat.reduceSub, reduceCtorEq, Wk.frE, ne_eq, reduceIte, ↓zLc, ↓zFor, ↓zWhl, body_eq, B_bar, hdP, pa0, pa1, h0 g1 g2 (by omega), c]
  | false => simp (disch := first | omega | assumption) only [zaa, zab, zac, zad, ↓zae, ↓zaf, ↓zag, ↓zah, ↓zai, zaj, ↓zak, ↓zal, ↓zam, zan, zao, zap, zaq, ↓zar, ↓zas, ↓zat, ↓zau, ↓zav, ↓zaw, ↓zax, ↓zay, ↓zaz, ↓zba, ↓zbb, ↓zbc, ↓zbd, ↓zbe, ↓zbf, ↓zbg, ↓zbh, ↓zbi, ↓zbj, ↓zbk, ↓zbl, ↓zbm, ↓zbn, ↓zbo, ↓zbp, ↓zbq, ↓zbr, ↓zbs, ↓zbt, ↓zbu, ↓zbv, ↓zbw, ↓zbx, ↓zby, ↓zbz, ↓zca, ↓zcb, ↓zcc, ↓zcd, ↓zce, ↓zcf, ↓zcg, ↓zch, ↓zci, ↓zcj, ↓zck, ↓zcl, ↓zcm, ↓zcn, ↓zco, ↓zcp, ↓zcq, ↓zcr, ↓zcs, ↓zct, ↓zcu, ↓zcv, ↓zcw, ↓zcx, ↓zcy, ↓zcz, ↓zda, ↓zdb, ↓zdc, ↓zdd, ↓zde, ↓zdf, ↓zdg, ↓zdh, ↓zdi, ↓zdj, ↓zdk, ↓zdl, ↓zdm, ↓zdn, ↓zdo, ↓zdp, ↓zdq, ↓zdr, ↓zds, ↓zdt, ↓zdu, ↓zdv, ↓zdw, ↓zdx, ↓zdy, ↓zdz, ↓zea, ↓zeb, ↓zec, ↓zed, ↓zee, zef, zeg, zeh, zei, zej, zek, zel, zem, zen, zeo, zep, zeq, zer, zes, zet, zeu, zev, zew, zex, zey, zez, zfa, zfb, zfc, zfd, zfe, zff, zfg, zfh, zfi, zfj, zfk, zfl, zfm, zfn, zfo, zfp, zfq, zfr, zfs, zft, zfu, zfv, zfw, zfx, zfy, zfz, zga, zgb, zgc, zgd, zge, zgf, zgg, zgh, zgi, zgj, zgk, zgl, zgm, zgn, zgo, zgp, zgq, zgr, zgs, zgt, zgu, zgv, zgw, zgx, zgy, zgz, zha, zhb, zhc, zhd, zhe, zhf, zhg, zhh, zhi, zhj, zhk, zhl, zhm, zhn, zho, zhp, zhq, zhr, zhs, zht, zhu, zhv, zhw, zhx, zhy, zhz, zia, zib, zic, zid, zie, zif, zig, zih, zii, zij, zik, zil, zim, zin, zio, zip, ziq, zir, zis, zit, ziu, ziv, ziw, Int.reduceBEq, Int.reduceLT, Int.reduceLE, Int.reduceNeg, Nat.reduceLeDiff, Nat.reduceAdd, Nat.reduceLT, Nat.reduceSub, reduceCtorEq, Wk.frE, ne_eq, reduceIte, ↓zLc, ↓zFor, ↓zWhl, body_eq, B_bar, hdP, pa0, pa1, h0 g1 g2 (by omega), c]
def BarOk (f : List P → Cm P) : Prop := ∀ g1 r1 g2 r2 : Nat, 0 < g1 → g2 < 1000000 → f [hdP (g1, r1), hdP (g2, r2)] = .ret (if ((r1 : Int) - r2) % (Nat.gcd g1 g2 : Nat) == 0 then .non else .int (Nat.gcd g1 g2 : Nat))
end
/-! ### draws -/
theorem draw_ok {m : Int} {t : Nat} {Q : P → Nat → Prop} (h0 : 0 < m) (h1 : m < 1606938044258990275541962092341162602522202993782792835301376) (ht : t < 1000000) (q : ∀ r : Int, 0 ≤ r → r < m → Q (.int r) (t + 1)) : (drawP [.pen, .int m]).ok t Q := ok_ask.mpr ⟨h0, h1, ht, fun r r0 r1 => ok_ret.mpr (q r r0 r1)⟩
def DrOk (f : List P → Cm P) : Prop := ∀ as, f as = drawP as
theorem dr_bind {α : Type} {f : List P → Cm P} (hd : DrOk f) {m : Int} {t : Nat} {k : P → Cm α} {Q : α → Nat → Prop} (h0 : 0 < m) (h1 : m < 1606938044258990275541962092341162602522202993782792835301376) (ht : t < 1000000) (q : ∀ r : Int, 0 ≤ r → r < m → (k (.int r)).ok (t + 1) Q) : (Cm.bd k (f [.pen, .int m])).ok t Q := by
  rw [hd, ok_bd]; exact ok_ask.mpr ⟨h0, h1, ht, fun r r0 r1 => ok_ret.mpr (q r r0 r1)⟩
theorem crt : ((List.range 13).all fun g1 => (List.range g1).all fun r1 => (List.range 13).all fun g2 => (List.range g2).all fun r2 => ((List.range (g1 * g2)).any fun b => b % g1 == r1 && b % g2 == r2) == (r1 % Nat.gcd g1 g2 == r2 % Nat.gcd g1 g2)) = true := by decide +kernel
theorem crt_at {g1 r1 g2 r2 : Nat} (h1 : g1 < 13) (h2 : r1 < g1) (h3 : g2 < 13) (h4 : r2 < g2) : ((List.range (g1 * g2)).any fun b => b % g1 == r1 && b % g2 == r2) = (r1 % Nat.gcd g1 g2 == r2 % Nat.gcd g1 g2) := by
  have q := crt
  rw [List.all_eq_true] at q
  have q := q g1 (List.mem_range.mpr h1)
  rw [List.all_eq_true] at q
  have q := q r1 (List.mem_range.mpr h2)
  rw [List.all_eq_true] at q
  have q := q g2 (List.mem_range.mpr h3)
  rw [List.all_eq_true] at q
  have q := q r2 (List.mem_range.mpr h4)
  exact eq_of_beq q
theorem modg {a b g : Nat} : (((a : Int) - b) % g == 0) = (a % g == b % g) := by
  rw [Bool.eq_iff_iff, beq_iff_eq, beq_iff_eq, ← Int.emod_eq_emod_iff_emod_sub_eq_zero]
  constructor
  · intro h; exact_mod_cast h
  · intro h; exact_mod_cast congrArg (Nat.cast (R := Int)) h
end Wk

set_option Elab.async false
set_option linter.all false
set_option maxRecDepth 100000
set_option maxHeartbeats 4000000
namespace Wk
open PySem PySem.Spec PyProof.Rows L2
/-! ### what repr shows of values -/
def Gp (n : Nat) (v : P) (dp w : Nat) : Prop := ∃ q, pyP v n = some q ∧ OkP q dp w
def Gq (n : Nat) (vs : List P) (dp w : Nat) : Prop := ∃ qs, pyPs vs n = some qs ∧ OkPs qs dp w
section
variable {n dp w w' : Nat} {v : P} {vs : List P}
theorem Gp.mono {dp' w' : Nat} (h : Gp n v dp w) (h1 : dp ≤ dp') (h2 : w ≤ w') : Gp n v dp' w' := let ⟨q, a, b⟩ := h; ⟨q, a, b.mono h1 h2⟩
theorem Gq.mono {dp' w' : Nat} (h : Gq n vs dp w) (h1 : dp ≤ dp') (h2 : w ≤ w') : Gq n vs dp' w' := let ⟨q, a, b⟩ := h; ⟨q, a, b.mono h1 h2⟩
theorem gp_int {i : Int} {k : Nat} (hk : k ≤ 1900) (h : i.natAbs < 2 ^ k) : Gp n (.int i) 0 (k + 1) := ⟨_, rfl, okp_int hk h⟩
theorem gp_bl {b : Bool} : Gp n (.bl b) 0 0 := ⟨_, rfl, okp_bool⟩
theorem gp_non : Gp n .non 0 0 := ⟨_, rfl, okp_none⟩
theorem gp_str {x : Str} (h : (x.cps.all fun c => decide (c < 0x110000)) = true) (h2 : (x.cps.toList.all fun c => decide (c < 16 ^ 8)) = true) : Gp n (.str x) 0 x.cps.size := ⟨_, rfl, okp_str h h2⟩
theorem gq_nil : Gq n [] 0 0 := ⟨_, rfl, okps_nil⟩
theorem gq_cons (h : Gp n v dp w) (hs : Gq n vs dp w') : Gq n (v :: vs) dp (w + w' + 1) := by
  obtain ⟨q, a, b⟩ := h
  obtain ⟨qs, as, bs⟩ := hs
  refine ⟨q :: qs, ?_, okps_cons b bs⟩
  simp only [pyPs, a, as]; rfl
theorem gp_tup (h : Gq n vs dp w) : Gp n (.tup vs) (dp + 1) w := by
  obtain ⟨qs, as, bs⟩ := h
  exact ⟨.tuple qs, by simp only [pyP, as]; rfl, okp_tuple bs⟩
theorem gp_lst (h : Gq n vs dp w) : Gp (n + 1) (.lst vs) (dp + 1) w := by
  obtain ⟨qs, as, bs⟩ := h
  exact ⟨.list qs, by simp only [pyP, as]; rfl, okp_list bs⟩
theorem gq_all {c : Nat} : ∀ {vs : List P}, (∀ v ∈ vs, Gp n v dp c) → Gq n vs dp ((c + 1) * vs.length)
  | [], _ => gq_nil.mono (Nat.zero_le _) (Nat.zero_le _)
  | v :: vs, h => (gq_cons (h v List.mem_cons_self) (gq_all fun u hu => h u (List.mem_cons_of_mem _ hu))).mono (Nat.le_refl _) (by rw [List.length_cons, Nat.mul_succ]; omega)
theorem rp_some (h : Gp 12 v dp w) (h1 : dp ≤ 60) (h2 : w ≤ 8000) : ∃ s, reprP v = some s := by
  obtain ⟨q, a, b⟩ := h
  refine ⟨q.shown, ?_⟩
  unfold reprP
  rw [a]
  exact if_pos (b.end h1 h2)
theorem rp_tup (h : Gp 12 (.tup vs) dp w) (h1 : dp ≤ 60) (h2 : w ≤ 8000) : ∃ s, bltP .repr [.tup vs] = .ret (.str s) := by
  obtain ⟨s, e⟩ := rp_some h h1 h2
  exact ⟨s, by show ofP ((reprP (.tup vs)).map P.str) = _; rw [e]; rfl⟩
theorem rp_lst (h : Gp 12 (.lst vs) dp w) (h1 : dp ≤ 60) (h2 : w ≤ 8000) : ∃ s, bltP .repr [.lst vs] = .ret (.str s) := by
  obtain ⟨s, e⟩ := rp_some h h1 h2
  exact ⟨s, by show ofP ((reprP (.lst vs)).map P.str) = _; rw [e]; rfl⟩
theorem rp_str {x : Str} (h : Gp 12 (.str x) dp w) (h1 : dp ≤ 60) (h2 : w ≤ 8000) : ∃ s, bltP .repr [.str x] = .ret (.str s) := by
  obtain ⟨s, e⟩ := rp_some h h1 h2
  exact ⟨s, by show ofP ((reprP (.str x)).map P.str) = _; rw [e]; rfl⟩
theorem gp_nat {i k : Nat} (hk : k ≤ 1900) (h : i < 2 ^ k) : Gp n (.int (i : Nat)) 0 (k + 1) := gp_int hk (by simpa using h)
theorem gq_ns {r : List Nat} {k : Nat} (hk : k ≤ 1900) (h : ∀ x ∈ r, x < 2 ^ k) : Gq n (nsP r) 0 ((k + 2) * r.length) := by
  have := gq_all (n := n) (dp := 0) (c := k + 1) (vs := nsP r) fun v hv => by
    obtain ⟨x, hx, rfl⟩ := List.mem_map.mp hv
    exact gp_nat hk (h x hx)
  rw [ns_len] at this; exact this
theorem gp_hd {h : Nat × Nat} (h1 : h.1 < 16) (h2 : h.2 < 16) : Gp n (hdP h) 1 12 :=
  (gp_tup (gq_cons (gp_nat (k := 4) (by decide) h1) (gq_cons (gp_nat (k := 4) (by decide) h2) gq_nil))).mono (Nat.le_refl _) (by decide)
theorem gp_tr {T : List (Nat × Nat)} (h : ∀ x ∈ T, x.1 < 16 ∧ x.2 < 16) : Gp n (trP T) 2 (13 * T.length) := by
  have := gq_all (n := n) (dp := 1) (c := 12) (vs := T.map hdP) fun v hv => by
    obtain ⟨x, hx, rfl⟩ := List.mem_map.mp hv
    exact gp_hd (h x hx).1 (h x hx).2
  rw [List.length_map] at this
  exact gp_tup this
theorem gp_row {r : List Nat} {k : Nat} (hk : k ≤ 1900) (h : ∀ x ∈ r, x < 2 ^ k) : Gp n (rowP r) 1 ((k + 2) * r.length) := gp_tup (gq_ns hk h)
end
/-! ### texts of 0 and 1 -/
def bitsS (bs : List Bool) : Str := ⟨(bs.map fun b => if b then 49 else 48).toArray⟩
theorem s_one : ("1" : Str) = bitsS [true] := by decide +kernel
theorem s_zero : ("0" : Str) = bitsS [false] := by decide +kernel
theorem s_none : ("" : Str) = bitsS [] := by decide +kernel
theorem s_01 : ("01" : Str) = bitsS [false, true] := by decide +kernel
theorem bits_add {a b : List Bool} : bitsS a ++ bitsS b = bitsS (a ++ b) := by
  show Str.mk (_ ++ _) = Str.mk _
  congr 1
  simp [bitsS]
theorem bits_len {bs : List Bool} : (bitsS bs).length = bs.length := by simp [bitsS, Str.length]
theorem bits_inj {a b : List Bool} : (bitsS a = bitsS b) ↔ a = b := by
  constructor
  · intro h
    have h := congrArg (fun s => s.cps.toList) h
    simp only [bitsS] at h
    refine (List.map_inj_right (f := fun b : Bool => if b = true then 49 else 48) ?_).mp h
    intro x y; cases x <;> cases y <;> simp
  · rintro rfl; rfl
theorem bits_at {bs : List Bool} {i : Int} : atI (bitsS bs).cps.toList i = (atI bs i).map fun b => if b then 49 else 48 := by
  simp only [bitsS]
  exact atI_map'
theorem bits_ix {bs : List Bool} {i : Int} (h : bs.length ≤ 1000) : ixP (.str (bitsS bs)) (.int i) = ofP ((atI bs i).map fun b => .str (bitsS [b])) := by
  have hs : (bitsS bs).length ≤ sizeLine := by rw [bits_len]; exact Nat.le_trans h (by decide)
  simp only [ixP]
  rw [if_pos hs, bits_at]
  cases atI bs i with
  | none => rfl
  | some b => cases b <;> rfl
theorem gp_bits {n : Nat} {bs : List Bool} : Gp n (.str (bitsS bs)) 0 bs.length := by
  have := gp_str (n := n) (x := bitsS bs) (by simp [bitsS]) (by simp [bitsS])
  exact this.mono (Nat.le_refl _) (by simp [bitsS])
theorem join_bits {bs : List Bool} : Txt.join (bitsS []) (bs.map fun b => bitsS [b]) = bitsS bs := by
  have go : ∀ (l : List Bool) (acc : Array Nat), (l.map fun b => bitsS [b]).foldl (fun acc p => acc ++ (bitsS []).cps ++ p.cps) acc = acc ++ (bitsS l).cps := by
    intro l
    induction l with
    | nil => intro acc; simp [bitsS]
    | cons b l ih =>
      intro acc
      rw [List.map_cons, List.foldl_cons, ih]
      simp [bitsS]
  cases bs with
  | nil => rfl
  | cons b l =>
    show Str.mk _ = _
    simp only [List.map_cons, List.drop_succ_cons, List.drop_zero, List.headD_cons]
    rw [go]
    simp [bitsS]
theorem strs_bits {bs : List Bool} : allStrsP (bs.map fun b => P.str (bitsS [b])) = some (bs.map fun b => bitsS [b]) := by
  induction bs with
  | nil => rfl
  | cons b l ih => rw [List.map_cons, allStrsP, ih]; rfl
theorem q_join {bs : List Bool} (h : bs.length ≤ 1000) : mthP .join (.str "") [.lst (bs.map fun b => P.str (bitsS [b]))] = .ret (.str (bitsS bs)) := by
  have e : (itemsP (.lst (bs.map fun b => P.str (bitsS [b])))).bind allStrsP = some (bs.map fun b => bitsS [b]) := strs_bits
  unfold mthP
  simp only [e]
  rw [if_pos, s_none, join_bits]
  have h1 : ((bs.map fun b => bitsS [b]).map (·.length)).sum = bs.length := by
    clear h e
    induction bs with
    | nil => rfl
    | cons b l ih => simp only [List.map_cons, List.sum_cons, List.length_cons]; rw [ih, bits_len]; simp; omega
  rw [h1, s_none, bits_len]
  simp only [List.length_nil, Nat.mul_zero, Nat.add_zero]
  exact Nat.le_trans h (by decide)
/-! ### in a tuple of numbers -/
theorem flat_ns {r : List Nat} : (nsP r).all flatP = true := by
  unfold nsP; rw [List.all_map, List.all_eq_true]; intro x _; rfl
theorem in_ns {r : List Nat} {i : Nat} : inFlatP (.int (i : Nat)) (nsP r) = r.contains i := by
  unfold inFlatP nsP
  rw [List.any_map]
  induction r with
  | nil => rfl
  | cons x r ih =>
    rw [List.any_cons, ih, List.contains_cons]
    congr 1
    show ((x : Int) == (i : Int)) = (i == x)
    rw [Bool.eq_iff_iff, beq_iff_eq, beq_iff_eq]; omega
theorem q_notin {r : List Nat} {i : Nat} : cmpP .notin (.int (i : Nat)) (.tup (nsP r)) = .ret (.bl (!r.contains i)) := by
  simp only [cmpP, itemsP]
  rw [if_pos (by rw [flat_ns]; rfl), in_ns]
theorem q_in {r : List Nat} {i : Nat} : cmpP .isin (.int (i : Nat)) (.tup (nsP r)) = .ret (.bl (r.contains i)) := by
  simp only [cmpP, itemsP]
  rw [if_pos (by rw [flat_ns]; rfl), in_ns]
theorem q_notinL {r : List Nat} {i : Nat} : cmpP .notin (.int (i : Nat)) (.lst (nsP r)) = .ret (.bl (!r.contains i)) := by
  simp only [cmpP, itemsP]
  rw [if_pos (by rw [flat_ns]; rfl), in_ns]
theorem q_inL {r : List Nat} {i : Nat} : cmpP .isin (.int (i : Nat)) (.lst (nsP r)) = .ret (.bl (r.contains i)) := by
  simp only [cmpP, itemsP]
  rw [if_pos (by rw [flat_ns]; rfl), in_ns]
/-- places and numbers -/
def enc2 (p : Nat × Nat) : P := .tup [.int (p.2 : Nat), .int (p.1 : Nat)]
theorem en_ns {r : List Nat} : ((nsP r).zipIdx.map fun p => P.tup [.int (p.2 : Nat), p.1]) = r.zipIdx.map enc2 := by
  unfold nsP
  rw [List.zipIdx_map, List.map_map]
  rfl
/-! ### who is heard -/
def awk (T : List (Nat × Nat)) (x : Nat) (b : Int) : Bool := match T[x]? with
  | some h => (b - h.2) % h.1 == 0
  | none => false
def sig (T : List (Nat × Nat)) (r : List Nat) (b : Int) (h : List Nat) : List Bool := r.zipIdx.map fun p => awk T p.1 b && !h.contains p.2
theorem sig_len {T : List (Nat × Nat)} {r : List Nat} {b : Int} {h : List Nat} : (sig T r b h).length = r.length := by simp [sig]
/-- hands with gaps -/
def Hands (T : List (Nat × Nat)) : Prop := ∀ h ∈ T, h.2 < h.1 ∧ h.1 ≤ 12
theorem Hands.w {T : List (Nat × Nat)} (h : Hands T) : ∀ x ∈ T, x.1 < 16 ∧ x.2 < 16 := fun x hx => by have := h x hx; omega
section
variable {F : POrc} {G : PShp} {fr : Nat → Bool} {T : List (Nat × Nat)} {r : List Nat} {b : Int} {hs : List Nat}
theorem awake_at {c0 : Nat} (h0 : AwakeOk (F c0)) (hT : Hands T) {x : Nat} (hx : x < T.length) : ∃ h, atI (T.map hdP) (x : Int) = some (hdP h) ∧ F c0 [hdP h, .int b] = .ret (.bl (awk T x b)) := by
  refine ⟨T[x], by rw [tr_get, List.getElem?_eq_getElem hx]; rfl, ?_⟩
  have q := hT T[x] (List.getElem_mem hx)
  unfold hdP awk
  rw [h0 _ _ _ (by omega), List.getElem?_eq_getElem hx]
theorem heard_ok {c0 : Nat} (h0 : AwakeOk (F c0)) (hT : Hands T) (hr : ∀ x ∈ r, x < T.length) (hl : r.length ≤ 1000) :
    bodyP F G fr 7 (B_heard c0) [trP T, rowP r, .int b, .tup (nsP hs)] = .ret (.str (bitsS (sig T r b hs))) := by
  have e1 : (sig T r b hs).map (fun c => P.str (bitsS [c])) = r.zipIdx.map fun p => P.str (bitsS [awk T p.1 b && !hs.contains p.2]) := by unfold sig; rw [List.map_map]; rfl
  have lc : lcP (lcT F G (.tup (.cons (.name 5) (.cons (.name 6) .nil))) .none (.ite (.and (.cons (.call c0 (.cons (.idx (.var 0) (.var 6)) (.cons (.var 2) .nil))) (.cons (.cmp .notin (.var 5) (.var 3)) .nil))) (.str "1") (.str "0")) [some (.tup (T.map hdP), false), some (.tup (nsP r), false), some (.int b, false), some (.tup (nsP hs), false), none, none, none]) [] (r.zipIdx.map enc2) = .ret (r.zipIdx.map fun p => P.str (bitsS [awk T p.1 b && !hs.contains p.2])) := by
    refine lc_map (fun p hp => ?_) (by rw [List.length_zipIdx]; exact Nat.le_trans hl (by decide))
    have hx : p.1 < T.length := hr _ (List.fst_mem_of_mem_zipIdx hp)
    obtain ⟨h, a1, a2⟩ := awake_at (b := b) h0 hT hx
    cases e1 : awk T p.1 b with
    | false => rw [e1] at a2; simp (disch := first | omega | assumption) only [zaa, zab, zac, zad, ↓zae, ↓zaf, ↓zag, ↓zah, ↓zai, zaj, ↓zak, ↓zal, ↓zam, zan, zao, zap, zaq, ↓zar, ↓zas, ↓zat, ↓zau, ↓zav, ↓zaw, ↓zax, ↓zay, ↓zaz, ↓zba, ↓zbb, ↓zbc, ↓zbd, ↓zbe, ↓zbf, ↓zbg, ↓zbh, ↓zbi, ↓zbj, ↓zbk, ↓zbl, ↓zbm, ↓zbn, ↓zbo, ↓zbp, ↓zbq, ↓zbr, ↓zbs, ↓zbt, ↓zbu, ↓zbv, ↓zbw, ↓zbx, ↓zby, ↓zbz, ↓zca, ↓zcb, ↓zcc, ↓zcd, ↓zce, ↓zcf, ↓zcg, ↓zch, ↓zci, ↓zcj, ↓zck, ↓zcl, ↓zcm, ↓zcn, ↓zco, ↓zcp, ↓zcq, ↓zcr, ↓zcs, ↓zct, ↓zcu, ↓zcv, ↓zcw, ↓zcx, ↓zcy, ↓zcz, ↓zda, ↓zdb, ↓zdc, ↓zdd, ↓zde, ↓zdf, ↓zdg, ↓zdh, ↓zdi, ↓zdj, ↓zdk, ↓zdl, ↓zdm, ↓zdn, ↓zdo, ↓zdp, ↓zdq, ↓zdr, ↓zds, ↓zdt, ↓zdu, ↓zdv, ↓zdw, ↓zdx, ↓zdy, ↓zdz, ↓zea, ↓zeb, ↓zec, ↓zed, ↓zee, zef, zeg, zeh, zei, zej, zek, zel, zem, zen, zeo, zep, zeq, zer, zes, zet, zeu, zev, zew, zex, zey, zez, zfa, zfb, zfc, zfd, zfe, zff, zfg, zfh, zfi, zfj, zfk, zfl, zfm, zfn, zfo, zfp, zfq, zfr, zfs, zft, zfu, zfv, zfw, zfx, zfy, zfz, zga, zgb, zgc, zgd, zge, zgf, zgg, zgh, zgi, zgj, zgk, zgl, zgm, zgn, zgo, zgp, zgq, zgr, zgs, zgt, zgu, zgv, zgw, zgx, zgy, zgz, zha, zhb, zhc, zhd, zhe, zhf, zhg, zhh, zhi, zhj, zhk, zhl, zhm, zhn, zho, zhp, zhq, zhr, zhs, zht, zhu, zhv, zhw, zhx, zhy, zhz, zia, zib, zic, zid, zie, zif, zig, zih, zii, zij, zik, zil, zim, zin, zio, zip, ziq, zir, zis, zit, ziu, ziv, ziw, Int.reduceBEq, Int.reduceLT, Int.reduceLE, Int.reduceNeg, Nat.reduceLeDiff, Nat.reduceAdd, Nat.reduceLT, Nat.reduceSub, reduceCtorEq, Wk.frE, ne_eq, reduceIte, ↓zLc, ↓zFor, ↓zWhl, lt_eq, enc2, a1, a2, s_zero]
    | true =>
      rw [e1] at a2
      cases e2 : hs.contains p.2 with
      | false => have q := q_notin (r := hs) (i := p.2); rw [e2] at q; simp (disch := first | omega | assumption) only [zaa, zab, zac, zad, ↓zae, ↓zaf, ↓zag, ↓zah, ↓zai, zaj, ↓zak, ↓zal, ↓zam, zan, zao, zap, zaq, ↓zar, ↓zas, ↓zat, ↓zau, ↓zav, ↓zaw, ↓zax, ↓zay, ↓zaz, ↓zba, ↓zbb, ↓zbc, ↓zbd, ↓zbe, ↓zbf, ↓zbg, ↓zbh, ↓zbi, ↓zbj, ↓zbk, ↓zbl, ↓zbm, ↓zbn, ↓zbo, ↓zbp, ↓zbq, ↓zbr, ↓zbs, ↓zbt, ↓zbu, ↓zbv, ↓zbw, ↓zbx, ↓zby, ↓zbz, ↓zca, ↓zcb, ↓zcc, ↓zcd, ↓zce, ↓zcf, ↓zcg, ↓zch, ↓zci, ↓zcj, ↓zck, ↓zcl, ↓zcm, ↓zcn, ↓zco, ↓zcp, ↓zcq, ↓zcr, ↓zcs, ↓zct, ↓zcu, ↓zcv, ↓zcw, ↓zcx, ↓zcy, ↓zcz, ↓zda, ↓zdb, ↓zdc, ↓zdd, ↓zde, ↓zdf, ↓zdg, ↓zdh, ↓zdi, ↓zdj, ↓zdk, ↓zdl, ↓zdm, ↓zdn, ↓zdo, ↓zdp, ↓zdq, ↓zdr, ↓zds, ↓zdt, ↓zdu, ↓zdv, ↓zdw, ↓zdx, ↓zdy, ↓zdz, ↓zea, ↓zeb, ↓zec, ↓zed, ↓zee, zef, zeg, zeh, zei, zej, zek, zel, zem, zen, zeo, zep, zeq, zer, zes, zet, zeu, zev, zew, zex, zey, zez, zfa, zfb, zfc, zfd, zfe, zff, zfg, zfh, zfi, zfj, zfk, zfl, zfm, zfn, zfo, zfp, zfq, zfr, zfs, zft, zfu, zfv, zfw, zfx, zfy, zfz, zga, zgb, zgc, zgd, zge, zgf, zgg, zgh, zgi, zgj, zgk, zgl, zgm, zgn, zgo, zgp, zgq, zgr, zgs, zgt, zgu, zgv, zgw, zgx, zgy, zgz, zha, zhb, zhc, zhd, zhe, zhf, zhg, zhh, zhi, zhj, zhk, zhl, zhm, zhn, zho, zhp, zhq, zhr, zhs, zht, zhu, zhv, zhw, zhx, zhy, zhz, zia, zib, zic, zid, zie, zif, zig, zih, zii, zij, zik, zil, zim, zin, zio, zip, ziq, zir, zis, zit, ziu, ziv, ziw, Int.reduceBEq, Int.reduceLT, Int.reduceLE, Int.reduceNeg, Nat.reduceLeDiff, Nat.reduceAdd, Nat.reduceLT, Nat.reduceSub, reduceCtorEq, Wk.frE, ne_eq, reduceIte, ↓zLc, ↓zFor, ↓zWhl, lt_eq, enc2, a1, a2, q, s_one]
      | true => have q := q_notin (r := hs) (i := p.2); rw [e2] at q; simp (disch := first | omega | assumption) only [zaa, zab, zac, zad, ↓zae, ↓zaf, ↓zag, ↓zah, ↓zai, zaj, ↓zak, ↓zal, ↓zam, zan, zao, zap, zaq, ↓zar, ↓zas, ↓zat, ↓zau, ↓zav, ↓zaw, ↓zax, ↓zay, ↓zaz, ↓zba, ↓zbb, ↓zbc, ↓zbd, ↓zbe, ↓zbf, ↓zbg, ↓zbh, ↓zbi, ↓zbj, ↓zbk, ↓zbl, ↓zbm, ↓zbn, ↓zbo, ↓zbp, ↓zbq, ↓zbr, ↓zbs, ↓zbt, ↓zbu, ↓zbv, ↓zbw, ↓zbx, ↓zby, ↓zbz, ↓zca, ↓zcb, ↓zcc, ↓zcd, ↓zce, ↓zcf, ↓zcg, ↓zch, ↓zci, ↓zcj, ↓zck, ↓zcl, ↓zcm, ↓zcn, ↓zco, ↓zcp, ↓zcq, ↓zcr, ↓zcs, ↓zct, ↓zcu, ↓zcv, ↓zcw, ↓zcx, ↓zcy, ↓zcz, ↓zda, ↓zdb, ↓zdc, ↓zdd, ↓zde, ↓zdf, ↓zdg, ↓zdh, ↓zdi, ↓zdj, ↓zdk, ↓zdl, ↓zdm, ↓zdn, ↓zdo, ↓zdp, ↓zdq, ↓zdr, ↓zds, ↓zdt, ↓zdu, ↓zdv, ↓zdw, ↓zdx, ↓zdy, ↓zdz, ↓zea, ↓zeb, ↓zec, ↓zed, ↓zee, zef, zeg, zeh, zei, zej, zek, zel, zem, zen, zeo, zep, zeq, zer, zes, zet, zeu, zev, zew, zex, zey, zez, zfa, zfb, zfc, zfd, zfe, zff, zfg, zfh, zfi, zfj, zfk, zfl, zfm, zfn, zfo, zfp, zfq, zfr, zfs, zft, zfu, zfv, zfw, zfx, zfy, zfz, zga, zgb, zgc, zgd, zge, zgf, zgg, zgh, zgi, zgj, zgk, zgl, zgm, zgn, zgo, zgp, zgq, zgr, zgs, zgt, zgu, zgv, zgw, zgx, zgy, zgz, zha, zhb, zhc, zhd, zhe, zhf, zhg, zhh, zhi, zhj, zhk, zhl, zhm, zhn, zho, zhp, zhq, zhr, zhs, zht, zhu, zhv, zhw, zhx, zhy, zhz, zia, zib, zic, zid, zie, zif, zig, zih, zii, zij, zik, zil, zim, zin, zio, zip, ziq, zir, zis, zit, ziu, ziv, ziw, Int.reduceBEq, Int.reduceLT, Int.reduceLE, Int.reduceNeg, Nat.reduceLeDiff, Nat.reduceAdd, Nat.reduceLT, Nat.reduceSub, reduceCtorEq, Wk.frE, ne_eq, reduceIte, ↓zLc, ↓zFor, ↓zWhl, lt_eq, enc2, a1, a2, q, s_zero]
  have j := q_join (bs := sig T r b hs) (by rw [sig_len]; exact hl)
  rw [e1] at j
  simp (disch := first | omega | assumption) only [zaa, zab, zac, zad, ↓zae, ↓zaf, ↓zag, ↓zah, ↓zai, zaj, ↓zak, ↓zal, ↓zam, zan, zao, zap, zaq, ↓zar, ↓zas, ↓zat, ↓zau, ↓zav, ↓zaw, ↓zax, ↓zay, ↓zaz, ↓zba, ↓zbb, ↓zbc, ↓zbd, ↓zbe, ↓zbf, ↓zbg, ↓zbh, ↓zbi, ↓zbj, ↓zbk, ↓zbl, ↓zbm, ↓zbn, ↓zbo, ↓zbp, ↓zbq, ↓zbr, ↓zbs, ↓zbt, ↓zbu, ↓zbv, ↓zbw, ↓zbx, ↓zby, ↓zbz, ↓zca, ↓zcb, ↓zcc, ↓zcd, ↓zce, ↓zcf, ↓zcg, ↓zch, ↓zci, ↓zcj, ↓zck, ↓zcl, ↓zcm, ↓zcn, ↓zco, ↓zcp, ↓zcq, ↓zcr, ↓zcs, ↓zct, ↓zcu, ↓zcv, ↓zcw, ↓zcx, ↓zcy, ↓zcz, ↓zda, ↓zdb, ↓zdc, ↓zdd, ↓zde, ↓zdf, ↓zdg, ↓zdh, ↓zdi, ↓zdj, ↓zdk, ↓zdl, ↓zdm, ↓zdn, ↓zdo, ↓zdp, ↓zdq, ↓zdr, ↓zds, ↓zdt, ↓zdu, ↓zdv, ↓zdw, ↓zdx, ↓zdy, ↓zdz, ↓zea, ↓zeb, ↓zec, ↓zed, ↓zee, zef, zeg, zeh, zei, zej, zek, zel, zem, zen, zeo, zep, zeq, zer, zes, zet, zeu, zev, zew, zex, zey, zez, zfa, zfb, zfc, zfd, zfe, zff, zfg, zfh, zfi, zfj, zfk, zfl, zfm, zfn, zfo, zfp, zfq, zfr, zfs, zft, zfu, zfv, zfw, zfx, zfy, zfz, zga, zgb, zgc, zgd, zge, zgf, zgg, zgh, zgi, zgj, zgk, zgl, zgm, zgn, zgo, zgp, zgq, zgr, zgs, zgt, zgu, zgv, zgw, zgx, zgy, zgz, zha, zhb, zhc, zhd, zhe, zhf, zhg, zhh, zhi, zhj, zhk, zhl, zhm, zhn, zho, zhp, zhq, zhr, zhs, zht, zhu, zhv, zhw, zhx, zhy, zhz, zia, zib, zic, zid, zie, zif, zig, zih, zii, zij, zik, zil, zim, zin, zio, zip, ziq, zir, zis, zit, ziu, ziv, ziw, Int.reduceBEq, Int.reduceLT, Int.reduceLE, Int.reduceNeg, Nat.reduceLeDiff, Nat.reduceAdd, Nat.reduceLT, Nat.reduceSub, reduceCtorEq, Wk.frE, ne_eq, reduceIte, ↓zLc, ↓zFor, ↓zWhl, body_eq, B_heard, trP, rowP, en_ns, lc, j]
def HeardOk (f : List P → Cm P) : Prop := ∀ (T : List (Nat × Nat)) (r : List Nat) (b : Int) (hs : List Nat), Hands T → (∀ x ∈ r, x < T.length) → r.length ≤ 1000 → f [trP T, rowP r, .int b, .tup (nsP hs)] = .ret (.str (bitsS (sig T r b hs)))
/-- the same, sign by sign -/
theorem word_ok {c0 : Nat} (h0 : AwakeOk (F c0)) (hT : Hands T) (hr : ∀ x ∈ r, x < T.length) (hl : r.length ≤ 1000) :
    bodyP F G fr 7 (B_l_word c0) [trP T, rowP r, .int b, .tup (nsP hs)] = .ret (.str (bitsS (sig T r b hs))) := by
  have loop : forP (foT F G fr (.tup (.cons (.name 5) (.cons (.name 6) .nil))) (B_l_word_L0 c0)) [5, 6] (r.zipIdx.map enc2) [some (.tup (T.map hdP), false), some (.tup (nsP r), false), some (.int b, false), some (.tup (nsP hs), false), some (.str (bitsS []), false), none, none] = .ret (.nx [some (.tup (T.map hdP), false), some (.tup (nsP r), false), some (.int b, false), some (.tup (nsP hs), false), some (.str (bitsS (r.zipIdx.foldl (fun s p => s ++ [awk T p.1 b && !hs.contains p.2]) [])), false), none, none]) := by
    refine ok_eq (t := 0) (for_ok (fun i env t => t = 0 ∧ env = [some (.tup (T.map hdP), false), some (.tup (nsP r), false), some (.int b, false), some (.tup (nsP hs), false), some (.str (bitsS ((r.zipIdx.take i).foldl (fun s p => s ++ [awk T p.1 b && !hs.contains p.2]) [])), false), none, none]) ⟨rfl, rfl⟩ (fun i x env t hx hi => ?_) (fun env t hi => ?_))
    · obtain ⟨rfl, rfl⟩ := hi
      rw [List.getElem?_map] at hx
      cases hp : r.zipIdx[i]? with
      | none => rw [hp] at hx; cases hx
      | some p =>
        rw [hp] at hx; cases hx
        have hm := List.mem_of_getElem? hp
        have hx : p.1 < T.length := hr _ (List.fst_mem_of_mem_zipIdx hm)
        obtain ⟨h, a1, a2⟩ := awake_at (b := b) h0 hT hx
        have hlen : i < r.length := by have := (List.getElem?_eq_some_iff.mp hp).1; simpa using this
        have ht : r.zipIdx.take (i + 1) = r.zipIdx.take i ++ [p] := by rw [List.take_add_one, hp]; rfl
        rw [ht, List.foldl_append]
        generalize hacc : (r.zipIdx.take i).foldl (fun s p => s ++ [awk T p.1 b && !hs.contains p.2]) [] = acc
        have hal : acc.length ≤ 1000 := by
          rw [← hacc]
          have : ∀ (l : List (Nat × Nat)) (a : List Bool), (l.foldl (fun s p => s ++ [awk T p.1 b && !hs.contains p.2]) a).length = a.length + l.length := by
            intro l
            induction l with
            | nil => intro a; rfl
            | cons x l ih => intro a; rw [List.foldl_cons, ih]; simp; omega
          rw [this]; simp; omega
        have hz : ∀ z : Bool, binP .add (.str (bitsS acc)) (.str (bitsS [z])) = .ret (.str (bitsS (acc ++ [z]))) := fun z => by
          rw [q_addS (by rw [bits_len, bits_len]; exact Nat.le_trans (by simp; omega : _ ≤ 1001) (by decide)), bits_add]
        have i0 : ixP (.str "01") (.int 0) = .ret (.str (bitsS [false])) := by rw [s_01, bits_ix (by decide)]; rfl
        have i1 : ixP (.str "01") (.int 1) = .ret (.str (bitsS [true])) := by rw [s_01, bits_ix (by decide)]; rfl
        cases e1 : awk T p.1 b with
        | false => rw [e1] at a2; simp (disch := first | omega | assumption) only [zaa, zab, zac, zad, ↓zae, ↓zaf, ↓zag, ↓zah, ↓zai, zaj, ↓zak, ↓zal, ↓zam, zan, zao, zap, zaq, ↓zar, ↓zas, ↓zat, ↓zau, ↓zav, ↓zaw, ↓zax, ↓zay, ↓zaz, ↓zba, ↓zbb, ↓zbc, ↓zbd, ↓zbe, ↓zbf, ↓zbg, ↓zbh, ↓zbi, ↓zbj, ↓zbk, ↓zbl, ↓zbm, ↓zbn, ↓zbo, ↓zbp, ↓zbq, ↓zbr, ↓zbs, ↓zbt, ↓zbu, ↓zbv, ↓zbw, ↓zbx, ↓zby, ↓zbz, ↓zca, ↓zcb, ↓zcc, ↓zcd, ↓zce, ↓zcf, ↓zcg, ↓zch, ↓zci, ↓zcj, ↓zck, ↓zcl, ↓zcm, ↓zcn, ↓zco, ↓zcp, ↓zcq, ↓zcr, ↓zcs, ↓zct, ↓zcu, ↓zcv, ↓zcw, ↓zcx, ↓zcy, ↓zcz, ↓zda, ↓zdb, ↓zdc, ↓zdd, ↓zde, ↓zdf, ↓zdg, ↓zdh, ↓zdi, ↓zdj, ↓zdk, ↓zdl, ↓zdm, ↓zdn, ↓zdo, ↓zdp, ↓zdq, ↓zdr, ↓zds, ↓zdt, ↓zdu, ↓zdv, ↓zdw, ↓zdx, ↓zdy, ↓zdz, ↓zea, ↓zeb, ↓zec, ↓zed, ↓zee, zef, zeg, zeh, zei, zej, zek, zel, zem, zen, zeo, zep, zeq, zer, zes, zet, zeu, zev, zew, zex, zey, zez, zfa, zfb, zfc, zfd, zfe, zff, zfg, zfh, zfi, zfj, zfk, zfl, zfm, zfn, zfo, zfp, zfq, zfr, zfs, zft, zfu, zfv, zfw, zfx, zfy, zfz, zga, zgb, zgc, zgd, zge, zgf, zgg, zgh, zgi, zgj, zgk, zgl, zgm, zgn, zgo, zgp, zgq, zgr, zgs, zgt, zgu, zgv, zgw, zgx, zgy, zgz, zha, zhb, zhc, zhd, zhe, zhf, zhg, zhh, zhi, zhj, zhk, zhl, zhm, zhn, zho, zhp, zhq, zhr, zhs, zht, zhu, zhv, zhw, zhx, zhy, zhz, zia, zib, zic, zid, zie, zif, zig, zih, zii, zij, zik, zil, zim, zin, zio, zip, ziq, zir, zis, zit, ziu, ziv, ziw, Int.reduceBEq, Int.reduceLT, Int.reduceLE, Int.reduceNeg, Nat.reduceLeDiff, Nat.reduceAdd, Nat.reduceLT, Nat.reduceSub, reduceCtorEq, Wk.frE, ne_eq, reduceIte, ↓zLc, ↓zFor, ↓zWhl, fo_eq, B_l_word_L0, enc2, a1, a2, i0, hz, ok_ret, List.foldl_cons, List.foldl_nil, e1]
        | true =>
          rw [e1] at a2
          have q := q_notin (r := hs) (i := p.2)
          cases e2 : hs.contains p.2 with
          | false => rw [e2] at q; simp (disch := first | omega | assumption) only [zaa, zab, zac, zad, ↓zae, ↓zaf, ↓zag, ↓zah, ↓zai, zaj, ↓zak, ↓zal, ↓zam, zan, zao, zap, zaq, ↓zar, ↓zas, ↓zat, ↓zau, ↓zav, ↓zaw, ↓zax, ↓zay, ↓zaz, ↓zba, ↓zbb, ↓zbc, ↓zbd, ↓zbe, ↓zbf, ↓zbg, ↓zbh, ↓zbi, ↓zbj, ↓zbk, ↓zbl, ↓zbm, ↓zbn, ↓zbo, ↓zbp, ↓zbq, ↓zbr, ↓zbs, ↓zbt, ↓zbu, ↓zbv, ↓zbw, ↓zbx, ↓zby, ↓zbz, ↓zca, ↓zcb, ↓zcc, ↓zcd, ↓zce, ↓zcf, ↓zcg, ↓zch, ↓zci, ↓zcj, ↓zck, ↓zcl, ↓zcm, ↓zcn, ↓zco, ↓zcp, ↓zcq, ↓zcr, ↓zcs, ↓zct, ↓zcu, ↓zcv, ↓zcw, ↓zcx, ↓zcy, ↓zcz, ↓zda, ↓zdb, ↓zdc, ↓zdd, ↓zde, ↓zdf, ↓zdg, ↓zdh, ↓zdi, ↓zdj, ↓zdk, ↓zdl, ↓zdm, ↓zdn, ↓zdo, ↓zdp, ↓zdq, ↓zdr, ↓zds, ↓zdt, ↓zdu, ↓zdv, ↓zdw, ↓zdx, ↓zdy, ↓zdz, ↓zea, ↓zeb, ↓zec, ↓zed, ↓zee, zef, zeg, zeh, zei, zej, zek, zel, zem, zen, zeo, zep, zeq, zer, zes, zet, zeu, zev, zew, zex, zey, zez, zfa, zfb, zfc, zfd, zfe, zff, zfg, zfh, zfi, zfj, zfk, zfl, zfm, zfn, zfo, zfp, zfq, zfr, zfs, zft, zfu, zfv, zfw, zfx, zfy, zfz, zga, zgb, zgc, zgd, zge, zgf, zgg, zgh, zgi, zgj, zgk, zgl, zgm, zgn, zgo, zgp, zgq, zgr, zgs, zgt, zgu, zgv, zgw, zgx, zgy, zgz, zha, zhb, zhc, zhd, zhe, zhf, zhg, zhh, zhi, zhj, zhk, zhl, zhm, zhn, zho, zhp, zhq, zhr, zhs, zht, zhu, zhv, zhw, zhx, zhy, zhz, zia, zib, zic, zid, zie, zif, zig, zih, zii, zij, zik, zil, zim, zin, zio, zip, ziq, zir, zis, zit, ziu, ziv, ziw, Int.reduceBEq, Int.reduceLT, Int.reduceLE, Int.reduceNeg, Nat.reduceLeDiff, Nat.reduceAdd, Nat.reduceLT, Nat.reduceSub, reduceCtorEq, Wk.frE, ne_eq, reduceIte, ↓zLc, ↓zFor, ↓zWhl, fo_eq, B_l_word_L0, enc2, a1, a2, q, i1, hz, ok_ret, List.foldl_cons, List.foldl_nil, e1, e2]
          | true => rw [e2] at q; simp (disch := first | omega | assumption) only [zaa, zab, zac, zad, ↓zae, ↓zaf, ↓zag, ↓zah, ↓zai, zaj, ↓zak, ↓zal, ↓zam, zan, zao, zap, zaq, ↓zar, ↓zas, ↓zat, ↓zau, ↓zav, ↓zaw, ↓zax, ↓zay, ↓zaz, ↓zba, ↓zbb, ↓zbc, ↓zbd, ↓zbe, ↓zbf, ↓zbg, ↓zbh, ↓zbi, ↓zbj, ↓zbk, ↓zbl, ↓zbm, ↓zbn, ↓zbo, ↓zbp, ↓zbq, ↓zbr, ↓zbs, ↓zbt, ↓zbu, ↓zbv, ↓zbw, ↓zbx, ↓zby, ↓zbz, ↓zca, ↓zcb, ↓zcc, ↓zcd, ↓zce, ↓zcf, ↓zcg, ↓zch, ↓zci, ↓zcj, ↓zck, ↓zcl, ↓zcm, ↓zcn, ↓zco, ↓zcp, ↓zcq, ↓zcr, ↓zcs, ↓zct, ↓zcu, ↓zcv, ↓zcw, ↓zcx, ↓zcy, ↓zcz, ↓zda, ↓zdb, ↓zdc, ↓zdd, ↓zde, ↓zdf, ↓zdg, ↓zdh, ↓zdi, ↓zdj, ↓zdk, ↓zdl, ↓zdm, ↓zdn, ↓zdo, ↓zdp, ↓zdq, ↓zdr, ↓zds, ↓zdt, ↓zdu, ↓zdv, ↓zdw, ↓zdx, ↓zdy, ↓zdz, ↓zea, ↓zeb, ↓zec, ↓zed, ↓zee, zef, zeg, zeh, zei, zej, zek, zel, zem, zen, zeo, zep, zeq, zer, zes, zet, zeu, zev, zew, zex, zey, zez, zfa, zfb, zfc, zfd, zfe, zff, zfg, zfh, zfi, zfj, zfk, zfl, zfm, zfn, zfo, zfp, zfq, zfr, zfs, zft, zfu, zfv, zfw, zfx, zfy, zfz, zga, zgb, zgc, zgd, zge, zgf, zgg, zgh, zgi, zgj, zgk, zgl, zgm, zgn, zgo, zgp, zgq, zgr, zgs, zgt, zgu, zgv, zgw, zgx, zgy, zgz, zha, zhb, zhc, zhd, zhe, zhf, zhg, zhh, zhi, zhj, zhk, zhl, zhm, zhn, zho, zhp, zhq, zhr, zhs, zht, zhu, zhv, zhw, zhx, zhy, zhz, zia, zib, zic, zid, zie, zif, zig, zih, zii, zij, zik, zil, zim, zin, zio, zip, ziq, zir, zis, zit, ziu, ziv, ziw, Int.reduceBEq, Int.reduceLT, Int.reduceLE, Int.reduceNeg, Nat.reduceLeDiff, Nat.reduceAdd, Nat.reduceLT, Nat.reduceSub, reduceCtorEq, Wk.frE, ne_eq, reduceIte, ↓zLc, ↓zFor, ↓zWhl, fo_eq, B_l_word_L0, enc2, a1, a2, q, i0, hz, ok_ret, List.foldl_cons, List.foldl_nil, e1, e2]
    · obtain ⟨rfl, rfl⟩ := hi
      rw [List.length_map, List.take_of_length_le (Nat.le_refl _)]
      exact ⟨rfl, rfl⟩
  have ef : r.zipIdx.foldl (fun s p => s ++ [awk T p.1 b && !hs.contains p.2]) [] = sig T r b hs := by
    have : ∀ (l : List (Nat × Nat)) (a : List Bool), l.foldl (fun s p => s ++ [awk T p.1 b && !hs.contains p.2]) a = a ++ l.map fun p => awk T p.1 b && !hs.contains p.2 := by
      intro l
      induction l with
      | nil => intro a; simp
      | cons x l ih => intro a; rw [List.foldl_cons, ih]; simp
    rw [this]; rfl
  rw [ef] at loop
  simp (disch := first | omega | assumption) only [zaa, zab, zac, zad, ↓zae, ↓zaf, ↓zag, ↓zah, ↓zai, zaj, ↓zak, ↓zal, ↓zam, zan, zao, zap, zaq, ↓zar, ↓zas, ↓zat, ↓zau, ↓zav, ↓zaw, ↓zax, ↓zay, ↓zaz, ↓zba, ↓zbb, ↓zbc, ↓zbd, ↓zbe, ↓zbf, ↓zbg, ↓zbh, ↓zbi, ↓zbj, ↓zbk, ↓zbl, ↓zbm, ↓zbn, ↓zbo, ↓zbp, ↓zbq, ↓zbr, ↓zbs, ↓zbt, ↓zbu, ↓zbv, ↓zbw, ↓zbx, ↓zby, ↓zbz, ↓zca, ↓zcb, ↓zcc, ↓zcd, ↓zce, ↓zcf, ↓zcg, ↓zch, ↓zci, ↓zcj, ↓zck, ↓zcl, ↓zcm, ↓zcn, ↓zco, ↓zcp, ↓zcq, ↓zcr, ↓zcs, ↓zct, ↓zcu, ↓zcv, ↓zcw, ↓zcx, ↓zcy, ↓zcz, ↓zda, ↓zdb, ↓zdc, ↓zdd, ↓zde, ↓zdf, ↓zdg, ↓zdh, ↓zdi, ↓zdj, ↓zdk, ↓zdl, ↓zdm, ↓zdn, ↓zdo, ↓zdp, ↓zdq, ↓zdr, ↓zds, ↓zdt, ↓zdu, ↓zdv, ↓zdw, ↓zdx, ↓zdy, ↓zdz, ↓zea, ↓zeb, ↓zec, ↓zed, ↓zee, zef, zeg, zeh, zei, zej, zek, zel, zem, zen, zeo, zep, zeq, zer, zes, zet, zeu, zev, zew, zex, zey, zez, zfa, zfb, zfc, zfd, zfe, zff, zfg, zfh, zfi, zfj, zfk, zfl, zfm, zfn, zfo, zfp, zfq, zfr, zfs, zft, zfu, zfv, zfw, zfx, zfy, zfz, zga, zgb, zgc, zgd, zge, zgf, zgg, zgh, zgi, zgj, zgk, zgl, zgm, zgn, zgo, zgp, zgq, zgr, zgs, zgt, zgu, zgv, zgw, zgx, zgy, zgz, zha, zhb, zhc, zhd, zhe, zhf, zhg, zhh, zhi, zhj, zhk, zhl, zhm, zhn, zho, zhp, zhq, zhr, zhs, zht, zhu, zhv, zhw, zhx, zhy, zhz, zia, zib, zic, zid, zie, zif, zig, zih, zii, zij, zik, zil, zim, zin, zio, zip, ziq, zir, zis, zit, ziu, ziv, ziw, Int.reduceBEq, Int.reduceLT, Int.reduceLE, Int.reduceNeg, Nat.reduceLeDiff, Nat.reduceAdd, Nat.reduceLT, Nat.reduceSub, reduceCtorEq, Wk.frE, ne_eq, reduceIte, ↓zLc, ↓zFor, ↓zWhl, body_eq, B_l_word, trP, rowP, en_ns, s_none, loop]
end
end Wk

set_option Elab.async false
set_option linter.all false
set_option maxRecDepth 100000
set_option maxHeartbeats 4000000
namespace Wk
open PySem PySem.Spec PyProof.Rows L2
/-! ### what the laws of the second kind of pen draw -/
section
variable {F : POrc} {G : PShp} {fr : Nat → Bool}
/-- the least common multiple by adding -/
theorem lid_ok {a b : Nat} (ha : 0 < a) (hb : 0 < b) (hb2 : b < 1000000) : bodyP F G fr 3 B_l_lid [.int a, .int b] = .ret (.int (Nat.lcm a b : Nat)) := by
  have hl : Nat.lcm a b = a * (Nat.lcm a b / a) := (Nat.mul_div_cancel' (Nat.dvd_lcm_left a b)).symm
  have hL : 0 < Nat.lcm a b := Nat.lcm_pos ha hb
  have hq : 0 < Nat.lcm a b / a := Nat.div_pos (Nat.le_of_dvd hL (Nat.dvd_lcm_left a b)) ha
  have hqb : Nat.lcm a b / a ≤ b := by
    rw [Nat.lcm, Nat.mul_div_assoc a (Nat.gcd_dvd_right a b), Nat.mul_div_cancel_left _ ha]
    exact Nat.div_le_self _ _
  have loop : whlP (whT F G (.cmp .ne (.bin .mod (.var 2) (.var 1)) (.int 0))) (exPs F G fr B_l_lid_L0) [] whlMost [some (.int a, false), some (.int b, false), some (.int a, false)] = .ret (.nx [some (.int a, false), some (.int b, false), some (.int (Nat.lcm a b : Nat), false)]) := by
    refine ok_eq (t := 0) (whl_ok (fun n env t => ∃ j : Nat, env = [some (.int a, false), some (.int b, false), some (.int ((a * j : Nat) : Int), false)] ∧ t = 0 ∧ 0 < j ∧ n + j = Nat.lcm a b / a) ?_ whlMost (Nat.lcm a b / a - 1) _ _ (by unfold whlMost; omega) ⟨1, by simp, rfl, by omega, by omega⟩)
    rintro n env t ⟨j, rfl, rfl, hj, hn⟩
    have hm : (((a * j : Nat) : Int) % (b : Nat) == 0) = ((a * j) % b == 0) := by rw [Bool.eq_iff_iff, beq_iff_eq, beq_iff_eq]; omega
    generalize hz : ((a * j : Nat) : Int) = z at hm
    cases c : ((a * j) % b == 0) with
    | true =>
      rw [c] at hm
      simp (disch := first | omega | assumption) only [zaa, zab, zac, zad, ↓zae, ↓zaf, ↓zag, ↓zah, ↓zai, zaj, ↓zak, ↓zal, ↓zam, zan, zao, zap, zaq, ↓zar, ↓zas, ↓zat, ↓zau, ↓zav, ↓zaw, ↓zax, ↓zay, ↓zaz, ↓zba, ↓zbb, ↓zbc, ↓zbd, ↓zbe, ↓zbf, ↓zbg, ↓zbh, ↓zbi, ↓zbj, ↓zbk, ↓zbl, ↓zbm, ↓zbn, ↓zbo, ↓zbp, ↓zbq, ↓zbr, ↓zbs, ↓zbt, ↓zbu, ↓zbv, ↓zbw, ↓zbx, ↓zby, ↓zbz, ↓zca, ↓zcb, ↓zcc, ↓zcd, ↓zce, ↓zcf, ↓zcg, ↓zch, ↓zci, ↓zcj, ↓zck, ↓zcl, ↓zcm, ↓zcn, ↓zco, ↓zcp, ↓zcq, ↓zcr, ↓zcs, ↓zct, ↓zcu, ↓zcv, ↓zcw, ↓zcx, ↓zcy, ↓zcz, ↓zda, ↓zdb, ↓zdc, ↓zdd, ↓zde, ↓zdf, ↓zdg, ↓zdh, ↓zdi, ↓zdj, ↓zdk, ↓zdl, ↓zdm, ↓zdn, ↓zdo, ↓zdp, ↓zdq, ↓zdr, ↓zds, ↓zdt, ↓zdu, ↓zdv, ↓zdw, ↓zdx, ↓zdy, ↓zdz, ↓zea, ↓zeb, ↓zec, ↓zed, ↓zee, zef, zeg, zeh, zei, zej, zek, zel, zem, zen, zeo, zep, zeq, zer, zes, zet, zeu, zev, zew, zex, zey, zez, zfa, zfb, zfc, zfd, zfe, zff, zfg, zfh, zfi, zfj, zfk, zfl, zfm, zfn, zfo, zfp, zfq, zfr, zfs, zft, zfu, zfv, zfw, zfx, zfy, zfz, zga, zgb, zgc, zgd, zge, zgf, zgg, zgh, zgi, zgj, zgk, zgl, zgm, zgn, zgo, zgp, zgq, zgr, zgs, zgt, zgu, zgv, zgw, zgx, zgy, zgz, zha, zhb, zhc, zhd, zhe, zhf, zhg, zhh, zhi, zhj, zhk, zhl, zhm, zhn, zho, zhp, zhq, zhr, zhs, zht, zhu, zhv, zhw, zhx, zhy, zhz, zia, zib, zic, zid, zie, zif, zig, zih, zii, zij, zik, zil, zim, zin, zio, zip, ziq, zir, zis, zit, ziu, ziv, ziw, Int.reduceBEq, Int.reduceLT, Int.reduceLE, Int.reduceNeg, Nat.reduceLeDiff, Nat.reduceAdd, Nat.reduceLT, Nat.reduceSub, reduceCtorEq, Wk.frE, ne_eq, reduceIte, ↓zLc, ↓zFor, ↓zWhl, wh_eq, ok_ret, hm]
      rw [beq_iff_eq] at c
      have d : Nat.lcm a b ∣ a * j := Nat.lcm_dvd (Nat.dvd_mul_right a j) (Nat.dvd_of_mod_eq_zero c)
      have hle : j ≤ Nat.lcm a b / a := by omega
      have : a * j = Nat.lcm a b := by
        refine Nat.le_antisymm ?_ (Nat.le_of_dvd (Nat.mul_pos ha hj) d)
        calc a * j ≤ a * (Nat.lcm a b / a) := Nat.mul_le_mul_left a hle
          _ = Nat.lcm a b := hl.symm
      rw [← hz, this]
      exact ⟨rfl, trivial⟩
    | false =>
      rw [c] at hm
      simp (disch := first | omega | assumption) only [zaa, zab, zac, zad, ↓zae, ↓zaf, ↓zag, ↓zah, ↓zai, zaj, ↓zak, ↓zal, ↓zam, zan, zao, zap, zaq, ↓zar, ↓zas, ↓zat, ↓zau, ↓zav, ↓zaw, ↓zax, ↓zay, ↓zaz, ↓zba, ↓zbb, ↓zbc, ↓zbd, ↓zbe, ↓zbf, ↓zbg, ↓zbh, ↓zbi, ↓zbj, ↓zbk, ↓zbl, ↓zbm, ↓zbn, ↓zbo, ↓zbp, ↓zbq, ↓zbr, ↓zbs, ↓zbt, ↓zbu, ↓zbv, ↓zbw, ↓zbx, ↓zby, ↓zbz, ↓zca, ↓zcb, ↓zcc, ↓zcd, ↓zce, ↓zcf, ↓zcg, ↓zch, ↓zci, ↓zcj, ↓zck, ↓zcl, ↓zcm, ↓zcn, ↓zco, ↓zcp, ↓zcq, ↓zcr, ↓zcs, ↓zct, ↓zcu, ↓zcv, ↓zcw, ↓zcx, ↓zcy, ↓zcz, ↓zda, ↓zdb, ↓zdc, ↓zdd, ↓zde, ↓zdf, ↓zdg, ↓zdh, ↓zdi, ↓zdj, ↓zdk, ↓zdl, ↓zdm, ↓zdn, ↓zdo, ↓zdp, ↓zdq, ↓zdr, ↓zds, ↓zdt, ↓zdu, ↓zdv, ↓zdw, ↓zdx, ↓zdy, ↓zdz, ↓zea, ↓zeb, ↓zec, ↓zed, ↓zee, zef, zeg, zeh, zei, zej, zek, zel, zem, zen, zeo, zep, zeq, zer, zes, zet, zeu, zev, zew, zex, zey, zez, zfa, zfb, zfc, zfd, zfe, zff, zfg, zfh, zfi, zfj, zfk, zfl, zfm, zfn, zfo, zfp, zfq, zfr, zfs, zft, zfu, zfv, zfw, zfx, zfy, zfz, zga, zgb, zgc, zgd, zge, zgf, zgg, zgh, zgi, zgj, zgk, zgl, zgm, zgn, zgo, zgp, zgq, zgr, zgs, zgt, zgu, zgv, zgw, zgx, zgy, zgz, zha, zhb, zhc, zhd, zhe, zhf, zhg, zhh, zhi, zhj, zhk, zhl, zhm, zhn, zho, zhp, zhq, zhr, zhs, zht, zhu, zhv, zhw, zhx, zhy, zhz, zia, zib, zic, zid, zie, zif, zig, zih, zii, zij, zik, zil, zim, zin, zio, zip, ziq, zir, zis, zit, ziu, ziv, ziw, Int.reduceBEq, Int.reduceLT, Int.reduceLE, Int.reduceNeg, Nat.reduceLeDiff, Nat.reduceAdd, Nat.reduceLT, Nat.reduceSub, reduceCtorEq, Wk.frE, ne_eq, reduceIte, ↓zLc, ↓zFor, ↓zWhl, wh_eq, ok_ret, hm, B_l_lid_L0]
      have hn0 : n ≠ 0 := by
        intro h0
        subst h0
        have : j = Nat.lcm a b / a := by omega
        rw [this, ← hl] at c
        have hd := Nat.mod_eq_zero_of_dvd (Nat.dvd_lcm_right a b)
        rw [hd] at c; cases c
      refine ⟨n - 1, by omega, j + 1, ?_, trivial, by omega, by omega⟩
      rw [← hz, Nat.mul_succ]; simp
  simp (disch := first | omega | assumption) only [zaa, zab, zac, zad, ↓zae, ↓zaf, ↓zag, ↓zah, ↓zai, zaj, ↓zak, ↓zal, ↓zam, zan, zao, zap, zaq, ↓zar, ↓zas, ↓zat, ↓zau, ↓zav, ↓zaw, ↓zax, ↓zay, ↓zaz, ↓zba, ↓zbb, ↓zbc, ↓zbd, ↓zbe, ↓zbf, ↓zbg, ↓zbh, ↓zbi, ↓zbj, ↓zbk, ↓zbl, ↓zbm, ↓zbn, ↓zbo, ↓zbp, ↓zbq, ↓zbr, ↓zbs, ↓zbt, ↓zbu, ↓zbv, ↓zbw, ↓zbx, ↓zby, ↓zbz, ↓zca, ↓zcb, ↓zcc, ↓zcd, ↓zce, ↓zcf, ↓zcg, ↓zch, ↓zci, ↓zcj, ↓zck, ↓zcl, ↓zcm, ↓zcn, ↓zco, ↓zcp, ↓zcq, ↓zcr, ↓zcs, ↓zct, ↓zcu, ↓zcv, ↓zcw, ↓zcx, ↓zcy, ↓zcz, ↓zda, ↓zdb, ↓zdc, ↓zdd, ↓zde, ↓zdf, ↓zdg, ↓zdh, ↓zdi, ↓zdj, ↓zdk, ↓zdl, ↓zdm, ↓zdn, ↓zdo, ↓zdp, ↓zdq, ↓zdr, ↓zds, ↓zdt, ↓zdu, ↓zdv, ↓zdw, ↓zdx, ↓zdy, ↓zdz, ↓zea, ↓zeb, ↓zec, ↓zed, ↓zee, zef, zeg, zeh, zei, zej, zek, zel, zem, zen, zeo, zep, zeq, zer, zes, zet, zeu, zev, zew, zex, zey, zez, zfa, zfb, zfc, zfd, zfe, zff, zfg, zfh, zfi, zfj, zfk, zfl, zfm, zfn, zfo, zfp, zfq, zfr, zfs, zft, zfu, zfv, zfw, zfx, zfy, zfz, zga, zgb, zgc, zgd, zge, zgf, zgg, zgh, zgi, zgj, zgk, zgl, zgm, zgn, zgo, zgp, zgq, zgr, zgs, zgt, zgu, zgv, zgw, zgx, zgy, zgz, zha, zhb, zhc, zhd, zhe, zhf, zhg, zhh, zhi, zhj, zhk, zhl, zhm, zhn, zho, zhp, zhq, zhr, zhs, zht, zhu, zhv, zhw, zhx, zhy, zhz, zia, zib, zic, zid, zie, zif, zig, zih, zii, zij, zik, zil, zim, zin, zio, zip, ziq, zir, zis, zit, ziu, ziv, ziw, Int.reduceBEq, Int.reduceLT, Int.reduceLE, Int.reduceNeg, Nat.reduceLeDiff, Nat.reduceAdd, Nat.reduceLT, Nat.reduceSub, reduceCtorEq, Wk.frE, ne_eq, reduceIte, ↓zLc, ↓zFor, ↓zWhl, body_eq, B_l_lid, loop]
def LidOk (f : List P → Cm P) : Prop := ∀ a b : Nat, 0 < a → 0 < b → b < 1000000 → f [.int a, .int b] = .ret (.int (Nat.lcm a b : Nat))
/-- the numbers from 1 to 12 -/
def twelve : List Nat := (List.range 12).map (· + 1)
theorem rg_twelve : (List.range (13 - 1 : Int).toNat).map (fun k => P.int (1 + (k : Nat))) = twelve.map fun n => P.int (n : Nat) := by
  unfold twelve
  rw [List.map_map]; exact List.map_congr_left fun k _ => by show P.int (1 + (k : Int)) = P.int ((k + 1 : Nat) : Int); rw [Int.natCast_succ, Int.add_comm]
theorem mem_twelve {n : Nat} : n ∈ twelve ↔ 0 < n ∧ n < 13 := by
  unfold twelve
  simp only [List.mem_map, List.mem_range]
  constructor
  · rintro ⟨m, hm, rfl⟩; omega
  · intro h; exact ⟨n - 1, by omega, by omega⟩
/-- the gaps that go with a round -/
def fitg (w : Nat) : List Nat := twelve.filter fun g => decide (Nat.lcm w g ≤ 60)
theorem fitg_len : ((List.range 61).all fun w => w == 0 || ((List.range 12).all fun g => g == 0 || w % (g + 1) != 0) || w == 1 || decide (2 ≤ (fitg w).length)) = true := by decide +kernel
theorem fitg_one : decide (2 ≤ (fitg 1).length) = true := by decide +kernel
theorem fitg_le {w : Nat} : (fitg w).length ≤ 12 := Nat.le_trans (List.length_filter_le _ _) (by simp [twelve])
/-- a round: 1, or such as some gap divides -/
def Rnd (w : Nat) : Prop := 0 < w ∧ w ≤ 60 ∧ (w = 1 ∨ ∃ g, 1 < g ∧ g < 13 ∧ g ∣ w)
theorem fitg_two {w : Nat} (h : Rnd w) : 2 ≤ (fitg w).length := by
  obtain ⟨h0, h1, h2⟩ := h
  rcases h2 with rfl | ⟨g, g1, g2, gd⟩
  · exact of_decide_eq_true fitg_one
  · have q := fitg_len
    rw [List.all_eq_true] at q
    have q := q w (List.mem_range.mpr (by omega))
    simp only [Bool.or_eq_true, beq_iff_eq, decide_eq_true_eq] at q
    rcases q with ((q | q) | q) | q
    · omega
    · rw [List.all_eq_true] at q
      have q := q (g - 1) (List.mem_range.mpr (by omega))
      simp only [Bool.or_eq_true, beq_iff_eq, bne_iff_ne] at q
      rcases q with q | q
      · omega
      · rw [show g - 1 + 1 = g by omega] at q
        exact absurd (Nat.mod_eq_zero_of_dvd gd) q
    · subst q; exact of_decide_eq_true fitg_one
    · exact q
theorem Rnd.next {w g : Nat} (h : Rnd w) (hg : 0 < g) (hg2 : g < 13) (hl : Nat.lcm w g ≤ 60) : Rnd (Nat.lcm w g) := by
  obtain ⟨h0, h1, h2⟩ := h
  refine ⟨Nat.lcm_pos h0 hg, hl, ?_⟩
  by_cases e : g = 1
  · subst e
    rw [Nat.lcm_one_right]; exact h2
  · exact .inr ⟨g, by omega, hg2, Nat.dvd_lcm_right w g⟩
theorem mem_fitg {w g : Nat} : g ∈ fitg w ↔ (0 < g ∧ g < 13) ∧ Nat.lcm w g ≤ 60 := by
  unfold fitg; rw [List.mem_filter, mem_twelve, decide_eq_true_eq]
theorem some_ok {c1 : Nat} (h1 : LidOk (F c1)) {w : Nat} (hw : Rnd w) {a b c d e f g h i : Option (P × Bool)} : lcP (lcT F G (.name 8) (.some (.cmp .le (.call c1 (.cons (.var 4) (.cons (.var 8) .nil))) (.int 60))) (.var 8) [a, b, c, d, some (.int w, false), e, f, g, none, i]) [] (twelve.map fun n => P.int (n : Nat)) = .ret ((fitg w).map fun n => P.int (n : Nat)) := by
  refine lc_filter (fun n hn => ?_) (by simp [twelve]; decide)
  have hn := mem_twelve.mp hn
  have q := h1 w n hw.1 hn.1 (by omega)
  by_cases hl : Nat.lcm w n ≤ 60
  · have hl' : ((Nat.lcm w n : Nat) : Int) ≤ 60 := by omega
    simp (disch := first | omega | assumption) only [zaa, zab, zac, zad, ↓zae, ↓zaf, ↓zag, ↓zah, ↓zai, zaj, ↓zak, ↓zal, ↓zam, zan, zao, zap, zaq, ↓zar, ↓zas, ↓zat, ↓zau, ↓zav, ↓zaw, ↓zax, ↓zay, ↓zaz, ↓zba, ↓zbb, ↓zbc, ↓zbd, ↓zbe, ↓zbf, ↓zbg, ↓zbh, ↓zbi, ↓zbj, ↓zbk, ↓zbl, ↓zbm, ↓zbn, ↓zbo, ↓zbp, ↓zbq, ↓zbr, ↓zbs, ↓zbt, ↓zbu, ↓zbv, ↓zbw, ↓zbx, ↓zby, ↓zbz, ↓zca, ↓zcb, ↓zcc, ↓zcd, ↓zce, ↓zcf, ↓zcg, ↓zch, ↓zci, ↓zcj, ↓zck, ↓zcl, ↓zcm, ↓zcn, ↓zco, ↓zcp, ↓zcq, ↓zcr, ↓zcs, ↓zct, ↓zcu, ↓zcv, ↓zcw, ↓zcx, ↓zcy, ↓zcz, ↓zda, ↓zdb, ↓zdc, ↓zdd, ↓zde, ↓zdf, ↓zdg, ↓zdh, ↓zdi, ↓zdj, ↓zdk, ↓zdl, ↓zdm, ↓zdn, ↓zdo, ↓zdp, ↓zdq, ↓zdr, ↓zds, ↓zdt, ↓zdu, ↓zdv, ↓zdw, ↓zdx, ↓zdy, ↓zdz, ↓zea, ↓zeb, ↓zec, ↓zed, ↓zee, zef, zeg, zeh, zei, zej, zek, zel, zem, zen, zeo, zep, zeq, zer, zes, zet, zeu, zev, zew, zex, zey, zez, zfa, zfb, zfc, zfd, zfe, zff, zfg, zfh, zfi, zfj, zfk, zfl, zfm, zfn, zfo, zfp, zfq, zfr, zfs, zft, zfu, zfv, zfw, zfx, zfy, zfz, zga, zgb, zgc, zgd, zge, zgf, zgg, zgh, zgi, zgj, zgk, zgl, zgm, zgn, zgo, zgp, zgq, zgr, zgs, zgt, zgu, zgv, zgw, zgx, zgy, zgz, zha, zhb, zhc, zhd, zhe, zhf, zhg, zhh, zhi, zhj, zhk, zhl, zhm, zhn, zho, zhp, zhq, zhr, zhs, zht, zhu, zhv, zhw, zhx, zhy, zhz, zia, zib, zic, zid, zie, zif, zig, zih, zii, zij, zik, zil, zim, zin, zio, zip, ziq, zir, zis, zit, ziu, ziv, ziw, Int.reduceBEq, Int.reduceLT, Int.reduceLE, Int.reduceNeg, Nat.reduceLeDiff, Nat.reduceAdd, Nat.reduceLT, Nat.reduceSub, reduceCtorEq, Wk.frE, ne_eq, reduceIte, ↓zLc, ↓zFor, ↓zWhl, lt_eq, q, hl, hl']
  · have hl' : ¬ ((Nat.lcm w n : Nat) : Int) ≤ 60 := by omega
    simp (disch := first | omega | assumption) only [zaa, zab, zac, zad, ↓zae, ↓zaf, ↓zag, ↓zah, ↓zai, zaj, ↓zak, ↓zal, ↓zam, zan, zao, zap, zaq, ↓zar, ↓zas, ↓zat, ↓zau, ↓zav, ↓zaw, ↓zax, ↓zay, ↓zaz, ↓zba, ↓zbb, ↓zbc, ↓zbd, ↓zbe, ↓zbf, ↓zbg, ↓zbh, ↓zbi, ↓zbj, ↓zbk, ↓zbl, ↓zbm, ↓zbn, ↓zbo, ↓zbp, ↓zbq, ↓zbr, ↓zbs, ↓zbt, ↓zbu, ↓zbv, ↓zbw, ↓zbx, ↓zby, ↓zbz, ↓zca, ↓zcb, ↓zcc, ↓zcd, ↓zce, ↓zcf, ↓zcg, ↓zch, ↓zci, ↓zcj, ↓zck, ↓zcl, ↓zcm, ↓zcn, ↓zco, ↓zcp, ↓zcq, ↓zcr, ↓zcs, ↓zct, ↓zcu, ↓zcv, ↓zcw, ↓zcx, ↓zcy, ↓zcz, ↓zda, ↓zdb, ↓zdc, ↓zdd, ↓zde, ↓zdf, ↓zdg, ↓zdh, ↓zdi, ↓zdj, ↓zdk, ↓zdl, ↓zdm, ↓zdn, ↓zdo, ↓zdp, ↓zdq, ↓zdr, ↓zds, ↓zdt, ↓zdu, ↓zdv, ↓zdw, ↓zdx, ↓zdy, ↓zdz, ↓zea, ↓zeb, ↓zec, ↓zed, ↓zee, zef, zeg, zeh, zei, zej, zek, zel, zem, zen, zeo, zep, zeq, zer, zes, zet, zeu, zev, zew, zex, zey, zez, zfa, zfb, zfc, zfd, zfe, zff, zfg, zfh, zfi, zfj, zfk, zfl, zfm, zfn, zfo, zfp, zfq, zfr, zfs, zft, zfu, zfv, zfw, zfx, zfy, zfz, zga, zgb, zgc, zgd, zge, zgf, zgg, zgh, zgi, zgj, zgk, zgl, zgm, zgn, zgo, zgp, zgq, zgr, zgs, zgt, zgu, zgv, zgw, zgx, zgy, zgz, zha, zhb, zhc, zhd, zhe, zhf, zhg, zhh, zhi, zhj, zhk, zhl, zhm, zhn, zho, zhp, zhq, zhr, zhs, zht, zhu, zhv, zhw, zhx, zhy, zhz, zia, zib, zic, zid, zie, zif, zig, zih, zii, zij, zik, zil, zim, zin, zio, zip, ziq, zir, zis, zit, ziu, ziv, ziw, Int.reduceBEq, Int.reduceLT, Int.reduceLE, Int.reduceNeg, Nat.reduceLeDiff, Nat.reduceAdd, Nat.reduceLT, Nat.reduceSub, reduceCtorEq, Wk.frE, ne_eq, reduceIte, ↓zLc, ↓zFor, ↓zWhl, lt_eq, q, hl, hl']
theorem at_mem {α : Type} {l : List α} {i : Int} {x : α} (h : atI l i = some x) : x ∈ l := by
  unfold atI at h
  cases q : ixN l.length i with
  | none => rw [q] at h; cases h
  | some j => rw [q] at h; exact List.mem_of_getElem? h
theorem at_some {α : Type} {l : List α} {i : Int} (h0 : 0 ≤ i) (h1 : i < l.length) : ∃ x, atI l i = some x ∧ x ∈ l := by
  obtain ⟨n, rfl⟩ : ∃ n : Nat, i = n := ⟨i.toNat, by omega⟩
  rw [atI_nat']
  have : n < l.length := by omega
  exact ⟨l[n], List.getElem?_eq_getElem this, List.getElem_mem _⟩
theorem at_neg1 {α : Type} {l : List α} (h : 0 < l.length) : ∃ x, atI l (-1) = some x ∧ x ∈ l := by
  refine ⟨l[l.length - 1]'(by omega), ?_, List.getElem_mem _⟩
  unfold atI ixN
  rw [if_neg (by decide), if_pos (by omega), Option.bind_some, show (-1 + (l.length : Int)).toNat = l.length - 1 by omega]
  exact List.getElem?_eq_getElem _
/-- a hand behind the others: its gap goes with the round -/
structure Crew (T : List (Nat × Nat)) (w : Nat) : Prop where
  hs : Hands T
  rd : Rnd w
  lcm : w = T.foldl (fun a h => Nat.lcm a h.1) 1
  fit : ∀ h ∈ T, h.1 ∣ w
theorem Crew.snoc {T : List (Nat × Nat)} {w : Nat} {g r : Nat} (h : Crew T w) (h1 : 0 < g) (h2 : g < 13) (h3 : Nat.lcm w g ≤ 60) (h4 : r < g) : Crew (T ++ [(g, r)]) (Nat.lcm w g) := by
  refine ⟨fun x hx => ?_, h.rd.next h1 h2 h3, by rw [List.foldl_append, ← h.lcm]; rfl, fun x hx => ?_⟩
  · rcases List.mem_append.mp hx with hx | hx
    · exact h.hs x hx
    · rw [List.mem_singleton] at hx; subst hx; exact ⟨h4, by show g ≤ 12; omega⟩
  · rcases List.mem_append.mp hx with hx | hx
    · exact Nat.dvd_trans (h.fit x hx) (Nat.dvd_lcm_left w g)
    · rw [List.mem_singleton] at hx; subst hx; exact Nat.dvd_lcm_right w g
def crewEnv (n : Nat) (way spot : Int) (w : Nat) (T : List (Nat × Nat)) : PEnv := [some (.pen, false), some (.int n, false), some (.int way, false), some (.int spot, false), some (.int w, false), some (.lst (T.map hdP), true), none, none, none, none]
theorem ns_map {l : List Nat} : (l.map fun n => P.int (n : Nat)) = nsP l := rfl
theorem eq_nil {vs : List P} {dp w : Nat} (h : Gq 11 vs dp w) (h1 : dp ≤ 60) : eqP (.lst vs) (.lst []) = some vs.isEmpty := by
  obtain ⟨qs, e, o⟩ := h
  have e1 : pyP (.lst vs) 12 = some (.list qs) := by simp only [pyP, e]; rfl
  have e2 : pyP (.lst []) 12 = some (.list []) := rfl
  have sh : SeqAt.shaped (.list qs) = true := by
    have k := okp_list o
    unfold SeqAt.shaped
    have := k.dep
    rw [k.lay, decide_eq_true (by omega)]; rfl
  have sh2 : SeqAt.shaped (.list []) = true := by decide +kernel
  show deepEqP (.lst vs) (.lst []) = _
  unfold deepEqP
  rw [e1, e2]
  dsimp only
  rw [if_pos ⟨sh, sh2⟩]
  cases vs with
  | nil => simp only [pyPs] at e; cases e; simp [PyData.eqv, PyData.eqvAll]
  | cons v vs =>
    simp only [pyPs] at e
    cases qs with
    | nil => cases h : pyP v 11 with
      | none => rw [h] at e; cases e
      | some p => rw [h] at e; cases h2 : pyPs vs 11 with
        | none => rw [h2] at e; cases e
        | some ps => rw [h2] at e; cases e
    | cons q qs => simp [PyData.eqv, PyData.eqvAll]
theorem gq_hands {n : Nat} {T : List (Nat × Nat)} (h : Hands T) : Gq n (T.map hdP) 1 (13 * T.length) := by
  have := gq_all (n := n) (dp := 1) (c := 12) (vs := T.map hdP) fun v hv => by
    obtain ⟨x, hx, rfl⟩ := List.mem_map.mp hv
    exact gp_hd (h.w x hx).1 (h.w x hx).2
  rw [List.length_map] at this; exact this
theorem ne_nil {T : List (Nat × Nat)} (h : Hands T) : cmpP .ne (.lst (T.map hdP)) (.lst []) = .ret (.bl (!T.isEmpty)) := by
  rw [q_ne (eq_nil (gq_hands h) (by decide))]; simp
def CrewTo (n : Nat) (way spot : Int) (w : Nat) (T : List (Nat × Nat)) (m : Nat) (fl : PFl) (t1 : Nat) : Prop := t1 ≤ m ∧ ∃ g r, Crew (T ++ [(g, r)]) (Nat.lcm w g) ∧ ∃ env', fl = .nx env' ∧ wipeP env' [6, 7, 8, 9] = crewEnv n way spot (Nat.lcm w g) (T ++ [(g, r)])
def crewL (c1 : Nat) : List PC := [.asg (.name 4) (.call c1 (.cons (.var 4) (.cons (.var 8) .nil))), .chg .append 5 (.cons (.tup (.cons (.var 8) (.cons (.var 9) .nil))) .nil)]
def crewM (c0 c1 : Nat) : List PC := .ife (.and (.cons (.cmp .eq (.var 2) (.int 3)) (.cons (.cmp .ne (.var 5) (.lst .nil)) (.cons (.cmp .eq (.call c0 (.cons (.var 0) (.cons (.int 2) .nil))) (.int 0)) .nil)))) [.asg (.tup (.cons (.name 8) (.cons (.name 9) .nil))) (.idx (.var 5) (.call c0 (.cons (.var 0) (.cons (.blt .len (.cons (.var 5) .nil)) .nil))))] [] :: crewL c1
def crewR (c0 c1 : Nat) : List PC := .asg (.name 9) (.call c0 (.cons (.var 0) (.cons (.var 8) .nil))) :: .ife (.cmp .eq (.var 2) (.int 0)) [.asg (.name 9) (.bin .mod (.var 3) (.var 8))] [] :: crewM c0 c1
variable {c0 c1 n w t m : Nat} {way spot : Int} {T : List (Nat × Nat)} {y1 y2 : Option (P × Bool)}
theorem crew_last (h1 : LidOk (F c1)) (h : Crew T w) (hT : T.length ≤ 1000) {g r u : Nat} (g1 : 0 < g) (g2 : g < 13) (g3 : Nat.lcm w g ≤ 60) (g4 : r < g) (hu : u ≤ m) :
    (exPs F G fr (crewL c1) [some (.pen, false), some (.int n, false), some (.int way, false), some (.int spot, false), some (.int w, false), some (.lst (T.map hdP), true), y1, y2, some (.int g, false), some (.int r, false)]).ok u (CrewTo n way spot w T m) := by
  have lenT : (T.map hdP).length < sizeLine := by rw [List.length_map]; exact Nat.lt_of_le_of_lt hT (by decide)
  have q := h1 w g h.rd.1 g1 (by omega)
  have e : chgP .append (T.map hdP) [.tup [.int g, .int r]] = .ret ((T ++ [(g, r)]).map hdP) := by
    rw [q_app lenT, List.map_append]; rfl
  simp (disch := first | omega | assumption) only [zaa, zab, zac, zad, ↓zae, ↓zaf, ↓zag, ↓zah, ↓zai, zaj, ↓zak, ↓zal, ↓zam, zan, zao, zap, zaq, ↓zar, ↓zas, ↓zat, ↓zau, ↓zav, ↓zaw, ↓zax, ↓zay, ↓zaz, ↓zba, ↓zbb, ↓zbc, ↓zbd, ↓zbe, ↓zbf, ↓zbg, ↓zbh, ↓zbi, ↓zbj, ↓zbk, ↓zbl, ↓zbm, ↓zbn, ↓zbo, ↓zbp, ↓zbq, ↓zbr, ↓zbs, ↓zbt, ↓zbu, ↓zbv, ↓zbw, ↓zbx, ↓zby, ↓zbz, ↓zca, ↓zcb, ↓zcc, ↓zcd, ↓zce, ↓zcf, ↓zcg, ↓zch, ↓zci, ↓zcj, ↓zck, ↓zcl, ↓zcm, ↓zcn, ↓zco, ↓zcp, ↓zcq, ↓zcr, ↓zcs, ↓zct, ↓zcu, ↓zcv, ↓zcw, ↓zcx, ↓zcy, ↓zcz, ↓zda, ↓zdb, ↓zdc, ↓zdd, ↓zde, ↓zdf, ↓zdg, ↓zdh, ↓zdi, ↓zdj, ↓zdk, ↓zdl, ↓zdm, ↓zdn, ↓zdo, ↓zdp, ↓zdq, ↓zdr, ↓zds, ↓zdt, ↓zdu, ↓zdv, ↓zdw, ↓zdx, ↓zdy, ↓zdz, ↓zea, ↓zeb, ↓zec, ↓zed, ↓zee, zef, zeg, zeh, zei, zej, zek, zel, zem, zen, zeo, zep, zeq, zer, zes, zet, zeu, zev, zew, zex, zey, zez, zfa, zfb, zfc, zfd, zfe, zff, zfg, zfh, zfi, zfj, zfk, zfl, zfm, zfn, zfo, zfp, zfq, zfr, zfs, zft, zfu, zfv, zfw, zfx, zfy, zfz, zga, zgb, zgc, zgd, zge, zgf, zgg, zgh, zgi, zgj, zgk, zgl, zgm, zgn, zgo, zgp, zgq, zgr, zgs, zgt, zgu, zgv, zgw, zgx, zgy, zgz, zha, zhb, zhc, zhd, zhe, zhf, zhg, zhh, zhi, zhj, zhk, zhl, zhm, zhn, zho, zhp, zhq, zhr, zhs, zht, zhu, zhv, zhw, zhx, zhy, zhz, zia, zib, zic, zid, zie, zif, zig, zih, zii, zij, zik, zil, zim, zin, zio, zip, ziq, zir, zis, zit, ziu, ziv, ziw, Int.reduceBEq, Int.reduceLT, Int.reduceLE, Int.reduceNeg, Nat.reduceLeDiff, Nat.reduceAdd, Nat.reduceLT, Nat.reduceSub, reduceCtorEq, Wk.frE, ne_eq, reduceIte, ↓zLc, ↓zFor, ↓zWhl, crewL, q, e, ok_ret]
  exact ⟨hu, g, r, h.snoc g1 g2 g3 g4, _, rfl, by simp (disch := first | omega | assumption) only [zaa, zab, zac, zad, ↓zae, ↓zaf, ↓zag, ↓zah, ↓zai, zaj, ↓zak, ↓zal, ↓zam, zan, zao, zap, zaq, ↓zar, ↓zas, ↓zat, ↓zau, ↓zav, ↓zaw, ↓zax, ↓zay, ↓zaz, ↓zba, ↓zbb, ↓zbc, ↓zbd, ↓zbe, ↓zbf, ↓zbg, ↓zbh, ↓zbi, ↓zbj, ↓zbk, ↓zbl, ↓zbm, ↓zbn, ↓zbo, ↓zbp, ↓zbq, ↓zbr, ↓zbs, ↓zbt, ↓zbu, ↓zbv, ↓zbw, ↓zbx, ↓zby, ↓zbz, ↓zca, ↓zcb, ↓zcc, ↓zcd, ↓zce, ↓zcf, ↓zcg, ↓zch, ↓zci, ↓zcj, ↓zck, ↓zcl, ↓zcm, ↓zcn, ↓zco, ↓zcp, ↓zcq, ↓zcr, ↓zcs, ↓zct, ↓zcu, ↓zcv, ↓zcw, ↓zcx, ↓zcy, ↓zcz, ↓zda, ↓zdb, ↓zdc, ↓zdd, ↓zde, ↓zdf, ↓zdg, ↓zdh, ↓zdi, ↓zdj, ↓zdk, ↓zdl, ↓zdm, ↓zdn, ↓zdo, ↓zdp, ↓zdq, ↓zdr, ↓zds, ↓zdt, ↓zdu, ↓zdv, ↓zdw, ↓zdx, ↓zdy, ↓zdz, ↓zea, ↓zeb, ↓zec, ↓zed, ↓zee, zef, zeg, zeh, zei, zej, zek, zel, zem, zen, zeo, zep, zeq, zer, zes, zet, zeu, zev, zew, zex, zey, zez, zfa, zfb, zfc, zfd, zfe, zff, zfg, zfh, zfi, zfj, zfk, zfl, zfm, zfn, zfo, zfp, zfq, zfr, zfs, zft, zfu, zfv, zfw, zfx, zfy, zfz, zga, zgb, zgc, zgd, zge, zgf, zgg, zgh, zgi, zgj, zgk, zgl, zgm, zgn, zgo, zgp, zgq, zgr, zgs, zgt, zgu, zgv, zgw, zgx, zgy, zgz, zha, zhb, zhc, zhd, zhe, zhf, zhg, zhh, zhi, zhj, zhk, zhl, zhm, zhn, zho, zhp, zhq, zhr, zhs, zht, zhu, zhv, zhw, zhx, zhy, zhz, zia, zib, zic, zid, zie, zif, zig, zih, zii, zij, zik, zil, zim, zin, zio, zip, ziq, zir, zis, zit, ziu, ziv, ziw, Int.reduceBEq, Int.reduceLT, Int.reduceLE, Int.reduceNeg, Nat.reduceLeDiff, Nat.reduceAdd, Nat.reduceLT, Nat.reduceSub, reduceCtorEq, Wk.frE, ne_eq, reduceIte, ↓zLc, ↓zFor, ↓zWhl, crewEnv]⟩
theorem crew_mid (hd : DrOk (F c0)) (h1 : LidOk (F c1)) (h : Crew T w) (hT : T.length ≤ 1000) {g r u : Nat} (g1 : 0 < g) (g2 : g < 13) (g3 : Nat.lcm w g ≤ 60) (g4 : r < g) (hu : u + 2 ≤ m) (hm : m ≤ 1000000) :
    (exPs F G fr (crewM c0 c1) [some (.pen, false), some (.int n, false), some (.int way, false), some (.int spot, false), some (.int w, false), some (.lst (T.map hdP), true), y1, y2, some (.int g, false), some (.int r, false)]).ok u (CrewTo n way spot w T m) := by
  have lastx := fun {g r u : Nat} (g1 : 0 < g) (g2 : g < 13) (g3 : Nat.lcm w g ≤ 60) (g4 : r < g) (hu : u ≤ m) => crew_last (F := F) (G := G) (fr := fr) (n := n) (way := way) (spot := spot) (y1 := y1) (y2 := y2) h1 h hT g1 g2 g3 g4 hu
  have nn := ne_nil h.hs
  by_cases hw : way = 3
  · subst hw
    cases hT0 : T with
    | nil =>
      subst hT0
      simp only [List.map_nil, List.isEmpty_nil] at nn lastx
      simp (disch := first | omega | assumption) only [zaa, zab, zac, zad, ↓zae, ↓zaf, ↓zag, ↓zah, ↓zai, zaj, ↓zak, ↓zal, ↓zam, zan, zao, zap, zaq, ↓zar, ↓zas, ↓zat, ↓zau, ↓zav, ↓zaw, ↓zax, ↓zay, ↓zaz, ↓zba, ↓zbb, ↓zbc, ↓zbd, ↓zbe, ↓zbf, ↓zbg, ↓zbh, ↓zbi, ↓zbj, ↓zbk, ↓zbl, ↓zbm, ↓zbn, ↓zbo, ↓zbp, ↓zbq, ↓zbr, ↓zbs, ↓zbt, ↓zbu, ↓zbv, ↓zbw, ↓zbx, ↓zby, ↓zbz, ↓zca, ↓zcb, ↓zcc, ↓zcd, ↓zce, ↓zcf, ↓zcg, ↓zch, ↓zci, ↓zcj, ↓zck, ↓zcl, ↓zcm, ↓zcn, ↓zco, ↓zcp, ↓zcq, ↓zcr, ↓zcs, ↓zct, ↓zcu, ↓zcv, ↓zcw, ↓zcx, ↓zcy, ↓zcz, ↓zda, ↓zdb, ↓zdc, ↓zdd, ↓zde, ↓zdf, ↓zdg, ↓zdh, ↓zdi, ↓zdj, ↓zdk, ↓zdl, ↓zdm, ↓zdn, ↓zdo, ↓zdp, ↓zdq, ↓zdr, ↓zds, ↓zdt, ↓zdu, ↓zdv, ↓zdw, ↓zdx, ↓zdy, ↓zdz, ↓zea, ↓zeb, ↓zec, ↓zed, ↓zee, zef, zeg, zeh, zei, zej, zek, zel, zem, zen, zeo, zep, zeq, zer, zes, zet, zeu, zev, zew, zex, zey, zez, zfa, zfb, zfc, zfd, zfe, zff, zfg, zfh, zfi, zfj, zfk, zfl, zfm, zfn, zfo, zfp, zfq, zfr, zfs, zft, zfu, zfv, zfw, zfx, zfy, zfz, zga, zgb, zgc, zgd, zge, zgf, zgg, zgh, zgi, zgj, zgk, zgl, zgm, zgn, zgo, zgp, zgq, zgr, zgs, zgt, zgu, zgv, zgw, zgx, zgy, zgz, zha, zhb, zhc, zhd, zhe, zhf, zhg, zhh, zhi, zhj, zhk, zhl, zhm, zhn, zho, zhp, zhq, zhr, zhs, zht, zhu, zhv, zhw, zhx, zhy, zhz, zia, zib, zic, zid, zie, zif, zig, zih, zii, zij, zik, zil, zim, zin, zio, zip, ziq, zir, zis, zit, ziu, ziv, ziw, Int.reduceBEq, Int.reduceLT, Int.reduceLE, Int.reduceNeg, Nat.reduceLeDiff, Nat.reduceAdd, Nat.reduceLT, Nat.reduceSub, reduceCtorEq, Wk.frE, ne_eq, reduceIte, ↓zLc, ↓zFor, ↓zWhl, crewM, nn]
      exact lastx g1 g2 g3 g4 (by omega)
    | cons h0 T0 =>
      rw [← hT0]
      have hne : T.isEmpty = false := by rw [hT0]; rfl
      have hlen : 0 < T.length := by rw [hT0]; simp
      rw [hne] at nn
      simp (disch := first | omega | assumption) only [zaa, zab, zac, zad, ↓zae, ↓zaf, ↓zag, ↓zah, ↓zai, zaj, ↓zak, ↓zal, ↓zam, zan, zao, zap, zaq, ↓zar, ↓zas, ↓zat, ↓zau, ↓zav, ↓zaw, ↓zax, ↓zay, ↓zaz, ↓zba, ↓zbb, ↓zbc, ↓zbd, ↓zbe, ↓zbf, ↓zbg, ↓zbh, ↓zbi, ↓zbj, ↓zbk, ↓zbl, ↓zbm, ↓zbn, ↓zbo, ↓zbp, ↓zbq, ↓zbr, ↓zbs, ↓zbt, ↓zbu, ↓zbv, ↓zbw, ↓zbx, ↓zby, ↓zbz, ↓zca, ↓zcb, ↓zcc, ↓zcd, ↓zce, ↓zcf, ↓zcg, ↓zch, ↓zci, ↓zcj, ↓zck, ↓zcl, ↓zcm, ↓zcn, ↓zco, ↓zcp, ↓zcq, ↓zcr, ↓zcs, ↓zct, ↓zcu, ↓zcv, ↓zcw, ↓zcx, ↓zcy, ↓zcz, ↓zda, ↓zdb, ↓zdc, ↓zdd, ↓zde, ↓zdf, ↓zdg, ↓zdh, ↓zdi, ↓zdj, ↓zdk, ↓zdl, ↓zdm, ↓zdn, ↓zdo, ↓zdp, ↓zdq, ↓zdr, ↓zds, ↓zdt, ↓zdu, ↓zdv, ↓zdw, ↓zdx, ↓zdy, ↓zdz, ↓zea, ↓zeb, ↓zec, ↓zed, ↓zee, zef, zeg, zeh, zei, zej, zek, zel, zem, zen, zeo, zep, zeq, zer, zes, zet, zeu, zev, zew, zex, zey, zez, zfa, zfb, zfc, zfd, zfe, zff, zfg, zfh, zfi, zfj, zfk, zfl, zfm, zfn, zfo, zfp, zfq, zfr, zfs, zft, zfu, zfv, zfw, zfx, zfy, zfz, zga, zgb, zgc, zgd, zge, zgf, zgg, zgh, zgi, zgj, zgk, zgl, zgm, zgn, zgo, zgp, zgq, zgr, zgs, zgt, zgu, zgv, zgw, zgx, zgy, zgz, zha, zhb, zhc, zhd, zhe, zhf, zhg, zhh, zhi, zhj, zhk, zhl, zhm, zhn, zho, zhp, zhq, zhr, zhs, zht, zhu, zhv, zhw, zhx, zhy, zhz, zia, zib, zic, zid, zie, zif, zig, zih, zii, zij, zik, zil, zim, zin, zio, zip, ziq, zir, zis, zit, ziu, ziv, ziw, Int.reduceBEq, Int.reduceLT, Int.reduceLE, Int.reduceNeg, Nat.reduceLeDiff, Nat.reduceAdd, Nat.reduceLT, Nat.reduceSub, reduceCtorEq, Wk.frE, ne_eq, reduceIte, ↓zLc, ↓zFor, ↓zWhl, crewM, nn]
      refine dr_bind hd (by decide) (by decide) (by omega) fun a a0 a1 => ?_
      by_cases ha : a = 0
      · subst ha
        simp (disch := first | omega | assumption) only [zaa, zab, zac, zad, ↓zae, ↓zaf, ↓zag, ↓zah, ↓zai, zaj, ↓zak, ↓zal, ↓zam, zan, zao, zap, zaq, ↓zar, ↓zas, ↓zat, ↓zau, ↓zav, ↓zaw, ↓zax, ↓zay, ↓zaz, ↓zba, ↓zbb, ↓zbc, ↓zbd, ↓zbe, ↓zbf, ↓zbg, ↓zbh, ↓zbi, ↓zbj, ↓zbk, ↓zbl, ↓zbm, ↓zbn, ↓zbo, ↓zbp, ↓zbq, ↓zbr, ↓zbs, ↓zbt, ↓zbu, ↓zbv, ↓zbw, ↓zbx, ↓zby, ↓zbz, ↓zca, ↓zcb, ↓zcc, ↓zcd, ↓zce, ↓zcf, ↓zcg, ↓zch, ↓zci, ↓zcj, ↓zck, ↓zcl, ↓zcm, ↓zcn, ↓zco, ↓zcp, ↓zcq, ↓zcr, ↓zcs, ↓zct, ↓zcu, ↓zcv, ↓zcw, ↓zcx, ↓zcy, ↓zcz, ↓zda, ↓zdb, ↓zdc, ↓zdd, ↓zde, ↓zdf, ↓zdg, ↓zdh, ↓zdi, ↓zdj, ↓zdk, ↓zdl, ↓zdm, ↓zdn, ↓zdo, ↓zdp, ↓zdq, ↓zdr, ↓zds, ↓zdt, ↓zdu, ↓zdv, ↓zdw, ↓zdx, ↓zdy, ↓zdz, ↓zea, ↓zeb, ↓zec, ↓zed, ↓zee, zef, zeg, zeh, zei, zej, zek, zel, zem, zen, zeo, zep, zeq, zer, zes, zet, zeu, zev, zew, zex, zey, zez, zfa, zfb, zfc, zfd, zfe, zff, zfg, zfh, zfi, zfj, zfk, zfl, zfm, zfn, zfo, zfp, zfq, zfr, zfs, zft, zfu, zfv, zfw, zfx, zfy, zfz, zga, zgb, zgc, zgd, zge, zgf, zgg, zgh, zgi, zgj, zgk, zgl, zgm, zgn, zgo, zgp, zgq, zgr, zgs, zgt, zgu, zgv, zgw, zgx, zgy, zgz, zha, zhb, zhc, zhd, zhe, zhf, zhg, zhh, zhi, zhj, zhk, zhl, zhm, zhn, zho, zhp, zhq, zhr, zhs, zht, zhu, zhv, zhw, zhx, zhy, zhz, zia, zib, zic, zid, zie, zif, zig, zih, zii, zij, zik, zil, zim, zin, zio, zip, ziq, zir, zis, zit, ziu, ziv, ziw, Int.reduceBEq, Int.reduceLT, Int.reduceLE, Int.reduceNeg, Nat.reduceLeDiff, Nat.reduceAdd, Nat.reduceLT, Nat.reduceSub, reduceCtorEq, Wk.frE, ne_eq, reduceIte, ↓zLc, ↓zFor, ↓zWhl, List.length_map]
        refine dr_bind hd (by omega) (by omega) (by omega) fun b b0 b1 => ?_
        obtain ⟨x, hx, hm⟩ := at_some b0 b1
        have e : atI (T.map hdP) b = some (hdP x) := by rw [atI_map', hx]; rfl
        simp (disch := first | omega | assumption) only [zaa, zab, zac, zad, ↓zae, ↓zaf, ↓zag, ↓zah, ↓zai, zaj, ↓zak, ↓zal, ↓zam, zan, zao, zap, zaq, ↓zar, ↓zas, ↓zat, ↓zau, ↓zav, ↓zaw, ↓zax, ↓zay, ↓zaz, ↓zba, ↓zbb, ↓zbc, ↓zbd, ↓zbe, ↓zbf, ↓zbg, ↓zbh, ↓zbi, ↓zbj, ↓zbk, ↓zbl, ↓zbm, ↓zbn, ↓zbo, ↓zbp, ↓zbq, ↓zbr, ↓zbs, ↓zbt, ↓zbu, ↓zbv, ↓zbw, ↓zbx, ↓zby, ↓zbz, ↓zca, ↓zcb, ↓zcc, ↓zcd, ↓zce, ↓zcf, ↓zcg, ↓zch, ↓zci, ↓zcj, ↓zck, ↓zcl, ↓zcm, ↓zcn, ↓zco, ↓zcp, ↓zcq, ↓zcr, ↓zcs, ↓zct, ↓zcu, ↓zcv, ↓zcw, ↓zcx, ↓zcy, ↓zcz, ↓zda, ↓zdb, ↓zdc, ↓zdd, ↓zde, ↓zdf, ↓zdg, ↓zdh, ↓zdi, ↓zdj, ↓zdk, ↓zdl, ↓zdm, ↓zdn, ↓zdo, ↓zdp, ↓zdq, ↓zdr, ↓zds, ↓zdt, ↓zdu, ↓zdv, ↓zdw, ↓zdx, ↓zdy, ↓zdz, ↓zea, ↓zeb, ↓zec, ↓zed, ↓zee, zef, zeg, zeh, zei, zej, zek, zel, zem, zen, zeo, zep, zeq, zer, zes, zet, zeu, zev, zew, zex, zey, zez, zfa, zfb, zfc, zfd, zfe, zff, zfg, zfh, zfi, zfj, zfk, zfl, zfm, zfn, zfo, zfp, zfq, zfr, zfs, zft, zfu, zfv, zfw, zfx, zfy, zfz, zga, zgb, zgc, zgd, zge, zgf, zgg, zgh, zgi, zgj, zgk, zgl, zgm, zgn, zgo, zgp, zgq, zgr, zgs, zgt, zgu, zgv, zgw, zgx, zgy, zgz, zha, zhb, zhc, zhd, zhe, zhf, zhg, zhh, zhi, zhj, zhk, zhl, zhm, zhn, zho, zhp, zhq, zhr, zhs, zht, zhu, zhv, zhw, zhx, zhy, zhz, zia, zib, zic, zid, zie, zif, zig, zih, zii, zij, zik, zil, zim, zin, zio, zip, ziq, zir, zis, zit, ziu, ziv, ziw, Int.reduceBEq, Int.reduceLT, Int.reduceLE, Int.reduceNeg, Nat.reduceLeDiff, Nat.reduceAdd, Nat.reduceLT, Nat.reduceSub, reduceCtorEq, Wk.frE, ne_eq, reduceIte, ↓zLc, ↓zFor, ↓zWhl, e, hdP]
        have fx := h.fit x hm
        have hx := h.hs x hm
        have hl : Nat.lcm w x.1 = w := Nat.lcm_eq_left fx
        exact lastx (by omega) (by omega) (by rw [hl]; exact h.rd.2.1) hx.1 (by omega)
      · have hb : (a == 0) = false := beq_eq_false_iff_ne.mpr ha
        simp (disch := first | omega | assumption) only [zaa, zab, zac, zad, ↓zae, ↓zaf, ↓zag, ↓zah, ↓zai, zaj, ↓zak, ↓zal, ↓zam, zan, zao, zap, zaq, ↓zar, ↓zas, ↓zat, ↓zau, ↓zav, ↓zaw, ↓zax, ↓zay, ↓zaz, ↓zba, ↓zbb, ↓zbc, ↓zbd, ↓zbe, ↓zbf, ↓zbg, ↓zbh, ↓zbi, ↓zbj, ↓zbk, ↓zbl, ↓zbm, ↓zbn, ↓zbo, ↓zbp, ↓zbq, ↓zbr, ↓zbs, ↓zbt, ↓zbu, ↓zbv, ↓zbw, ↓zbx, ↓zby, ↓zbz, ↓zca, ↓zcb, ↓zcc, ↓zcd, ↓zce, ↓zcf, ↓zcg, ↓zch, ↓zci, ↓zcj, ↓zck, ↓zcl, ↓zcm, ↓zcn, ↓zco, ↓zcp, ↓zcq, ↓zcr, ↓zcs, ↓zct, ↓zcu, ↓zcv, ↓zcw, ↓zcx, ↓zcy, ↓zcz, ↓zda, ↓zdb, ↓zdc, ↓zdd, ↓zde, ↓zdf, ↓zdg, ↓zdh, ↓zdi, ↓zdj, ↓zdk, ↓zdl, ↓zdm, ↓zdn, ↓zdo, ↓zdp, ↓zdq, ↓zdr, ↓zds, ↓zdt, ↓zdu, ↓zdv, ↓zdw, ↓zdx, ↓zdy, ↓zdz, ↓zea, ↓zeb, ↓zec, ↓zed, ↓zee, zef, zeg, zeh, zei, zej, zek, zel, zem, zen, zeo, zep, zeq, zer, zes, zet, zeu, zev, zew, zex, zey, zez, zfa, zfb, zfc, zfd, zfe, zff, zfg, zfh, zfi, zfj, zfk, zfl, zfm, zfn, zfo, zfp, zfq, zfr, zfs, zft, zfu, zfv, zfw, zfx, zfy, zfz, zga, zgb, zgc, zgd, zge, zgf, zgg, zgh, zgi, zgj, zgk, zgl, zgm, zgn, zgo, zgp, zgq, zgr, zgs, zgt, zgu, zgv, zgw, zgx, zgy, zgz, zha, zhb, zhc, zhd, zhe, zhf, zhg, zhh, zhi, zhj, zhk, zhl, zhm, zhn, zho, zhp, zhq, zhr, zhs, zht, zhu, zhv, zhw, zhx, zhy, zhz, zia, zib, zic, zid, zie, zif, zig, zih, zii, zij, zik, zil, zim, zin, zio, zip, ziq, zir, zis, zit, ziu, ziv, ziw, Int.reduceBEq, Int.reduceLT, Int.reduceLE, Int.reduceNeg, Nat.reduceLeDiff, Nat.reduceAdd, Nat.reduceLT, Nat.reduceSub, reduceCtorEq, Wk.frE, ne_eq, reduceIte, ↓zLc, ↓zFor, ↓zWhl, hb]
        exact lastx g1 g2 g3 g4 (by omega)
  · have hb : (way == 3) = false := beq_eq_false_iff_ne.mpr hw
    simp (disch := first | omega | assumption) only [zaa, zab, zac, zad, ↓zae, ↓zaf, ↓zag, ↓zah, ↓zai, zaj, ↓zak, ↓zal, ↓zam, zan, zao, zap, zaq, ↓zar, ↓zas, ↓zat, ↓zau, ↓zav, ↓zaw, ↓zax, ↓zay, ↓zaz, ↓zba, ↓zbb, ↓zbc, ↓zbd, ↓zbe, ↓zbf, ↓zbg, ↓zbh, ↓zbi, ↓zbj, ↓zbk, ↓zbl, ↓zbm, ↓zbn, ↓zbo, ↓zbp, ↓zbq, ↓zbr, ↓zbs, ↓zbt, ↓zbu, ↓zbv, ↓zbw, ↓zbx, ↓zby, ↓zbz, ↓zca, ↓zcb, ↓zcc, ↓zcd, ↓zce, ↓zcf, ↓zcg, ↓zch, ↓zci, ↓zcj, ↓zck, ↓zcl, ↓zcm, ↓zcn, ↓zco, ↓zcp, ↓zcq, ↓zcr, ↓zcs, ↓zct, ↓zcu, ↓zcv, ↓zcw, ↓zcx, ↓zcy, ↓zcz, ↓zda, ↓zdb, ↓zdc, ↓zdd, ↓zde, ↓zdf, ↓zdg, ↓zdh, ↓zdi, ↓zdj, ↓zdk, ↓zdl, ↓zdm, ↓zdn, ↓zdo, ↓zdp, ↓zdq, ↓zdr, ↓zds, ↓zdt, ↓zdu, ↓zdv, ↓zdw, ↓zdx, ↓zdy, ↓zdz, ↓zea, ↓zeb, ↓zec, ↓zed, ↓zee, zef, zeg, zeh, zei, zej, zek, zel, zem, zen, zeo, zep, zeq, zer, zes, zet, zeu, zev, zew, zex, zey, zez, zfa, zfb, zfc, zfd, zfe, zff, zfg, zfh, zfi, zfj, zfk, zfl, zfm, zfn, zfo, zfp, zfq, zfr, zfs, zft, zfu, zfv, zfw, zfx, zfy, zfz, zga, zgb, zgc, zgd, zge, zgf, zgg, zgh, zgi, zgj, zgk, zgl, zgm, zgn, zgo, zgp, zgq, zgr, zgs, zgt, zgu, zgv, zgw, zgx, zgy, zgz, zha, zhb, zhc, zhd, zhe, zhf, zhg, zhh, zhi, zhj, zhk, zhl, zhm, zhn, zho, zhp, zhq, zhr, zhs, zht, zhu, zhv, zhw, zhx, zhy, zhz, zia, zib, zic, zid, zie, zif, zig, zih, zii, zij, zik, zil, zim, zin, zio, zip, ziq, zir, zis, zit, ziu, ziv, ziw, Int.reduceBEq, Int.reduceLT, Int.reduceLE, Int.reduceNeg, Nat.reduceLeDiff, Nat.reduceAdd, Nat.reduceLT, Nat.reduceSub, reduceCtorEq, Wk.frE, ne_eq, reduceIte, ↓zLc, ↓zFor, ↓zWhl, crewM, hb]
    exact lastx g1 g2 g3 g4 (by omega)
theorem crew_rest (hd : DrOk (F c0)) (h1 : LidOk (F c1)) (h : Crew T w) (hT : T.length ≤ 1000) {g u : Nat} (g1 : 0 < g) (g2 : g < 13) (g3 : Nat.lcm w g ≤ 60) (hu : u + 3 ≤ m) (hm : m ≤ 1000000) :
    (exPs F G fr (crewR c0 c1) [some (.pen, false), some (.int n, false), some (.int way, false), some (.int spot, false), some (.int w, false), some (.lst (T.map hdP), true), y1, y2, some (.int g, false), none]).ok u (CrewTo n way spot w T m) := by
  have midx := fun {g r u : Nat} (g1 : 0 < g) (g2 : g < 13) (g3 : Nat.lcm w g ≤ 60) (g4 : r < g) (hu : u + 2 ≤ m) => crew_mid (F := F) (G := G) (fr := fr) (n := n) (way := way) (spot := spot) (y1 := y1) (y2 := y2) hd h1 h hT g1 g2 g3 g4 hu hm
  simp (disch := first | omega | assumption) only [zaa, zab, zac, zad, ↓zae, ↓zaf, ↓zag, ↓zah, ↓zai, zaj, ↓zak, ↓zal, ↓zam, zan, zao, zap, zaq, ↓zar, ↓zas, ↓zat, ↓zau, ↓zav, ↓zaw, ↓zax, ↓zay, ↓zaz, ↓zba, ↓zbb, ↓zbc, ↓zbd, ↓zbe, ↓zbf, ↓zbg, ↓zbh, ↓zbi, ↓zbj, ↓zbk, ↓zbl, ↓zbm, ↓zbn, ↓zbo, ↓zbp, ↓zbq, ↓zbr, ↓zbs, ↓zbt, ↓zbu, ↓zbv, ↓zbw, ↓zbx, ↓zby, ↓zbz, ↓zca, ↓zcb, ↓zcc, ↓zcd, ↓zce, ↓zcf, ↓zcg, ↓zch, ↓zci, ↓zcj, ↓zck, ↓zcl, ↓zcm, ↓zcn, ↓zco, ↓zcp, ↓zcq, ↓zcr, ↓zcs, ↓zct, ↓zcu, ↓zcv, ↓zcw, ↓zcx, ↓zcy, ↓zcz, ↓zda, ↓zdb, ↓zdc, ↓zdd, ↓zde, ↓zdf, ↓zdg, ↓zdh, ↓zdi, ↓zdj, ↓zdk, ↓zdl, ↓zdm, ↓zdn, ↓zdo, ↓zdp, ↓zdq, ↓zdr, ↓zds, ↓zdt, ↓zdu, ↓zdv, ↓zdw, ↓zdx, ↓zdy, ↓zdz, ↓zea, ↓zeb, ↓zec, ↓zed, ↓zee, zef, zeg, zeh, zei, zej, zek, zel, zem, zen, zeo, zep, zeq, zer, zes, zet, zeu, zev, zew, zex, zey, zez, zfa, zfb, zfc, zfd, zfe, zff, zfg, zfh, zfi, zfj, zfk, zfl, zfm, zfn, zfo, zfp, zfq, zfr, zfs, zft, zfu, zfv, zfw, zfx, zfy, zfz, zga, zgb, zgc, zgd, zge, zgf, zgg, zgh, zgi, zgj, zgk, zgl, zgm, zgn, zgo, zgp, zgq, zgr, zgs, zgt, zgu, zgv, zgw, zgx, zgy, zgz, zha, zhb, zhc, zhd, zhe, zhf, zhg, zhh, zhi, zhj, zhk, zhl, zhm, zhn, zho, zhp, zhq, zhr, zhs, zht, zhu, zhv, zhw, zhx, zhy, zhz, zia, zib, zic, zid, zie, zif, zig, zih, zii, zij, zik, zil, zim, zin, zio, zip, ziq, zir, zis, zit, ziu, ziv, ziw, Int.reduceBEq, Int.reduceLT, Int.reduceLE, Int.reduceNeg, Nat.reduceLeDiff, Nat.reduceAdd, Nat.reduceLT, Nat.reduceSub, reduceCtorEq, Wk.frE, ne_eq, reduceIte, ↓zLc, ↓zFor, ↓zWhl, crewR]
  refine dr_bind hd (by omega) (by omega) (by omega) fun r r0 r1 => ?_
  obtain ⟨rn, rfl⟩ : ∃ k : Nat, r = k := ⟨r.toNat, by omega⟩
  by_cases hw : way = 0
  · subst hw
    have e := em_pos (x := spot) (m := (g : Int)) (by omega)
    obtain ⟨sn, es⟩ : ∃ k : Nat, spot % (g : Int) = k := ⟨(spot % (g : Int)).toNat, by omega⟩
    simp (disch := first | omega | assumption) only [zaa, zab, zac, zad, ↓zae, ↓zaf, ↓zag, ↓zah, ↓zai, zaj, ↓zak, ↓zal, ↓zam, zan, zao, zap, zaq, ↓zar, ↓zas, ↓zat, ↓zau, ↓zav, ↓zaw, ↓zax, ↓zay, ↓zaz, ↓zba, ↓zbb, ↓zbc, ↓zbd, ↓zbe, ↓zbf, ↓zbg, ↓zbh, ↓zbi, ↓zbj, ↓zbk, ↓zbl, ↓zbm, ↓zbn, ↓zbo, ↓zbp, ↓zbq, ↓zbr, ↓zbs, ↓zbt, ↓zbu, ↓zbv, ↓zbw, ↓zbx, ↓zby, ↓zbz, ↓zca, ↓zcb, ↓zcc, ↓zcd, ↓zce, ↓zcf, ↓zcg, ↓zch, ↓zci, ↓zcj, ↓zck, ↓zcl, ↓zcm, ↓zcn, ↓zco, ↓zcp, ↓zcq, ↓zcr, ↓zcs, ↓zct, ↓zcu, ↓zcv, ↓zcw, ↓zcx, ↓zcy, ↓zcz, ↓zda, ↓zdb, ↓zdc, ↓zdd, ↓zde, ↓zdf, ↓zdg, ↓zdh, ↓zdi, ↓zdj, ↓zdk, ↓zdl, ↓zdm, ↓zdn, ↓zdo, ↓zdp, ↓zdq, ↓zdr, ↓zds, ↓zdt, ↓zdu, ↓zdv, ↓zdw, ↓zdx, ↓zdy, ↓zdz, ↓zea, ↓zeb, ↓zec, ↓zed, ↓zee, zef, zeg, zeh, zei, zej, zek, zel, zem, zen, zeo, zep, zeq, zer, zes, zet, zeu, zev, zew, zex, zey, zez, zfa, zfb, zfc, zfd, zfe, zff, zfg, zfh, zfi, zfj, zfk, zfl, zfm, zfn, zfo, zfp, zfq, zfr, zfs, zft, zfu, zfv, zfw, zfx, zfy, zfz, zga, zgb, zgc, zgd, zge, zgf, zgg, zgh, zgi, zgj, zgk, zgl, zgm, zgn, zgo, zgp, zgq, zgr, zgs, zgt, zgu, zgv, zgw, zgx, zgy, zgz, zha, zhb, zhc, zhd, zhe, zhf, zhg, zhh, zhi, zhj, zhk, zhl, zhm, zhn, zho, zhp, zhq, zhr, zhs, zht, zhu, zhv, zhw, zhx, zhy, zhz, zia, zib, zic, zid, zie, zif, zig, zih, zii, zij, zik, zil, zim, zin, zio, zip, ziq, zir, zis, zit, ziu, ziv, ziw, Int.reduceBEq, Int.reduceLT, Int.reduceLE, Int.reduceNeg, Nat.reduceLeDiff, Nat.reduceAdd, Nat.reduceLT, Nat.reduceSub, reduceCtorEq, Wk.frE, ne_eq, reduceIte, ↓zLc, ↓zFor, ↓zWhl, es]
    exact midx g1 g2 g3 (by omega) (by omega)
  · have hb : (way == 0) = false := beq_eq_false_iff_ne.mpr hw
    simp (disch := first | omega | assumption) only [zaa, zab, zac, zad, ↓zae, ↓zaf, ↓zag, ↓zah, ↓zai, zaj, ↓zak, ↓zal, ↓zam, zan, zao, zap, zaq, ↓zar, ↓zas, ↓zat, ↓zau, ↓zav, ↓zaw, ↓zax, ↓zay, ↓zaz, ↓zba, ↓zbb, ↓zbc, ↓zbd, ↓zbe, ↓zbf, ↓zbg, ↓zbh, ↓zbi, ↓zbj, ↓zbk, ↓zbl, ↓zbm, ↓zbn, ↓zbo, ↓zbp, ↓zbq, ↓zbr, ↓zbs, ↓zbt, ↓zbu, ↓zbv, ↓zbw, ↓zbx, ↓zby, ↓zbz, ↓zca, ↓zcb, ↓zcc, ↓zcd, ↓zce, ↓zcf, ↓zcg, ↓zch, ↓zci, ↓zcj, ↓zck, ↓zcl, ↓zcm, ↓zcn, ↓zco, ↓zcp, ↓zcq, ↓zcr, ↓zcs, ↓zct, ↓zcu, ↓zcv, ↓zcw, ↓zcx, ↓zcy, ↓zcz, ↓zda, ↓zdb, ↓zdc, ↓zdd, ↓zde, ↓zdf, ↓zdg, ↓zdh, ↓zdi, ↓zdj, ↓zdk, ↓zdl, ↓zdm, ↓zdn, ↓zdo, ↓zdp, ↓zdq, ↓zdr, ↓zds, ↓zdt, ↓zdu, ↓zdv, ↓zdw, ↓zdx, ↓zdy, ↓zdz, ↓zea, ↓zeb, ↓zec, ↓zed, ↓zee, zef, zeg, zeh, zei, zej, zek, zel, zem, zen, zeo, zep, zeq, zer, zes, zet, zeu, zev, zew, zex, zey, zez, zfa, zfb, zfc, zfd, zfe, zff, zfg, zfh, zfi, zfj, zfk, zfl, zfm, zfn, zfo, zfp, zfq, zfr, zfs, zft, zfu, zfv, zfw, zfx, zfy, zfz, zga, zgb, zgc, zgd, zge, zgf, zgg, zgh, zgi, zgj, zgk, zgl, zgm, zgn, zgo, zgp, zgq, zgr, zgs, zgt, zgu, zgv, zgw, zgx, zgy, zgz, zha, zhb, zhc, zhd, zhe, zhf, zhg, zhh, zhi, zhj, zhk, zhl, zhm, zhn, zho, zhp, zhq, zhr, zhs, zht, zhu, zhv, zhw, zhx, zhy, zhz, zia, zib, zic, zid, zie, zif, zig, zih, zii, zij, zik, zil, zim, zin, zio, zip, ziq, zir, zis, zit, ziu, ziv, ziw, Int.reduceBEq, Int.reduceLT, Int.reduceLE, Int.reduceNeg, Nat.reduceLeDiff, Nat.reduceAdd, Nat.reduceLT, Nat.reduceSub, reduceCtorEq, Wk.frE, ne_eq, reduceIte, ↓zLc, ↓zFor, ↓zWhl, hb]
    exact midx g1 g2 g3 (by omega) (by omega)
theorem crew_turn (hd : DrOk (F c0)) (h1 : LidOk (F c1)) (h : Crew T w) (hT : T.length ≤ 1000) (x : P) (ht : t + 5 ≤ 1000000) :
    (foT F G fr (.name 6) (B_l_crew_L0 c0 c1) x (crewEnv n way spot w T)).ok t (CrewTo n way spot w T (t + 5)) := by
  have two := fitg_two h.rd
  have twelve := fitg_le (w := w)
  have restx := fun {g u : Nat} {y1 y2 : Option (P × Bool)} (g1 : 0 < g) (g2 : g < 13) (g3 : Nat.lcm w g ≤ 60) (hu : u + 3 ≤ t + 5) => crew_rest (F := F) (G := G) (fr := fr) (n := n) (way := way) (spot := spot) (y1 := y1) (y2 := y2) hd h1 h hT g1 g2 g3 hu ht
  have so := fun {a b c d e f g i : Option (P × Bool)} => some_ok (F := F) (G := G) h1 h.rd (a := a) (b := b) (c := c) (d := d) (e := e) (f := f) (g := g) (h := none) (i := i)
  have eL : B_l_crew_L0 c0 c1 = .asg (.name 7) (.lc [8] (.name 8) (.rng2 (.int 1) (.int 13)) (.some (.cmp .le (.call c1 (.cons (.var 4) (.cons (.var 8) .nil))) (.int 60))) (.var 8)) :: .asg (.name 8) (.idx (.var 7) (.call c0 (.cons (.var 0) (.cons (.blt .len (.cons (.var 7) .nil)) .nil)))) :: .ife (.cmp .eq (.var 2) (.int 2)) [ .asg (.name 8) (.idx (.lst (.cons (.idx (.var 7) (.int 0)) (.cons (.idx (.var 7) (.int 1)) (.cons (.idx (.var 7) (.neg (.int 1))) .nil)))) (.call c0 (.cons (.var 0) (.cons (.int 3) .nil))))] [] :: crewR c0 c1 := rfl
  have fin : ∀ {g : Nat}, g ∈ fitg w → 0 < g ∧ g < 13 ∧ Nat.lcm w g ≤ 60 := fun hg => ⟨(mem_fitg.mp hg).1.1, (mem_fitg.mp hg).1.2, (mem_fitg.mp hg).2⟩
  simp (disch := first | omega | assumption) only [zaa, zab, zac, zad, ↓zae, ↓zaf, ↓zag, ↓zah, ↓zai, zaj, ↓zak, ↓zal, ↓zam, zan, zao, zap, zaq, ↓zar, ↓zas, ↓zat, ↓zau, ↓zav, ↓zaw, ↓zax, ↓zay, ↓zaz, ↓zba, ↓zbb, ↓zbc, ↓zbd, ↓zbe, ↓zbf, ↓zbg, ↓zbh, ↓zbi, ↓zbj, ↓zbk, ↓zbl, ↓zbm, ↓zbn, ↓zbo, ↓zbp, ↓zbq, ↓zbr, ↓zbs, ↓zbt, ↓zbu, ↓zbv, ↓zbw, ↓zbx, ↓zby, ↓zbz, ↓zca, ↓zcb, ↓zcc, ↓zcd, ↓zce, ↓zcf, ↓zcg, ↓zch, ↓zci, ↓zcj, ↓zck, ↓zcl, ↓zcm, ↓zcn, ↓zco, ↓zcp, ↓zcq, ↓zcr, ↓zcs, ↓zct, ↓zcu, ↓zcv, ↓zcw, ↓zcx, ↓zcy, ↓zcz, ↓zda, ↓zdb, ↓zdc, ↓zdd, ↓zde, ↓zdf, ↓zdg, ↓zdh, ↓zdi, ↓zdj, ↓zdk, ↓zdl, ↓zdm, ↓zdn, ↓zdo, ↓zdp, ↓zdq, ↓zdr, ↓zds, ↓zdt, ↓zdu, ↓zdv, ↓zdw, ↓zdx, ↓zdy, ↓zdz, ↓zea, ↓zeb, ↓zec, ↓zed, ↓zee, zef, zeg, zeh, zei, zej, zek, zel, zem, zen, zeo, zep, zeq, zer, zes, zet, zeu, zev, zew, zex, zey, zez, zfa, zfb, zfc, zfd, zfe, zff, zfg, zfh, zfi, zfj, zfk, zfl, zfm, zfn, zfo, zfp, zfq, zfr, zfs, zft, zfu, zfv, zfw, zfx, zfy, zfz, zga, zgb, zgc, zgd, zge, zgf, zgg, zgh, zgi, zgj, zgk, zgl, zgm, zgn, zgo, zgp, zgq, zgr, zgs, zgt, zgu, zgv, zgw, zgx, zgy, zgz, zha, zhb, zhc, zhd, zhe, zhf, zhg, zhh, zhi, zhj, zhk, zhl, zhm, zhn, zho, zhp, zhq, zhr, zhs, zht, zhu, zhv, zhw, zhx, zhy, zhz, zia, zib, zic, zid, zie, zif, zig, zih, zii, zij, zik, zil, zim, zin, zio, zip, ziq, zir, zis, zit, ziu, ziv, ziw, Int.reduceBEq, Int.reduceLT, Int.reduceLE, Int.reduceNeg, Nat.reduceLeDiff, Nat.reduceAdd, Nat.reduceLT, Nat.reduceSub, reduceCtorEq, Wk.frE, ne_eq, reduceIte, ↓zLc, ↓zFor, ↓zWhl, fo_eq, eL, crewEnv, rg_twelve, so, List.length_map]
  refine dr_bind hd (by omega) (by omega) (by omega) fun a a0 a1 => ?_
  obtain ⟨g, hg, mg⟩ := at_some a0 a1
  have e : atI ((fitg w).map fun n => P.int (n : Nat)) a = some (.int g) := by rw [atI_map', hg]; rfl
  by_cases hw : way = 2
  · obtain ⟨g0, h0, m0⟩ := at_some (l := fitg w) (i := 0) (by omega) (by omega)
    obtain ⟨g1, h1, m1⟩ := at_some (l := fitg w) (i := 1) (by omega) (by omega)
    obtain ⟨g2, h2, m2⟩ := at_neg1 (l := fitg w) (by omega)
    have e0 : atI ((fitg w).map fun n => P.int (n : Nat)) 0 = some (.int g0) := by rw [atI_map', h0]; rfl
    have e1 : atI ((fitg w).map fun n => P.int (n : Nat)) 1 = some (.int g1) := by rw [atI_map', h1]; rfl
    have e2 : atI ((fitg w).map fun n => P.int (n : Nat)) (-1) = some (.int g2) := by rw [atI_map', h2]; rfl
    subst hw
    simp (disch := first | omega | assumption) only [zaa, zab, zac, zad, ↓zae, ↓zaf, ↓zag, ↓zah, ↓zai, zaj, ↓zak, ↓zal, ↓zam, zan, zao, zap, zaq, ↓zar, ↓zas, ↓zat, ↓zau, ↓zav, ↓zaw, ↓zax, ↓zay, ↓zaz, ↓zba, ↓zbb, ↓zbc, ↓zbd, ↓zbe, ↓zbf, ↓zbg, ↓zbh, ↓zbi, ↓zbj, ↓zbk, ↓zbl, ↓zbm, ↓zbn, ↓zbo, ↓zbp, ↓zbq, ↓zbr, ↓zbs, ↓zbt, ↓zbu, ↓zbv, ↓zbw, ↓zbx, ↓zby, ↓zbz, ↓zca, ↓zcb, ↓zcc, ↓zcd, ↓zce, ↓zcf, ↓zcg, ↓zch, ↓zci, ↓zcj, ↓zck, ↓zcl, ↓zcm, ↓zcn, ↓zco, ↓zcp, ↓zcq, ↓zcr, ↓zcs, ↓zct, ↓zcu, ↓zcv, ↓zcw, ↓zcx, ↓zcy, ↓zcz, ↓zda, ↓zdb, ↓zdc, ↓zdd, ↓zde, ↓zdf, ↓zdg, ↓zdh, ↓zdi, ↓zdj, ↓zdk, ↓zdl, ↓zdm, ↓zdn, ↓zdo, ↓zdp, ↓zdq, ↓zdr, ↓zds, ↓zdt, ↓zdu, ↓zdv, ↓zdw, ↓zdx, ↓zdy, ↓zdz, ↓zea, ↓zeb, ↓zec, ↓zed, ↓zee, zef, zeg, zeh, zei, zej, zek, zel, zem, zen, zeo, zep, zeq, zer, zes, zet, zeu, zev, zew, zex, zey, zez, zfa, zfb, zfc, zfd, zfe, zff, zfg, zfh, zfi, zfj, zfk, zfl, zfm, zfn, zfo, zfp, zfq, zfr, zfs, zft, zfu, zfv, zfw, zfx, zfy, zfz, zga, zgb, zgc, zgd, zge, zgf, zgg, zgh, zgi, zgj, zgk, zgl, zgm, zgn, zgo, zgp, zgq, zgr, zgs, zgt, zgu, zgv, zgw, zgx, zgy, zgz, zha, zhb, zhc, zhd, zhe, zhf, zhg, zhh, zhi, zhj, zhk, zhl, zhm, zhn, zho, zhp, zhq, zhr, zhs, zht, zhu, zhv, zhw, zhx, zhy, zhz, zia, zib, zic, zid, zie, zif, zig, zih, zii, zij, zik, zil, zim, zin, zio, zip, ziq, zir, zis, zit, ziu, ziv, ziw, Int.reduceBEq, Int.reduceLT, Int.reduceLE, Int.reduceNeg, Nat.reduceLeDiff, Nat.reduceAdd, Nat.reduceLT, Nat.reduceSub, reduceCtorEq, Wk.frE, ne_eq, reduceIte, ↓zLc, ↓zFor, ↓zWhl, e, e0, e1, e2]
    refine dr_bind hd (by decide) (by decide) (by omega) fun b b0 b1 => ?_
    obtain ⟨g', e', m'⟩ : ∃ g' : Nat, atI [P.int g0, .int g1, .int g2] b = some (.int g') ∧ g' ∈ fitg w := by
      rcases (show b = 0 ∨ b = 1 ∨ b = 2 by omega) with rfl | rfl | rfl
      · exact ⟨g0, rfl, m0⟩
      · exact ⟨g1, rfl, m1⟩
      · exact ⟨g2, rfl, m2⟩
    simp (disch := first | omega | assumption) only [zaa, zab, zac, zad, ↓zae, ↓zaf, ↓zag, ↓zah, ↓zai, zaj, ↓zak, ↓zal, ↓zam, zan, zao, zap, zaq, ↓zar, ↓zas, ↓zat, ↓zau, ↓zav, ↓zaw, ↓zax, ↓zay, ↓zaz, ↓zba, ↓zbb, ↓zbc, ↓zbd, ↓zbe, ↓zbf, ↓zbg, ↓zbh, ↓zbi, ↓zbj, ↓zbk, ↓zbl, ↓zbm, ↓zbn, ↓zbo, ↓zbp, ↓zbq, ↓zbr, ↓zbs, ↓zbt, ↓zbu, ↓zbv, ↓zbw, ↓zbx, ↓zby, ↓zbz, ↓zca, ↓zcb, ↓zcc, ↓zcd, ↓zce, ↓zcf, ↓zcg, ↓zch, ↓zci, ↓zcj, ↓zck, ↓zcl, ↓zcm, ↓zcn, ↓zco, ↓zcp, ↓zcq, ↓zcr, ↓zcs, ↓zct, ↓zcu, ↓zcv, ↓zcw, ↓zcx, ↓zcy, ↓zcz, ↓zda, ↓zdb, ↓zdc, ↓zdd, ↓zde, ↓zdf, ↓zdg, ↓zdh, ↓zdi, ↓zdj, ↓zdk, ↓zdl, ↓zdm, ↓zdn, ↓zdo, ↓zdp, ↓zdq, ↓zdr, ↓zds, ↓zdt, ↓zdu, ↓zdv, ↓zdw, ↓zdx, ↓zdy, ↓zdz, ↓zea, ↓zeb, ↓zec, ↓zed, ↓zee, zef, zeg, zeh, zei, zej, zek, zel, zem, zen, zeo, zep, zeq, zer, zes, zet, zeu, zev, zew, zex, zey, zez, zfa, zfb, zfc, zfd, zfe, zff, zfg, zfh, zfi, zfj, zfk, zfl, zfm, zfn, zfo, zfp, zfq, zfr, zfs, zft, zfu, zfv, zfw, zfx, zfy, zfz, zga, zgb, zgc, zgd, zge, zgf, zgg, zgh, zgi, zgj, zgk, zgl, zgm, zgn, zgo, zgp, zgq, zgr, zgs, zgt, zgu, zgv, zgw, zgx, zgy, zgz, zha, zhb, zhc, zhd, zhe, zhf, zhg, zhh, zhi, zhj, zhk, zhl, zhm, zhn, zho, zhp, zhq, zhr, zhs, zht, zhu, zhv, zhw, zhx, zhy, zhz, zia, zib, zic, zid, zie, zif, zig, zih, zii, zij, zik, zil, zim, zin, zio, zip, ziq, zir, zis, zit, ziu, ziv, ziw, Int.reduceBEq, Int.reduceLT, Int.reduceLE, Int.reduceNeg, Nat.reduceLeDiff, Nat.reduceAdd, Nat.reduceLT, Nat.reduceSub, reduceCtorEq, Wk.frE, ne_eq, reduceIte, ↓zLc, ↓zFor, ↓zWhl, e']
    exact restx (fin m').1 (fin m').2.1 (fin m').2.2 (by omega)
  · have hb : (way == 2) = false := beq_eq_false_iff_ne.mpr hw
    simp (disch := first | omega | assumption) only [zaa, zab, zac, zad, ↓zae, ↓zaf, ↓zag, ↓zah, ↓zai, zaj, ↓zak, ↓zal, ↓zam, zan, zao, zap, zaq, ↓zar, ↓zas, ↓zat, ↓zau, ↓zav, ↓zaw, ↓zax, ↓zay, ↓zaz, ↓zba, ↓zbb, ↓zbc, ↓zbd, ↓zbe, ↓zbf, ↓zbg, ↓zbh, ↓zbi, ↓zbj, ↓zbk, ↓zbl, ↓zbm, ↓zbn, ↓zbo, ↓zbp, ↓zbq, ↓zbr, ↓zbs, ↓zbt, ↓zbu, ↓zbv, ↓zbw, ↓zbx, ↓zby, ↓zbz, ↓zca, ↓zcb, ↓zcc, ↓zcd, ↓zce, ↓zcf, ↓zcg, ↓zch, ↓zci, ↓zcj, ↓zck, ↓zcl, ↓zcm, ↓zcn, ↓zco, ↓zcp, ↓zcq, ↓zcr, ↓zcs, ↓zct, ↓zcu, ↓zcv, ↓zcw, ↓zcx, ↓zcy, ↓zcz, ↓zda, ↓zdb, ↓zdc, ↓zdd, ↓zde, ↓zdf, ↓zdg, ↓zdh, ↓zdi, ↓zdj, ↓zdk, ↓zdl, ↓zdm, ↓zdn, ↓zdo, ↓zdp, ↓zdq, ↓zdr, ↓zds, ↓zdt, ↓zdu, ↓zdv, ↓zdw, ↓zdx, ↓zdy, ↓zdz, ↓zea, ↓zeb, ↓zec, ↓zed, ↓zee, zef, zeg, zeh, zei, zej, zek, zel, zem, zen, zeo, zep, zeq, zer, zes, zet, zeu, zev, zew, zex, zey, zez, zfa, zfb, zfc, zfd, zfe, zff, zfg, zfh, zfi, zfj, zfk, zfl, zfm, zfn, zfo, zfp, zfq, zfr, zfs, zft, zfu, zfv, zfw, zfx, zfy, zfz, zga, zgb, zgc, zgd, zge, zgf, zgg, zgh, zgi, zgj, zgk, zgl, zgm, zgn, zgo, zgp, zgq, zgr, zgs, zgt, zgu, zgv, zgw, zgx, zgy, zgz, zha, zhb, zhc, zhd, zhe, zhf, zhg, zhh, zhi, zhj, zhk, zhl, zhm, zhn, zho, zhp, zhq, zhr, zhs, zht, zhu, zhv, zhw, zhx, zhy, zhz, zia, zib, zic, zid, zie, zif, zig, zih, zii, zij, zik, zil, zim, zin, zio, zip, ziq, zir, zis, zit, ziu, ziv, ziw, Int.reduceBEq, Int.reduceLT, Int.reduceLE, Int.reduceNeg, Nat.reduceLeDiff, Nat.reduceAdd, Nat.reduceLT, Nat.reduceSub, reduceCtorEq, Wk.frE, ne_eq, reduceIte, ↓zLc, ↓zFor, ↓zWhl, e, hb]
    exact restx (fin mg).1 (fin mg).2.1 (fin mg).2.2 (by omega)
/-- the crew -/
theorem crew_ok (hd : DrOk (F c0)) (h1 : LidOk (F c1)) (hn : n ≤ 1000) (ht : t + 2 + 5 * n ≤ 1000000) :
    (bodyP F G fr 10 (B_l_crew c0 c1) [.pen, .int n]).ok t fun v t1 => t1 ≤ t + 2 + 5 * n ∧ ∃ T w, v = trP T ∧ T.length = n ∧ Crew T w := by
  have c0w : Crew [] 1 := ⟨fun x hx => (nomatch hx), ⟨by omega, by omega, .inl rfl⟩, rfl, fun x hx => (nomatch hx)⟩
  simp (disch := first | omega | assumption) only [zaa, zab, zac, zad, ↓zae, ↓zaf, ↓zag, ↓zah, ↓zai, zaj, ↓zak, ↓zal, ↓zam, zan, zao, zap, zaq, ↓zar, ↓zas, ↓zat, ↓zau, ↓zav, ↓zaw, ↓zax, ↓zay, ↓zaz, ↓zba, ↓zbb, ↓zbc, ↓zbd, ↓zbe, ↓zbf, ↓zbg, ↓zbh, ↓zbi, ↓zbj, ↓zbk, ↓zbl, ↓zbm, ↓zbn, ↓zbo, ↓zbp, ↓zbq, ↓zbr, ↓zbs, ↓zbt, ↓zbu, ↓zbv, ↓zbw, ↓zbx, ↓zby, ↓zbz, ↓zca, ↓zcb, ↓zcc, ↓zcd, ↓zce, ↓zcf, ↓zcg, ↓zch, ↓zci, ↓zcj, ↓zck, ↓zcl, ↓zcm, ↓zcn, ↓zco, ↓zcp, ↓zcq, ↓zcr, ↓zcs, ↓zct, ↓zcu, ↓zcv, ↓zcw, ↓zcx, ↓zcy, ↓zcz, ↓zda, ↓zdb, ↓zdc, ↓zdd, ↓zde, ↓zdf, ↓zdg, ↓zdh, ↓zdi, ↓zdj, ↓zdk, ↓zdl, ↓zdm, ↓zdn, ↓zdo, ↓zdp, ↓zdq, ↓zdr, ↓zds, ↓zdt, ↓zdu, ↓zdv, ↓zdw, ↓zdx, ↓zdy, ↓zdz, ↓zea, ↓zeb, ↓zec, ↓zed, ↓zee, zef, zeg, zeh, zei, zej, zek, zel, zem, zen, zeo, zep, zeq, zer, zes, zet, zeu, zev, zew, zex, zey, zez, zfa, zfb, zfc, zfd, zfe, zff, zfg, zfh, zfi, zfj, zfk, zfl, zfm, zfn, zfo, zfp, zfq, zfr, zfs, zft, zfu, zfv, zfw, zfx, zfy, zfz, zga, zgb, zgc, zgd, zge, zgf, zgg, zgh, zgi, zgj, zgk, zgl, zgm, zgn, zgo, zgp, zgq, zgr, zgs, zgt, zgu, zgv, zgw, zgx, zgy, zgz, zha, zhb, zhc, zhd, zhe, zhf, zhg, zhh, zhi, zhj, zhk, zhl, zhm, zhn, zho, zhp, zhq, zhr, zhs, zht, zhu, zhv, zhw, zhx, zhy, zhz, zia, zib, zic, zid, zie, zif, zig, zih, zii, zij, zik, zil, zim, zin, zio, zip, ziq, zir, zis, zit, ziu, ziv, ziw, Int.reduceBEq, Int.reduceLT, Int.reduceLE, Int.reduceNeg, Nat.reduceLeDiff, Nat.reduceAdd, Nat.reduceLT, Nat.reduceSub, reduceCtorEq, Wk.frE, ne_eq, reduceIte, ↓zLc, ↓zFor, ↓zWhl, body_eq, B_l_crew]
  refine dr_bind hd (by decide) (by decide) (by omega) fun way w0 w1 => ?_
  simp (disch := first | omega | assumption) only [zaa, zab, zac, zad, ↓zae, ↓zaf, ↓zag, ↓zah, ↓zai, zaj, ↓zak, ↓zal, ↓zam, zan, zao, zap, zaq, ↓zar, ↓zas, ↓zat, ↓zau, ↓zav, ↓zaw, ↓zax, ↓zay, ↓zaz, ↓zba, ↓zbb, ↓zbc, ↓zbd, ↓zbe, ↓zbf, ↓zbg, ↓zbh, ↓zbi, ↓zbj, ↓zbk, ↓zbl, ↓zbm, ↓zbn, ↓zbo, ↓zbp, ↓zbq, ↓zbr, ↓zbs, ↓zbt, ↓zbu, ↓zbv, ↓zbw, ↓zbx, ↓zby, ↓zbz, ↓zca, ↓zcb, ↓zcc, ↓zcd, ↓zce, ↓zcf, ↓zcg, ↓zch, ↓zci, ↓zcj, ↓zck, ↓zcl, ↓zcm, ↓zcn, ↓zco, ↓zcp, ↓zcq, ↓zcr, ↓zcs, ↓zct, ↓zcu, ↓zcv, ↓zcw, ↓zcx, ↓zcy, ↓zcz, ↓zda, ↓zdb, ↓zdc, ↓zdd, ↓zde, ↓zdf, ↓zdg, ↓zdh, ↓zdi, ↓zdj, ↓zdk, ↓zdl, ↓zdm, ↓zdn, ↓zdo, ↓zdp, ↓zdq, ↓zdr, ↓zds, ↓zdt, ↓zdu, ↓zdv, ↓zdw, ↓zdx, ↓zdy, ↓zdz, ↓zea, ↓zeb, ↓zec, ↓zed, ↓zee, zef, zeg, zeh, zei, zej, zek, zel, zem, zen, zeo, zep, zeq, zer, zes, zet, zeu, zev, zew, zex, zey, zez, zfa, zfb, zfc, zfd, zfe, zff, zfg, zfh, zfi, zfj, zfk, zfl, zfm, zfn, zfo, zfp, zfq, zfr, zfs, zft, zfu, zfv, zfw, zfx, zfy, zfz, zga, zgb, zgc, zgd, zge, zgf, zgg, zgh, zgi, zgj, zgk, zgl, zgm, zgn, zgo, zgp, zgq, zgr, zgs, zgt, zgu, zgv, zgw, zgx, zgy, zgz, zha, zhb, zhc, zhd, zhe, zhf, zhg, zhh, zhi, zhj, zhk, zhl, zhm, zhn, zho, zhp, zhq, zhr, zhs, zht, zhu, zhv, zhw, zhx, zhy, zhz, zia, zib, zic, zid, zie, zif, zig, zih, zii, zij, zik, zil, zim, zin, zio, zip, ziq, zir, zis, zit, ziu, ziv, ziw, Int.reduceBEq, Int.reduceLT, Int.reduceLE, Int.reduceNeg, Nat.reduceLeDiff, Nat.reduceAdd, Nat.reduceLT, Nat.reduceSub, reduceCtorEq, Wk.frE, ne_eq, reduceIte, ↓zLc, ↓zFor, ↓zWhl]
  refine dr_bind hd (by decide) (by decide) (by omega) fun spot s0 s1 => ?_
  simp (disch := first | omega | assumption) only [zaa, zab, zac, zad, ↓zae, ↓zaf, ↓zag, ↓zah, ↓zai, zaj, ↓zak, ↓zal, ↓zam, zan, zao, zap, zaq, ↓zar, ↓zas, ↓zat, ↓zau, ↓zav, ↓zaw, ↓zax, ↓zay, ↓zaz, ↓zba, ↓zbb, ↓zbc, ↓zbd, ↓zbe, ↓zbf, ↓zbg, ↓zbh, ↓zbi, ↓zbj, ↓zbk, ↓zbl, ↓zbm, ↓zbn, ↓zbo, ↓zbp, ↓zbq, ↓zbr, ↓zbs, ↓zbt, ↓zbu, ↓zbv, ↓zbw, ↓zbx, ↓zby, ↓zbz, ↓zca, ↓zcb, ↓zcc, ↓zcd, ↓zce, ↓zcf, ↓zcg, ↓zch, ↓zci, ↓zcj, ↓zck, ↓zcl, ↓zcm, ↓zcn, ↓zco, ↓zcp, ↓zcq, ↓zcr, ↓zcs, ↓zct, ↓zcu, ↓zcv, ↓zcw, ↓zcx, ↓zcy, ↓zcz, ↓zda, ↓zdb, ↓zdc, ↓zdd, ↓zde, ↓zdf, ↓zdg, ↓zdh, ↓zdi, ↓zdj, ↓zdk, ↓zdl, ↓zdm, ↓zdn, ↓zdo, ↓zdp, ↓zdq, ↓zdr, ↓zds, ↓zdt, ↓zdu, ↓zdv, ↓zdw, ↓zdx, ↓zdy, ↓zdz, ↓zea, ↓zeb, ↓zec, ↓zed, ↓zee, zef, zeg, zeh, zei, zej, zek, zel, zem, zen, zeo, zep, zeq, zer, zes, zet, zeu, zev, zew, zex, zey, zez, zfa, zfb, zfc, zfd, zfe, zff, zfg, zfh, zfi, zfj, zfk, zfl, zfm, zfn, zfo, zfp, zfq, zfr, zfs, zft, zfu, zfv, zfw, zfx, zfy, zfz, zga, zgb, zgc, zgd, zge, zgf, zgg, zgh, zgi, zgj, zgk, zgl, zgm, zgn, zgo, zgp, zgq, zgr, zgs, zgt, zgu, zgv, zgw, zgx, zgy, zgz, zha, zhb, zhc, zhd, zhe, zhf, zhg, zhh, zhi, zhj, zhk, zhl, zhm, zhn, zho, zhp, zhq, zhr, zhs, zht, zhu, zhv, zhw, zhx, zhy, zhz, zia, zib, zic, zid, zie, zif, zig, zih, zii, zij, zik, zil, zim, zin, zio, zip, ziq, zir, zis, zit, ziu, ziv, ziw, Int.reduceBEq, Int.reduceLT, Int.reduceLE, Int.reduceNeg, Nat.reduceLeDiff, Nat.reduceAdd, Nat.reduceLT, Nat.reduceSub, reduceCtorEq, Wk.frE, ne_eq, reduceIte, ↓zLc, ↓zFor, ↓zWhl, Int.toNat_natCast]
  rw [ok_bd]
  refine for_ok (fun i env u => u ≤ t + 2 + 5 * i ∧ ∃ T w, env = crewEnv n way spot w T ∧ T.length = i ∧ Crew T w) ⟨by omega, [], 1, rfl, rfl, c0w⟩ (fun i x env u hx hi => ?_) (fun env u hi => ?_)
  · obtain ⟨hu, T, w, rfl, hl, hc⟩ := hi
    have hi : i < n := by have := (List.getElem?_eq_some_iff.mp hx).1; simpa using this
    refine ok_mono (crew_turn (t := u) hd h1 hc (by omega) x (by omega)) fun fl u1 q => ?_
    obtain ⟨hu1, g, r, hc', env', rfl, ew⟩ := q
    exact ⟨by omega, _, _, ew, by rw [List.length_append, hl]; rfl, hc'⟩
  · obtain ⟨hu, T, w, rfl, hl, hc⟩ := hi
    simp (disch := first | omega | assumption) only [zaa, zab, zac, zad, ↓zae, ↓zaf, ↓zag, ↓zah, ↓zai, zaj, ↓zak, ↓zal, ↓zam, zan, zao, zap, zaq, ↓zar, ↓zas, ↓zat, ↓zau, ↓zav, ↓zaw, ↓zax, ↓zay, ↓zaz, ↓zba, ↓zbb, ↓zbc, ↓zbd, ↓zbe, ↓zbf, ↓zbg, ↓zbh, ↓zbi, ↓zbj, ↓zbk, ↓zbl, ↓zbm, ↓zbn, ↓zbo, ↓zbp, ↓zbq, ↓zbr, ↓zbs, ↓zbt, ↓zbu, ↓zbv, ↓zbw, ↓zbx, ↓zby, ↓zbz, ↓zca, ↓zcb, ↓zcc, ↓zcd, ↓zce, ↓zcf, ↓zcg, ↓zch, ↓zci, ↓zcj, ↓zck, ↓zcl, ↓zcm, ↓zcn, ↓zco, ↓zcp, ↓zcq, ↓zcr, ↓zcs, ↓zct, ↓zcu, ↓zcv, ↓zcw, ↓zcx, ↓zcy, ↓zcz, ↓zda, ↓zdb, ↓zdc, ↓zdd, ↓zde, ↓zdf, ↓zdg, ↓zdh, ↓zdi, ↓zdj, ↓zdk, ↓zdl, ↓zdm, ↓zdn, ↓zdo, ↓zdp, ↓zdq, ↓zdr, ↓zds, ↓zdt, ↓zdu, ↓zdv, ↓zdw, ↓zdx, ↓zdy, ↓zdz, ↓zea, ↓zeb, ↓zec, ↓zed, ↓zee, zef, zeg, zeh, zei, zej, zek, zel, zem, zen, zeo, zep, zeq, zer, zes, zet, zeu, zev, zew, zex, zey, zez, zfa, zfb, zfc, zfd, zfe, zff, zfg, zfh, zfi, zfj, zfk, zfl, zfm, zfn, zfo, zfp, zfq, zfr, zfs, zft, zfu, zfv, zfw, zfx, zfy, zfz, zga, zgb, zgc, zgd, zge, zgf, zgg, zgh, zgi, zgj, zgk, zgl, zgm, zgn, zgo, zgp, zgq, zgr, zgs, zgt, zgu, zgv, zgw, zgx, zgy, zgz, zha, zhb, zhc, zhd, zhe, zhf, zhg, zhh, zhi, zhj, zhk, zhl, zhm, zhn, zho, zhp, zhq, zhr, zhs, zht, zhu, zhv, zhw, zhx, zhy, zhz, zia, zib, zic, zid, zie, zif, zig, zih, zii, zij, zik, zil, zim, zin, zio, zip, ziq, zir, zis, zit, ziu, ziv, ziw, Int.reduceBEq, Int.reduceLT, Int.reduceLE, Int.reduceNeg, Nat.reduceLeDiff, Nat.reduceAdd, Nat.reduceLT, Nat.reduceSub, reduceCtorEq, Wk.frE, ne_eq, reduceIte, ↓zLc, ↓zFor, ↓zWhl, crewEnv, ok_ret]
    rw [List.length_map, List.length_range] at hu hl
    exact ⟨hu, T, w, rfl, hl, hc⟩
def CrewOk (f : List P → Cm P) : Prop := ∀ n t : Nat, n ≤ 1000 → t + 2 + 5 * n ≤ 1000000 → (f [.pen, .int n]).ok t fun v t1 => t1 ≤ t + 2 + 5 * n ∧ ∃ T w, v = trP T ∧ T.length = n ∧ Crew T w
theorem erase_perm {α : Type} : ∀ {l : List α} {i : Nat} (h : i < l.length), (l[i] :: l.eraseIdx i).Perm l
  | a :: l, 0, _ => .refl _
  | a :: l, i + 1, h => (List.Perm.swap a (l[i]'(by simpa using h)) (l.eraseIdx i)).trans (.cons a (erase_perm (by simpa using h)))
/-- the row -/
theorem pick_ok : ∀ (n : Nat) (ns : List Nat) (t : Nat) (Q : List P → Nat → Prop), ns.length = n → n < 1000000 → t + n ≤ 1000000 → (∀ ms : List Nat, ms.Perm ns → Q (nsP ms) (t + n)) → (pickC n (nsP ns)).ok t Q
  | 0, ns, t, Q, h, _, _, q => by
    have : ns = [] := List.length_eq_zero_iff.mp h
    subst this
    exact ok_ret.mpr (q [] (.refl _))
  | n + 1, ns, t, Q, h, hn, ht, q => by
    refine ok_ask.mpr ⟨by rw [ns_len]; omega, by rw [ns_len]; unfold askWide; omega, by unfold askMost; omega, fun r r0 r1 => ?_⟩
    rw [ns_len] at r1
    have hr : r.toNat < ns.length := by omega
    have e : (nsP ns).eraseIdx r.toNat = nsP (ns.eraseIdx r.toNat) := by unfold nsP; rw [eraseIdx_map]
    have g : (nsP ns).getD r.toNat .non = .int (ns[r.toNat] : Nat) := by
      unfold nsP
      rw [List.getD_eq_getElem?_getD, List.getElem?_map, List.getElem?_eq_getElem hr]; rfl
    rw [ok_bind, e]
    refine pick_ok n _ (t + 1) _ (by rw [List.length_eraseIdx, if_pos hr]; omega) (by omega) (by omega) fun ms hm => ?_
    rw [ok_ret, g]
    have := q (ns[r.toNat] :: ms) (((List.Perm.cons _ hm)).trans (erase_perm hr))
    rw [show t + 1 + n = t + (n + 1) by omega]
    exact this
theorem line_ok (hn : n ≤ 1000) (ht : t + n ≤ 1000000) : (rowC [.pen, .int n]).ok t fun v t1 => t1 = t + n ∧ ∃ r : List Nat, v = rowP r ∧ r.Perm (List.range n) := by
  have e : rowC [.pen, .int n] = if 0 ≤ (n : Int) ∧ (n : Int) ≤ 1000 then (pickC (n : Int).toNat (rgP 0 n)).bind fun r => .ret (.tup r) else .no := rfl
  rw [e, if_pos ⟨by omega, by omega⟩, rgP_nat, Int.toNat_natCast, ok_bind]
  exact pick_ok n (List.range n) t _ (by simp) (by omega) ht fun ms hm => ok_ret.mpr ⟨rfl, ms, rfl, hm⟩
end
end Wk

set_option Elab.async false
set_option linter.all false
set_option maxRecDepth 100000
set_option maxHeartbeats 4000000
namespace Wk
open PySem PySem.Spec PyProof.Rows L2
section
variable {F : POrc} {G : PShp} {fr : Nat → Bool} {c0 c1 n t : Nat} {T : List (Nat × Nat)}
def Big : Int := 100000000000000000000000000000000000000000000
theorem p9 : (10 : Int) ^ (9 : Int).toNat = 1000000000 := by decide
theorem p13 : (10 : Int) ^ (13 : Int).toNat = 10000000000000 := by decide
theorem p31 : (10 : Int) ^ (31 : Int).toNat = 10000000000000000000000000000000 := by decide
theorem p40 : (10 : Int) ^ (40 : Int).toNat = 10000000000000000000000000000000000000000 := by decide
theorem time_ok (hd : DrOk (F c0)) (ht : t + 4 ≤ 1000000) : (bodyP F G fr 3 (B_l_time c0) [.pen]).ok t fun v t1 => t1 ≤ t + 4 ∧ ∃ i : Int, v = .int i ∧ -100000000000000000000000000000000000000000000 < i ∧ i < 100000000000000000000000000000000000000000000 := by
  simp (disch := first | omega | assumption) only [zaa, zab, zac, zad, ↓zae, ↓zaf, ↓zag, ↓zah, ↓zai, zaj, ↓zak, ↓zal, ↓zam, zan, zao, zap, zaq, ↓zar, ↓zas, ↓zat, ↓zau, ↓zav, ↓zaw, ↓zax, ↓zay, ↓zaz, ↓zba, ↓zbb, ↓zbc, ↓zbd, ↓zbe, ↓zbf, ↓zbg, ↓zbh, ↓zbi, ↓zbj, ↓zbk, ↓zbl, ↓zbm, ↓zbn, ↓zbo, ↓zbp, ↓zbq, ↓zbr, ↓zbs, ↓zbt, ↓zbu, ↓zbv, ↓zbw, ↓zbx, ↓zby, ↓zbz, ↓zca, ↓zcb, ↓zcc, ↓zcd, ↓zce, ↓zcf, ↓zcg, ↓zch, ↓zci, ↓zcj, ↓zck, ↓zcl, ↓zcm, ↓zcn, ↓zco, ↓zcp, ↓zcq, ↓zcr, ↓zcs, ↓zct, ↓zcu, ↓zcv, ↓zcw, ↓zcx, ↓zcy, ↓zcz, ↓zda, ↓zdb, ↓zdc, ↓zdd, ↓zde, ↓zdf, ↓zdg, ↓zdh, ↓zdi, ↓zdj, ↓zdk, ↓zdl, ↓zdm, ↓zdn, ↓zdo, ↓zdp, ↓zdq, ↓zdr, ↓zds, ↓zdt, ↓zdu, ↓zdv, ↓zdw, ↓zdx, ↓zdy, ↓zdz, ↓zea, ↓zeb, ↓zec, ↓zed, ↓zee, zef, zeg, zeh, zei, zej, zek, zel, zem, zen, zeo, zep, zeq, zer, zes, zet, zeu, zev, zew, zex, zey, zez, zfa, zfb, zfc, zfd, zfe, zff, zfg, zfh, zfi, zfj, zfk, zfl, zfm, zfn, zfo, zfp, zfq, zfr, zfs, zft, zfu, zfv, zfw, zfx, zfy, zfz, zga, zgb, zgc, zgd, zge, zgf, zgg, zgh, zgi, zgj, zgk, zgl, zgm, zgn, zgo, zgp, zgq, zgr, zgs, zgt, zgu, zgv, zgw, zgx, zgy, zgz, zha, zhb, zhc, zhd, zhe, zhf, zhg, zhh, zhi, zhj, zhk, zhl, zhm, zhn, zho, zhp, zhq, zhr, zhs, zht, zhu, zhv, zhw, zhx, zhy, zhz, zia, zib, zic, zid, zie, zif, zig, zih, zii, zij, zik, zil, zim, zin, zio, zip, ziq, zir, zis, zit, ziu, ziv, ziw, Int.reduceBEq, Int.reduceLT, Int.reduceLE, Int.reduceNeg, Nat.reduceLeDiff, Nat.reduceAdd, Nat.reduceLT, Nat.reduceSub, reduceCtorEq, Wk.frE, ne_eq, reduceIte, ↓zLc, ↓zFor, ↓zWhl, body_eq, B_l_time]
  refine dr_bind hd (by decide) (by decide) (by omega) fun way w0 w1 => ?_
  by_cases h0 : way = 0
  · subst h0
    simp (disch := first | omega | assumption) only [zaa, zab, zac, zad, ↓zae, ↓zaf, ↓zag, ↓zah, ↓zai, zaj, ↓zak, ↓zal, ↓zam, zan, zao, zap, zaq, ↓zar, ↓zas, ↓zat, ↓zau, ↓zav, ↓zaw, ↓zax, ↓zay, ↓zaz, ↓zba, ↓zbb, ↓zbc, ↓zbd, ↓zbe, ↓zbf, ↓zbg, ↓zbh, ↓zbi, ↓zbj, ↓zbk, ↓zbl, ↓zbm, ↓zbn, ↓zbo, ↓zbp, ↓zbq, ↓zbr, ↓zbs, ↓zbt, ↓zbu, ↓zbv, ↓zbw, ↓zbx, ↓zby, ↓zbz, ↓zca, ↓zcb, ↓zcc, ↓zcd, ↓zce, ↓zcf, ↓zcg, ↓zch, ↓zci, ↓zcj, ↓zck, ↓zcl, ↓zcm, ↓zcn, ↓zco, ↓zcp, ↓zcq, ↓zcr, ↓zcs, ↓zct, ↓zcu, ↓zcv, ↓zcw, ↓zcx, ↓zcy, ↓zcz, ↓zda, ↓zdb, ↓zdc, ↓zdd, ↓zde, ↓zdf, ↓zdg, ↓zdh, ↓zdi, ↓zdj, ↓zdk, ↓zdl, ↓zdm, ↓zdn, ↓zdo, ↓zdp, ↓zdq, ↓zdr, ↓zds, ↓zdt, ↓zdu, ↓zdv, ↓zdw, ↓zdx, ↓zdy, ↓zdz, ↓zea, ↓zeb, ↓zec, ↓zed, ↓zee, zef, zeg, zeh, zei, zej, zek, zel, zem, zen, zeo, zep, zeq, zer, zes, zet, zeu, zev, zew, zex, zey, zez, zfa, zfb, zfc, zfd, zfe, zff, zfg, zfh, zfi, zfj, zfk, zfl, zfm, zfn, zfo, zfp, zfq, zfr, zfs, zft, zfu, zfv, zfw, zfx, zfy, zfz, zga, zgb, zgc, zgd, zge, zgf, zgg, zgh, zgi, zgj, zgk, zgl, zgm, zgn, zgo, zgp, zgq, zgr, zgs, zgt, zgu, zgv, zgw, zgx, zgy, zgz, zha, zhb, zhc, zhd, zhe, zhf, zhg, zhh, zhi, zhj, zhk, zhl, zhm, zhn, zho, zhp, zhq, zhr, zhs, zht, zhu, zhv, zhw, zhx, zhy, zhz, zia, zib, zic, zid, zie, zif, zig, zih, zii, zij, zik, zil, zim, zin, zio, zip, ziq, zir, zis, zit, ziu, ziv, ziw, Int.reduceBEq, Int.reduceLT, Int.reduceLE, Int.reduceNeg, Nat.reduceLeDiff, Nat.reduceAdd, Nat.reduceLT, Nat.reduceSub, reduceCtorEq, Wk.frE, ne_eq, reduceIte, ↓zLc, ↓zFor, ↓zWhl]
    refine dr_bind hd (by decide) (by decide) (by omega) fun a a0 a1 => ?_
    simp (disch := first | omega | assumption) only [zaa, zab, zac, zad, ↓zae, ↓zaf, ↓zag, ↓zah, ↓zai, zaj, ↓zak, ↓zal, ↓zam, zan, zao, zap, zaq, ↓zar, ↓zas, ↓zat, ↓zau, ↓zav, ↓zaw, ↓zax, ↓zay, ↓zaz, ↓zba, ↓zbb, ↓zbc, ↓zbd, ↓zbe, ↓zbf, ↓zbg, ↓zbh, ↓zbi, ↓zbj, ↓zbk, ↓zbl, ↓zbm, ↓zbn, ↓zbo, ↓zbp, ↓zbq, ↓zbr, ↓zbs, ↓zbt, ↓zbu, ↓zbv, ↓zbw, ↓zbx, ↓zby, ↓zbz, ↓zca, ↓zcb, ↓zcc, ↓zcd, ↓zce, ↓zcf, ↓zcg, ↓zch, ↓zci, ↓zcj, ↓zck, ↓zcl, ↓zcm, ↓zcn, ↓zco, ↓zcp, ↓zcq, ↓zcr, ↓zcs, ↓zct, ↓zcu, ↓zcv, ↓zcw, ↓zcx, ↓zcy, ↓zcz, ↓zda, ↓zdb, ↓zdc, ↓zdd, ↓zde, ↓zdf, ↓zdg, ↓zdh, ↓zdi, ↓zdj, ↓zdk, ↓zdl, ↓zdm, ↓zdn, ↓zdo, ↓zdp, ↓zdq, ↓zdr, ↓zds, ↓zdt, ↓zdu, ↓zdv, ↓zdw, ↓zdx, ↓zdy, ↓zdz, ↓zea, ↓zeb, ↓zec, ↓zed, ↓zee, zef, zeg, zeh, zei, zej, zek, zel, zem, zen, zeo, zep, zeq, zer, zes, zet, zeu, zev, zew, zex, zey, zez, zfa, zfb, zfc, zfd, zfe, zff, zfg, zfh, zfi, zfj, zfk, zfl, zfm, zfn, zfo, zfp, zfq, zfr, zfs, zft, zfu, zfv, zfw, zfx, zfy, zfz, zga, zgb, zgc, zgd, zge, zgf, zgg, zgh, zgi, zgj, zgk, zgl, zgm, zgn, zgo, zgp, zgq, zgr, zgs, zgt, zgu, zgv, zgw, zgx, zgy, zgz, zha, zhb, zhc, zhd, zhe, zhf, zhg, zhh, zhi, zhj, zhk, zhl, zhm, zhn, zho, zhp, zhq, zhr, zhs, zht, zhu, zhv, zhw, zhx, zhy, zhz, zia, zib, zic, zid, zie, zif, zig, zih, zii, zij, zik, zil, zim, zin, zio, zip, ziq, zir, zis, zit, ziu, ziv, ziw, Int.reduceBEq, Int.reduceLT, Int.reduceLE, Int.reduceNeg, Nat.reduceLeDiff, Nat.reduceAdd, Nat.reduceLT, Nat.reduceSub, reduceCtorEq, Wk.frE, ne_eq, reduceIte, ↓zLc, ↓zFor, ↓zWhl, ok_ret]
    exact ⟨by omega, _, rfl, by omega, by omega⟩
  have b0 : (way == 0) = false := beq_eq_false_iff_ne.mpr h0
  by_cases h1 : way = 1
  · subst h1
    simp (disch := first | omega | assumption) only [zaa, zab, zac, zad, ↓zae, ↓zaf, ↓zag, ↓zah, ↓zai, zaj, ↓zak, ↓zal, ↓zam, zan, zao, zap, zaq, ↓zar, ↓zas, ↓zat, ↓zau, ↓zav, ↓zaw, ↓zax, ↓zay, ↓zaz, ↓zba, ↓zbb, ↓zbc, ↓zbd, ↓zbe, ↓zbf, ↓zbg, ↓zbh, ↓zbi, ↓zbj, ↓zbk, ↓zbl, ↓zbm, ↓zbn, ↓zbo, ↓zbp, ↓zbq, ↓zbr, ↓zbs, ↓zbt, ↓zbu, ↓zbv, ↓zbw, ↓zbx, ↓zby, ↓zbz, ↓zca, ↓zcb, ↓zcc, ↓zcd, ↓zce, ↓zcf, ↓zcg, ↓zch, ↓zci, ↓zcj, ↓zck, ↓zcl, ↓zcm, ↓zcn, ↓zco, ↓zcp, ↓zcq, ↓zcr, ↓zcs, ↓zct, ↓zcu, ↓zcv, ↓zcw, ↓zcx, ↓zcy, ↓zcz, ↓zda, ↓zdb, ↓zdc, ↓zdd, ↓zde, ↓zdf, ↓zdg, ↓zdh, ↓zdi, ↓zdj, ↓zdk, ↓zdl, ↓zdm, ↓zdn, ↓zdo, ↓zdp, ↓zdq, ↓zdr, ↓zds, ↓zdt, ↓zdu, ↓zdv, ↓zdw, ↓zdx, ↓zdy, ↓zdz, ↓zea, ↓zeb, ↓zec, ↓zed, ↓zee, zef, zeg, zeh, zei, zej, zek, zel, zem, zen, zeo, zep, zeq, zer, zes, zet, zeu, zev, zew, zex, zey, zez, zfa, zfb, zfc, zfd, zfe, zff, zfg, zfh, zfi, zfj, zfk, zfl, zfm, zfn, zfo, zfp, zfq, zfr, zfs, zft, zfu, zfv, zfw, zfx, zfy, zfz, zga, zgb, zgc, zgd, zge, zgf, zgg, zgh, zgi, zgj, zgk, zgl, zgm, zgn, zgo, zgp, zgq, zgr, zgs, zgt, zgu, zgv, zgw, zgx, zgy, zgz, zha, zhb, zhc, zhd, zhe, zhf, zhg, zhh, zhi, zhj, zhk, zhl, zhm, zhn, zho, zhp, zhq, zhr, zhs, zht, zhu, zhv, zhw, zhx, zhy, zhz, zia, zib, zic, zid, zie, zif, zig, zih, zii, zij, zik, zil, zim, zin, zio, zip, ziq, zir, zis, zit, ziu, ziv, ziw, Int.reduceBEq, Int.reduceLT, Int.reduceLE, Int.reduceNeg, Nat.reduceLeDiff, Nat.reduceAdd, Nat.reduceLT, Nat.reduceSub, reduceCtorEq, Wk.frE, ne_eq, reduceIte, ↓zLc, ↓zFor, ↓zWhl, b0]
    refine dr_bind hd (by decide) (by decide) (by omega) fun a a0 a1 => ?_
    simp (disch := first | omega | assumption) only [zaa, zab, zac, zad, ↓zae, ↓zaf, ↓zag, ↓zah, ↓zai, zaj, ↓zak, ↓zal, ↓zam, zan, zao, zap, zaq, ↓zar, ↓zas, ↓zat, ↓zau, ↓zav, ↓zaw, ↓zax, ↓zay, ↓zaz, ↓zba, ↓zbb, ↓zbc, ↓zbd, ↓zbe, ↓zbf, ↓zbg, ↓zbh, ↓zbi, ↓zbj, ↓zbk, ↓zbl, ↓zbm, ↓zbn, ↓zbo, ↓zbp, ↓zbq, ↓zbr, ↓zbs, ↓zbt, ↓zbu, ↓zbv, ↓zbw, ↓zbx, ↓zby, ↓zbz, ↓zca, ↓zcb, ↓zcc, ↓zcd, ↓zce, ↓zcf, ↓zcg, ↓zch, ↓zci, ↓zcj, ↓zck, ↓zcl, ↓zcm, ↓zcn, ↓zco, ↓zcp, ↓zcq, ↓zcr, ↓zcs, ↓zct, ↓zcu, ↓zcv, ↓zcw, ↓zcx, ↓zcy, ↓zcz, ↓zda, ↓zdb, ↓zdc, ↓zdd, ↓zde, ↓zdf, ↓zdg, ↓zdh, ↓zdi, ↓zdj, ↓zdk, ↓zdl, ↓zdm, ↓zdn, ↓zdo, ↓zdp, ↓zdq, ↓zdr, ↓zds, ↓zdt, ↓zdu, ↓zdv, ↓zdw, ↓zdx, ↓zdy, ↓zdz, ↓zea, ↓zeb, ↓zec, ↓zed, ↓zee, zef, zeg, zeh, zei, zej, zek, zel, zem, zen, zeo, zep, zeq, zer, zes, zet, zeu, zev, zew, zex, zey, zez, zfa, zfb, zfc, zfd, zfe, zff, zfg, zfh, zfi, zfj, zfk, zfl, zfm, zfn, zfo, zfp, zfq, zfr, zfs, zft, zfu, zfv, zfw, zfx, zfy, zfz, zga, zgb, zgc, zgd, zge, zgf, zgg, zgh, zgi, zgj, zgk, zgl, zgm, zgn, zgo, zgp, zgq, zgr, zgs, zgt, zgu, zgv, zgw, zgx, zgy, zgz, zha, zhb, zhc, zhd, zhe, zhf, zhg, zhh, zhi, zhj, zhk, zhl, zhm, zhn, zho, zhp, zhq, zhr, zhs, zht, zhu, zhv, zhw, zhx, zhy, zhz, zia, zib, zic, zid, zie, zif, zig, zih, zii, zij, zik, zil, zim, zin, zio, zip, ziq, zir, zis, zit, ziu, ziv, ziw, Int.reduceBEq, Int.reduceLT, Int.reduceLE, Int.reduceNeg, Nat.reduceLeDiff, Nat.reduceAdd, Nat.reduceLT, Nat.reduceSub, reduceCtorEq, Wk.frE, ne_eq, reduceIte, ↓zLc, ↓zFor, ↓zWhl, ok_ret]
    exact ⟨by omega, _, rfl, by omega, by omega⟩
  have b1 : (way == 1) = false := beq_eq_false_iff_ne.mpr h1
  simp (disch := first | omega | assumption) only [zaa, zab, zac, zad, ↓zae, ↓zaf, ↓zag, ↓zah, ↓zai, zaj, ↓zak, ↓zal, ↓zam, zan, zao, zap, zaq, ↓zar, ↓zas, ↓zat, ↓zau, ↓zav, ↓zaw, ↓zax, ↓zay, ↓zaz, ↓zba, ↓zbb, ↓zbc, ↓zbd, ↓zbe, ↓zbf, ↓zbg, ↓zbh, ↓zbi, ↓zbj, ↓zbk, ↓zbl, ↓zbm, ↓zbn, ↓zbo, ↓zbp, ↓zbq, ↓zbr, ↓zbs, ↓zbt, ↓zbu, ↓zbv, ↓zbw, ↓zbx, ↓zby, ↓zbz, ↓zca, ↓zcb, ↓zcc, ↓zcd, ↓zce, ↓zcf, ↓zcg, ↓zch, ↓zci, ↓zcj, ↓zck, ↓zcl, ↓zcm, ↓zcn, ↓zco, ↓zcp, ↓zcq, ↓zcr, ↓zcs, ↓zct, ↓zcu, ↓zcv, ↓zcw, ↓zcx, ↓zcy, ↓zcz, ↓zda, ↓zdb, ↓zdc, ↓zdd, ↓zde, ↓zdf, ↓zdg, ↓zdh, ↓zdi, ↓zdj, ↓zdk, ↓zdl, ↓zdm, ↓zdn, ↓zdo, ↓zdp, ↓zdq, ↓zdr, ↓zds, ↓zdt, ↓zdu, ↓zdv, ↓zdw, ↓zdx, ↓zdy, ↓zdz, ↓zea, ↓zeb, ↓zec, ↓zed, ↓zee, zef, zeg, zeh, zei, zej, zek, zel, zem, zen, zeo, zep, zeq, zer, zes, zet, zeu, zev, zew, zex, zey, zez, zfa, zfb, zfc, zfd, zfe, zff, zfg, zfh, zfi, zfj, zfk, zfl, zfm, zfn, zfo, zfp, zfq, zfr, zfs, zft, zfu, zfv, zfw, zfx, zfy, zfz, zga, zgb, zgc, zgd, zge, zgf, zgg, zgh, zgi, zgj, zgk, zgl, zgm, zgn, zgo, zgp, zgq, zgr, zgs, zgt, zgu, zgv, zgw, zgx, zgy, zgz, zha, zhb, zhc, zhd, zhe, zhf, zhg, zhh, zhi, zhj, zhk, zhl, zhm, zhn, zho, zhp, zhq, zhr, zhs, zht, zhu, zhv, zhw, zhx, zhy, zhz, zia, zib, zic, zid, zie, zif, zig, zih, zii, zij, zik, zil, zim, zin, zio, zip, ziq, zir, zis, zit, ziu, ziv, ziw, Int.reduceBEq, Int.reduceLT, Int.reduceLE, Int.reduceNeg, Nat.reduceLeDiff, Nat.reduceAdd, Nat.reduceLT, Nat.reduceSub, reduceCtorEq, Wk.frE, ne_eq, reduceIte, ↓zLc, ↓zFor, ↓zWhl, b0, b1, p9]
  refine dr_bind hd (by decide) (by decide) (by omega) fun a a0 a1 => ?_
  simp (disch := first | omega | assumption) only [zaa, zab, zac, zad, ↓zae, ↓zaf, ↓zag, ↓zah, ↓zai, zaj, ↓zak, ↓zal, ↓zam, zan, zao, zap, zaq, ↓zar, ↓zas, ↓zat, ↓zau, ↓zav, ↓zaw, ↓zax, ↓zay, ↓zaz, ↓zba, ↓zbb, ↓zbc, ↓zbd, ↓zbe, ↓zbf, ↓zbg, ↓zbh, ↓zbi, ↓zbj, ↓zbk, ↓zbl, ↓zbm, ↓zbn, ↓zbo, ↓zbp, ↓zbq, ↓zbr, ↓zbs, ↓zbt, ↓zbu, ↓zbv, ↓zbw, ↓zbx, ↓zby, ↓zbz, ↓zca, ↓zcb, ↓zcc, ↓zcd, ↓zce, ↓zcf, ↓zcg, ↓zch, ↓zci, ↓zcj, ↓zck, ↓zcl, ↓zcm, ↓zcn, ↓zco, ↓zcp, ↓zcq, ↓zcr, ↓zcs, ↓zct, ↓zcu, ↓zcv, ↓zcw, ↓zcx, ↓zcy, ↓zcz, ↓zda, ↓zdb, ↓zdc, ↓zdd, ↓zde, ↓zdf, ↓zdg, ↓zdh, ↓zdi, ↓zdj, ↓zdk, ↓zdl, ↓zdm, ↓zdn, ↓zdo, ↓zdp, ↓zdq, ↓zdr, ↓zds, ↓zdt, ↓zdu, ↓zdv, ↓zdw, ↓zdx, ↓zdy, ↓zdz, ↓zea, ↓zeb, ↓zec, ↓zed, ↓zee, zef, zeg, zeh, zei, zej, zek, zel, zem, zen, zeo, zep, zeq, zer, zes, zet, zeu, zev, zew, zex, zey, zez, zfa, zfb, zfc, zfd, zfe, zff, zfg, zfh, zfi, zfj, zfk, zfl, zfm, zfn, zfo, zfp, zfq, zfr, zfs, zft, zfu, zfv, zfw, zfx, zfy, zfz, zga, zgb, zgc, zgd, zge, zgf, zgg, zgh, zgi, zgj, zgk, zgl, zgm, zgn, zgo, zgp, zgq, zgr, zgs, zgt, zgu, zgv, zgw, zgx, zgy, zgz, zha, zhb, zhc, zhd, zhe, zhf, zhg, zhh, zhi, zhj, zhk, zhl, zhm, zhn, zho, zhp, zhq, zhr, zhs, zht, zhu, zhv, zhw, zhx, zhy, zhz, zia, zib, zic, zid, zie, zif, zig, zih, zii, zij, zik, zil, zim, zin, zio, zip, ziq, zir, zis, zit, ziu, ziv, ziw, Int.reduceBEq, Int.reduceLT, Int.reduceLE, Int.reduceNeg, Nat.reduceLeDiff, Nat.reduceAdd, Nat.reduceLT, Nat.reduceSub, reduceCtorEq, Wk.frE, ne_eq, reduceIte, ↓zLc, ↓zFor, ↓zWhl, p31, p9]
  refine dr_bind hd (by decide) (by decide) (by omega) fun b b0 b1 => ?_
  simp (disch := first | omega | assumption) only [zaa, zab, zac, zad, ↓zae, ↓zaf, ↓zag, ↓zah, ↓zai, zaj, ↓zak, ↓zal, ↓zam, zan, zao, zap, zaq, ↓zar, ↓zas, ↓zat, ↓zau, ↓zav, ↓zaw, ↓zax, ↓zay, ↓zaz, ↓zba, ↓zbb, ↓zbc, ↓zbd, ↓zbe, ↓zbf, ↓zbg, ↓zbh, ↓zbi, ↓zbj, ↓zbk, ↓zbl, ↓zbm, ↓zbn, ↓zbo, ↓zbp, ↓zbq, ↓zbr, ↓zbs, ↓zbt, ↓zbu, ↓zbv, ↓zbw, ↓zbx, ↓zby, ↓zbz, ↓zca, ↓zcb, ↓zcc, ↓zcd, ↓zce, ↓zcf, ↓zcg, ↓zch, ↓zci, ↓zcj, ↓zck, ↓zcl, ↓zcm, ↓zcn, ↓zco, ↓zcp, ↓zcq, ↓zcr, ↓zcs, ↓zct, ↓zcu, ↓zcv, ↓zcw, ↓zcx, ↓zcy, ↓zcz, ↓zda, ↓zdb, ↓zdc, ↓zdd, ↓zde, ↓zdf, ↓zdg, ↓zdh, ↓zdi, ↓zdj, ↓zdk, ↓zdl, ↓zdm, ↓zdn, ↓zdo, ↓zdp, ↓zdq, ↓zdr, ↓zds, ↓zdt, ↓zdu, ↓zdv, ↓zdw, ↓zdx, ↓zdy, ↓zdz, ↓zea, ↓zeb, ↓zec, ↓zed, ↓zee, zef, zeg, zeh, zei, zej, zek, zel, zem, zen, zeo, zep, zeq, zer, zes, zet, zeu, zev, zew, zex, zey, zez, zfa, zfb, zfc, zfd, zfe, zff, zfg, zfh, zfi, zfj, zfk, zfl, zfm, zfn, zfo, zfp, zfq, zfr, zfs, zft, zfu, zfv, zfw, zfx, zfy, zfz, zga, zgb, zgc, zgd, zge, zgf, zgg, zgh, zgi, zgj, zgk, zgl, zgm, zgn, zgo, zgp, zgq, zgr, zgs, zgt, zgu, zgv, zgw, zgx, zgy, zgz, zha, zhb, zhc, zhd, zhe, zhf, zhg, zhh, zhi, zhj, zhk, zhl, zhm, zhn, zho, zhp, zhq, zhr, zhs, zht, zhu, zhv, zhw, zhx, zhy, zhz, zia, zib, zic, zid, zie, zif, zig, zih, zii, zij, zik, zil, zim, zin, zio, zip, ziq, zir, zis, zit, ziu, ziv, ziw, Int.reduceBEq, Int.reduceLT, Int.reduceLE, Int.reduceNeg, Nat.reduceLeDiff, Nat.reduceAdd, Nat.reduceLT, Nat.reduceSub, reduceCtorEq, Wk.frE, ne_eq, reduceIte, ↓zLc, ↓zFor, ↓zWhl, p13, p9]
  refine dr_bind hd (by decide) (by decide) (by omega) fun c c0 c1 => ?_
  rcases (show way = 2 ∨ way = 3 by omega) with rfl | rfl
  · have e : ∀ x y : P, atI [x, y] (2 - 2) = some x := fun x y => rfl
    simp (disch := first | omega | assumption) only [zaa, zab, zac, zad, ↓zae, ↓zaf, ↓zag, ↓zah, ↓zai, zaj, ↓zak, ↓zal, ↓zam, zan, zao, zap, zaq, ↓zar, ↓zas, ↓zat, ↓zau, ↓zav, ↓zaw, ↓zax, ↓zay, ↓zaz, ↓zba, ↓zbb, ↓zbc, ↓zbd, ↓zbe, ↓zbf, ↓zbg, ↓zbh, ↓zbi, ↓zbj, ↓zbk, ↓zbl, ↓zbm, ↓zbn, ↓zbo, ↓zbp, ↓zbq, ↓zbr, ↓zbs, ↓zbt, ↓zbu, ↓zbv, ↓zbw, ↓zbx, ↓zby, ↓zbz, ↓zca, ↓zcb, ↓zcc, ↓zcd, ↓zce, ↓zcf, ↓zcg, ↓zch, ↓zci, ↓zcj, ↓zck, ↓zcl, ↓zcm, ↓zcn, ↓zco, ↓zcp, ↓zcq, ↓zcr, ↓zcs, ↓zct, ↓zcu, ↓zcv, ↓zcw, ↓zcx, ↓zcy, ↓zcz, ↓zda, ↓zdb, ↓zdc, ↓zdd, ↓zde, ↓zdf, ↓zdg, ↓zdh, ↓zdi, ↓zdj, ↓zdk, ↓zdl, ↓zdm, ↓zdn, ↓zdo, ↓zdp, ↓zdq, ↓zdr, ↓zds, ↓zdt, ↓zdu, ↓zdv, ↓zdw, ↓zdx, ↓zdy, ↓zdz, ↓zea, ↓zeb, ↓zec, ↓zed, ↓zee, zef, zeg, zeh, zei, zej, zek, zel, zem, zen, zeo, zep, zeq, zer, zes, zet, zeu, zev, zew, zex, zey, zez, zfa, zfb, zfc, zfd, zfe, zff, zfg, zfh, zfi, zfj, zfk, zfl, zfm, zfn, zfo, zfp, zfq, zfr, zfs, zft, zfu, zfv, zfw, zfx, zfy, zfz, zga, zgb, zgc, zgd, zge, zgf, zgg, zgh, zgi, zgj, zgk, zgl, zgm, zgn, zgo, zgp, zgq, zgr, zgs, zgt, zgu, zgv, zgw, zgx, zgy, zgz, zha, zhb, zhc, zhd, zhe, zhf, zhg, zhh, zhi, zhj, zhk, zhl, zhm, zhn, zho, zhp, zhq, zhr, zhs, zht, zhu, zhv, zhw, zhx, zhy, zhz, zia, zib, zic, zid, zie, zif, zig, zih, zii, zij, zik, zil, zim, zin, zio, zip, ziq, zir, zis, zit, ziu, ziv, ziw, Int.reduceBEq, Int.reduceLT, Int.reduceLE, Int.reduceNeg, Nat.reduceLeDiff, Nat.reduceAdd, Nat.reduceLT, Nat.reduceSub, reduceCtorEq, Wk.frE, ne_eq, reduceIte, ↓zLc, ↓zFor, ↓zWhl, e, ok_ret]
    exact ⟨by omega, _, rfl, by omega, by omega⟩
  · have e : ∀ x y : P, atI [x, y] (3 - 2) = some y := fun x y => rfl
    simp (disch := first | omega | assumption) only [zaa, zab, zac, zad, ↓zae, ↓zaf, ↓zag, ↓zah, ↓zai, zaj, ↓zak, ↓zal, ↓zam, zan, zao, zap, zaq, ↓zar, ↓zas, ↓zat, ↓zau, ↓zav, ↓zaw, ↓zax, ↓zay, ↓zaz, ↓zba, ↓zbb, ↓zbc, ↓zbd, ↓zbe, ↓zbf, ↓zbg, ↓zbh, ↓zbi, ↓zbj, ↓zbk, ↓zbl, ↓zbm, ↓zbn, ↓zbo, ↓zbp, ↓zbq, ↓zbr, ↓zbs, ↓zbt, ↓zbu, ↓zbv, ↓zbw, ↓zbx, ↓zby, ↓zbz, ↓zca, ↓zcb, ↓zcc, ↓zcd, ↓zce, ↓zcf, ↓zcg, ↓zch, ↓zci, ↓zcj, ↓zck, ↓zcl, ↓zcm, ↓zcn, ↓zco, ↓zcp, ↓zcq, ↓zcr, ↓zcs, ↓zct, ↓zcu, ↓zcv, ↓zcw, ↓zcx, ↓zcy, ↓zcz, ↓zda, ↓zdb, ↓zdc, ↓zdd, ↓zde, ↓zdf, ↓zdg, ↓zdh, ↓zdi, ↓zdj, ↓zdk, ↓zdl, ↓zdm, ↓zdn, ↓zdo, ↓zdp, ↓zdq, ↓zdr, ↓zds, ↓zdt, ↓zdu, ↓zdv, ↓zdw, ↓zdx, ↓zdy, ↓zdz, ↓zea, ↓zeb, ↓zec, ↓zed, ↓zee, zef, zeg, zeh, zei, zej, zek, zel, zem, zen, zeo, zep, zeq, zer, zes, zet, zeu, zev, zew, zex, zey, zez, zfa, zfb, zfc, zfd, zfe, zff, zfg, zfh, zfi, zfj, zfk, zfl, zfm, zfn, zfo, zfp, zfq, zfr, zfs, zft, zfu, zfv, zfw, zfx, zfy, zfz, zga, zgb, zgc, zgd, zge, zgf, zgg, zgh, zgi, zgj, zgk, zgl, zgm, zgn, zgo, zgp, zgq, zgr, zgs, zgt, zgu, zgv, zgw, zgx, zgy, zgz, zha, zhb, zhc, zhd, zhe, zhf, zhg, zhh, zhi, zhj, zhk, zhl, zhm, zhn, zho, zhp, zhq, zhr, zhs, zht, zhu, zhv, zhw, zhx, zhy, zhz, zia, zib, zic, zid, zie, zif, zig, zih, zii, zij, zik, zil, zim, zin, zio, zip, ziq, zir, zis, zit, ziu, ziv, ziw, Int.reduceBEq, Int.reduceLT, Int.reduceLE, Int.reduceNeg, Nat.reduceLeDiff, Nat.reduceAdd, Nat.reduceLT, Nat.reduceSub, reduceCtorEq, Wk.frE, ne_eq, reduceIte, ↓zLc, ↓zFor, ↓zWhl, e, ok_ret]
    exact ⟨by omega, _, rfl, by omega, by omega⟩
def TimeOk (f : List P → Cm P) : Prop := ∀ t : Nat, t + 4 ≤ 1000000 → (f [.pen]).ok t fun v t1 => t1 ≤ t + 4 ∧ ∃ i : Int, v = .int i ∧ -100000000000000000000000000000000000000000000 < i ∧ i < 100000000000000000000000000000000000000000000
theorem timeof_ok (h0 : TimeOk (F c0)) (hd : DrOk (F c1)) (hT : Hands T) (hl : 0 < T.length) (hl2 : T.length ≤ 1000) (ht : t + 6 ≤ 1000000) : (bodyP F G fr 5 (B_l_time_of c0 c1) [.pen, trP T]).ok t fun v t1 => t1 ≤ t + 6 ∧ ∃ i : Int, v = .int i ∧ -200000000000000000000000000000000000000000000 < i ∧ i < 200000000000000000000000000000000000000000000 := by
  simp (disch := first | omega | assumption) only [zaa, zab, zac, zad, ↓zae, ↓zaf, ↓zag, ↓zah, ↓zai, zaj, ↓zak, ↓zal, ↓zam, zan, zao, zap, zaq, ↓zar, ↓zas, ↓zat, ↓zau, ↓zav, ↓zaw, ↓zax, ↓zay, ↓zaz, ↓zba, ↓zbb, ↓zbc, ↓zbd, ↓zbe, ↓zbf, ↓zbg, ↓zbh, ↓zbi, ↓zbj, ↓zbk, ↓zbl, ↓zbm, ↓zbn, ↓zbo, ↓zbp, ↓zbq, ↓zbr, ↓zbs, ↓zbt, ↓zbu, ↓zbv, ↓zbw, ↓zbx, ↓zby, ↓zbz, ↓zca, ↓zcb, ↓zcc, ↓zcd, ↓zce, ↓zcf, ↓zcg, ↓zch, ↓zci, ↓zcj, ↓zck, ↓zcl, ↓zcm, ↓zcn, ↓zco, ↓zcp, ↓zcq, ↓zcr, ↓zcs, ↓zct, ↓zcu, ↓zcv, ↓zcw, ↓zcx, ↓zcy, ↓zcz, ↓zda, ↓zdb, ↓zdc, ↓zdd, ↓zde, ↓zdf, ↓zdg, ↓zdh, ↓zdi, ↓zdj, ↓zdk, ↓zdl, ↓zdm, ↓zdn, ↓zdo, ↓zdp, ↓zdq, ↓zdr, ↓zds, ↓zdt, ↓zdu, ↓zdv, ↓zdw, ↓zdx, ↓zdy, ↓zdz, ↓zea, ↓zeb, ↓zec, ↓zed, ↓zee, zef, zeg, zeh, zei, zej, zek, zel, zem, zen, zeo, zep, zeq, zer, zes, zet, zeu, zev, zew, zex, zey, zez, zfa, zfb, zfc, zfd, zfe, zff, zfg, zfh, zfi, zfj, zfk, zfl, zfm, zfn, zfo, zfp, zfq, zfr, zfs, zft, zfu, zfv, zfw, zfx, zfy, zfz, zga, zgb, zgc, zgd, zge, zgf, zgg, zgh, zgi, zgj, zgk, zgl, zgm, zgn, zgo, zgp, zgq, zgr, zgs, zgt, zgu, zgv, zgw, zgx, zgy, zgz, zha, zhb, zhc, zhd, zhe, zhf, zhg, zhh, zhi, zhj, zhk, zhl, zhm, zhn, zho, zhp, zhq, zhr, zhs, zht, zhu, zhv, zhw, zhx, zhy, zhz, zia, zib, zic, zid, zie, zif, zig, zih, zii, zij, zik, zil, zim, zin, zio, zip, ziq, zir, zis, zit, ziu, ziv, ziw, Int.reduceBEq, Int.reduceLT, Int.reduceLE, Int.reduceNeg, Nat.reduceLeDiff, Nat.reduceAdd, Nat.reduceLT, Nat.reduceSub, reduceCtorEq, Wk.frE, ne_eq, reduceIte, ↓zLc, ↓zFor, ↓zWhl, body_eq, B_l_time_of, trP]
  rw [ok_bd]
  refine ok_mono (h0 t (by omega)) fun v t1 h => ?_
  obtain ⟨ht1, i, rfl, i0, i1⟩ := h
  simp (disch := first | omega | assumption) only [zaa, zab, zac, zad, ↓zae, ↓zaf, ↓zag, ↓zah, ↓zai, zaj, ↓zak, ↓zal, ↓zam, zan, zao, zap, zaq, ↓zar, ↓zas, ↓zat, ↓zau, ↓zav, ↓zaw, ↓zax, ↓zay, ↓zaz, ↓zba, ↓zbb, ↓zbc, ↓zbd, ↓zbe, ↓zbf, ↓zbg, ↓zbh, ↓zbi, ↓zbj, ↓zbk, ↓zbl, ↓zbm, ↓zbn, ↓zbo, ↓zbp, ↓zbq, ↓zbr, ↓zbs, ↓zbt, ↓zbu, ↓zbv, ↓zbw, ↓zbx, ↓zby, ↓zbz, ↓zca, ↓zcb, ↓zcc, ↓zcd, ↓zce, ↓zcf, ↓zcg, ↓zch, ↓zci, ↓zcj, ↓zck, ↓zcl, ↓zcm, ↓zcn, ↓zco, ↓zcp, ↓zcq, ↓zcr, ↓zcs, ↓zct, ↓zcu, ↓zcv, ↓zcw, ↓zcx, ↓zcy, ↓zcz, ↓zda, ↓zdb, ↓zdc, ↓zdd, ↓zde, ↓zdf, ↓zdg, ↓zdh, ↓zdi, ↓zdj, ↓zdk, ↓zdl, ↓zdm, ↓zdn, ↓zdo, ↓zdp, ↓zdq, ↓zdr, ↓zds, ↓zdt, ↓zdu, ↓zdv, ↓zdw, ↓zdx, ↓zdy, ↓zdz, ↓zea, ↓zeb, ↓zec, ↓zed, ↓zee, zef, zeg, zeh, zei, zej, zek, zel, zem, zen, zeo, zep, zeq, zer, zes, zet, zeu, zev, zew, zex, zey, zez, zfa, zfb, zfc, zfd, zfe, zff, zfg, zfh, zfi, zfj, zfk, zfl, zfm, zfn, zfo, zfp, zfq, zfr, zfs, zft, zfu, zfv, zfw, zfx, zfy, zfz, zga, zgb, zgc, zgd, zge, zgf, zgg, zgh, zgi, zgj, zgk, zgl, zgm, zgn, zgo, zgp, zgq, zgr, zgs, zgt, zgu, zgv, zgw, zgx, zgy, zgz, zha, zhb, zhc, zhd, zhe, zhf, zhg, zhh, zhi, zhj, zhk, zhl, zhm, zhn, zho, zhp, zhq, zhr, zhs, zht, zhu, zhv, zhw, zhx, zhy, zhz, zia, zib, zic, zid, zie, zif, zig, zih, zii, zij, zik, zil, zim, zin, zio, zip, ziq, zir, zis, zit, ziu, ziv, ziw, Int.reduceBEq, Int.reduceLT, Int.reduceLE, Int.reduceNeg, Nat.reduceLeDiff, Nat.reduceAdd, Nat.reduceLT, Nat.reduceSub, reduceCtorEq, Wk.frE, ne_eq, reduceIte, ↓zLc, ↓zFor, ↓zWhl, List.length_map]
  refine dr_bind hd (by omega) (by omega) (by omega) fun a a0 a1 => ?_
  obtain ⟨x, hx, hm⟩ := at_some a0 a1
  have e : atI (T.map hdP) a = some (hdP x) := by rw [atI_map', hx]; rfl
  have q := hT x hm
  have m := em_pos (x := (x.2 : Int) - i) (m := (x.1 : Int)) (by omega)
  simp (disch := first | omega | assumption) only [zaa, zab, zac, zad, ↓zae, ↓zaf, ↓zag, ↓zah, ↓zai, zaj, ↓zak, ↓zal, ↓zam, zan, zao, zap, zaq, ↓zar, ↓zas, ↓zat, ↓zau, ↓zav, ↓zaw, ↓zax, ↓zay, ↓zaz, ↓zba, ↓zbb, ↓zbc, ↓zbd, ↓zbe, ↓zbf, ↓zbg, ↓zbh, ↓zbi, ↓zbj, ↓zbk, ↓zbl, ↓zbm, ↓zbn, ↓zbo, ↓zbp, ↓zbq, ↓zbr, ↓zbs, ↓zbt, ↓zbu, ↓zbv, ↓zbw, ↓zbx, ↓zby, ↓zbz, ↓zca, ↓zcb, ↓zcc, ↓zcd, ↓zce, ↓zcf, ↓zcg, ↓zch, ↓zci, ↓zcj, ↓zck, ↓zcl, ↓zcm, ↓zcn, ↓zco, ↓zcp, ↓zcq, ↓zcr, ↓zcs, ↓zct, ↓zcu, ↓zcv, ↓zcw, ↓zcx, ↓zcy, ↓zcz, ↓zda, ↓zdb, ↓zdc, ↓zdd, ↓zde, ↓zdf, ↓zdg, ↓zdh, ↓zdi, ↓zdj, ↓zdk, ↓zdl, ↓zdm, ↓zdn, ↓zdo, ↓zdp, ↓zdq, ↓zdr, ↓zds, ↓zdt, ↓zdu, ↓zdv, ↓zdw, ↓zdx, ↓zdy, ↓zdz, ↓zea, ↓zeb, ↓zec, ↓zed, ↓zee, zef, zeg, zeh, zei, zej, zek, zel, zem, zen, zeo, zep, zeq, zer, zes, zet, zeu, zev, zew, zex, zey, zez, zfa, zfb, zfc, zfd, zfe, zff, zfg, zfh, zfi, zfj, zfk, zfl, zfm, zfn, zfo, zfp, zfq, zfr, zfs, zft, zfu, zfv, zfw, zfx, zfy, zfz, zga, zgb, zgc, zgd, zge, zgf, zgg, zgh, zgi, zgj, zgk, zgl, zgm, zgn, zgo, zgp, zgq, zgr, zgs, zgt, zgu, zgv, zgw, zgx, zgy, zgz, zha, zhb, zhc, zhd, zhe, zhf, zhg, zhh, zhi, zhj, zhk, zhl, zhm, zhn, zho, zhp, zhq, zhr, zhs, zht, zhu, zhv, zhw, zhx, zhy, zhz, zia, zib, zic, zid, zie, zif, zig, zih, zii, zij, zik, zil, zim, zin, zio, zip, ziq, zir, zis, zit, ziu, ziv, ziw, Int.reduceBEq, Int.reduceLT, Int.reduceLE, Int.reduceNeg, Nat.reduceLeDiff, Nat.reduceAdd, Nat.reduceLT, Nat.reduceSub, reduceCtorEq, Wk.frE, ne_eq, reduceIte, ↓zLc, ↓zFor, ↓zWhl, e, hdP]
  generalize ((x.2 : Int) - i) % (x.1 : Int) = z at m
  refine dr_bind hd (by omega) (by omega) (by omega) fun b b0 b1 => ?_
  by_cases hb : 0 < b
  · simp (disch := first | omega | assumption) only [zaa, zab, zac, zad, ↓zae, ↓zaf, ↓zag, ↓zah, ↓zai, zaj, ↓zak, ↓zal, ↓zam, zan, zao, zap, zaq, ↓zar, ↓zas, ↓zat, ↓zau, ↓zav, ↓zaw, ↓zax, ↓zay, ↓zaz, ↓zba, ↓zbb, ↓zbc, ↓zbd, ↓zbe, ↓zbf, ↓zbg, ↓zbh, ↓zbi, ↓zbj, ↓zbk, ↓zbl, ↓zbm, ↓zbn, ↓zbo, ↓zbp, ↓zbq, ↓zbr, ↓zbs, ↓zbt, ↓zbu, ↓zbv, ↓zbw, ↓zbx, ↓zby, ↓zbz, ↓zca, ↓zcb, ↓zcc, ↓zcd, ↓zce, ↓zcf, ↓zcg, ↓zch, ↓zci, ↓zcj, ↓zck, ↓zcl, ↓zcm, ↓zcn, ↓zco, ↓zcp, ↓zcq, ↓zcr, ↓zcs, ↓zct, ↓zcu, ↓zcv, ↓zcw, ↓zcx, ↓zcy, ↓zcz, ↓zda, ↓zdb, ↓zdc, ↓zdd, ↓zde, ↓zdf, ↓zdg, ↓zdh, ↓zdi, ↓zdj, ↓zdk, ↓zdl, ↓zdm, ↓zdn, ↓zdo, ↓zdp, ↓zdq, ↓zdr, ↓zds, ↓zdt, ↓zdu, ↓zdv, ↓zdw, ↓zdx, ↓zdy, ↓zdz, ↓zea, ↓zeb, ↓zec, ↓zed, ↓zee, zef, zeg, zeh, zei, zej, zek, zel, zem, zen, zeo, zep, zeq, zer, zes, zet, zeu, zev, zew, zex, zey, zez, zfa, zfb, zfc, zfd, zfe, zff, zfg, zfh, zfi, zfj, zfk, zfl, zfm, zfn, zfo, zfp, zfq, zfr, zfs, zft, zfu, zfv, zfw, zfx, zfy, zfz, zga, zgb, zgc, zgd, zge, zgf, zgg, zgh, zgi, zgj, zgk, zgl, zgm, zgn, zgo, zgp, zgq, zgr, zgs, zgt, zgu, zgv, zgw, zgx, zgy, zgz, zha, zhb, zhc, zhd, zhe, zhf, zhg, zhh, zhi, zhj, zhk, zhl, zhm, zhn, zho, zhp, zhq, zhr, zhs, zht, zhu, zhv, zhw, zhx, zhy, zhz, zia, zib, zic, zid, zie, zif, zig, zih, zii, zij, zik, zil, zim, zin, zio, zip, ziq, zir, zis, zit, ziu, ziv, ziw, Int.reduceBEq, Int.reduceLT, Int.reduceLE, Int.reduceNeg, Nat.reduceLeDiff, Nat.reduceAdd, Nat.reduceLT, Nat.reduceSub, reduceCtorEq, Wk.frE, ne_eq, reduceIte, ↓zLc, ↓zFor, ↓zWhl, hb, ok_ret]
    exact ⟨by omega, _, rfl, by omega, by omega⟩
  · simp (disch := first | omega | assumption) only [zaa, zab, zac, zad, ↓zae, ↓zaf, ↓zag, ↓zah, ↓zai, zaj, ↓zak, ↓zal, ↓zam, zan, zao, zap, zaq, ↓zar, ↓zas, ↓zat, ↓zau, ↓zav, ↓zaw, ↓zax, ↓zay, ↓zaz, ↓zba, ↓zbb, ↓zbc, ↓zbd, ↓zbe, ↓zbf, ↓zbg, ↓zbh, ↓zbi, ↓zbj, ↓zbk, ↓zbl, ↓zbm, ↓zbn, ↓zbo, ↓zbp, ↓zbq, ↓zbr, ↓zbs, ↓zbt, ↓zbu, ↓zbv, ↓zbw, ↓zbx, ↓zby, ↓zbz, ↓zca, ↓zcb, ↓zcc, ↓zcd, ↓zce, ↓zcf, ↓zcg, ↓zch, ↓zci, ↓zcj, ↓zck, ↓zcl, ↓zcm, ↓zcn, ↓zco, ↓zcp, ↓zcq, ↓zcr, ↓zcs, ↓zct, ↓zcu, ↓zcv, ↓zcw, ↓zcx, ↓zcy, ↓zcz, ↓zda, ↓zdb, ↓zdc, ↓zdd, ↓zde, ↓zdf, ↓zdg, ↓zdh, ↓zdi, ↓zdj, ↓zdk, ↓zdl, ↓zdm, ↓zdn, ↓zdo, ↓zdp, ↓zdq, ↓zdr, ↓zds, ↓zdt, ↓zdu, ↓zdv, ↓zdw, ↓zdx, ↓zdy, ↓zdz, ↓zea, ↓zeb, ↓zec, ↓zed, ↓zee, zef, zeg, zeh, zei, zej, zek, zel, zem, zen, zeo, zep, zeq, zer, zes, zet, zeu, zev, zew, zex, zey, zez, zfa, zfb, zfc, zfd, zfe, zff, zfg, zfh, zfi, zfj, zfk, zfl, zfm, zfn, zfo, zfp, zfq, zfr, zfs, zft, zfu, zfv, zfw, zfx, zfy, zfz, zga, zgb, zgc, zgd, zge, zgf, zgg, zgh, zgi, zgj, zgk, zgl, zgm, zgn, zgo, zgp, zgq, zgr, zgs, zgt, zgu, zgv, zgw, zgx, zgy, zgz, zha, zhb, zhc, zhd, zhe, zhf, zhg, zhh, zhi, zhj, zhk, zhl, zhm, zhn, zho, zhp, zhq, zhr, zhs, zht, zhu, zhv, zhw, zhx, zhy, zhz, zia, zib, zic, zid, zie, zif, zig, zih, zii, zij, zik, zil, zim, zin, zio, zip, ziq, zir, zis, zit, ziu, ziv, ziw, Int.reduceBEq, Int.reduceLT, Int.reduceLE, Int.reduceNeg, Nat.reduceLeDiff, Nat.reduceAdd, Nat.reduceLT, Nat.reduceSub, reduceCtorEq, Wk.frE, ne_eq, reduceIte, ↓zLc, ↓zFor, ↓zWhl, hb, ok_ret]
    exact ⟨by omega, _, rfl, by omega, by omega⟩
def TimeofOk (f : List P → Cm P) : Prop := ∀ (t : Nat) (T : List (Nat × Nat)), Hands T → 0 < T.length → T.length ≤ 1000 → t + 6 ≤ 1000000 → (f [.pen, trP T]).ok t fun v t1 => t1 ≤ t + 6 ∧ ∃ i : Int, v = .int i ∧ -200000000000000000000000000000000000000000000 < i ∧ i < 200000000000000000000000000000000000000000000
/-- posts drawn below n -/
theorem asleep_ok (hd : DrOk (F c0)) (hn : 0 < n) (hn2 : n ≤ 1000) (ht : t + 8 ≤ 1000000) : (bodyP F G fr 5 (B_l_asleep c0) [.pen, .int n]).ok t fun v t1 => t1 ≤ t + 8 ∧ ∃ hs : List Nat, v = .tup (nsP hs) ∧ hs.length ≤ 6 ∧ ∀ x ∈ hs, x < n := by
  have main : ∀ (k u : Nat) (env : PEnv), k ≤ 6 → u + k ≤ t + 8 → env[0]? = some (some (.pen, false)) → env[1]? = some (some (.int n, false)) →
      (Cm.bd (fun ys => Cm.ret (P.tup ys)) (lcP (lcT F G (.name 4) .none (.call c0 (.cons (.var 0) (.cons (.var 1) .nil))) env) [] ((List.range k).map fun j => P.int (j : Nat)))).ok u fun v t1 => t1 ≤ t + 8 ∧ ∃ hs : List Nat, v = P.tup (nsP hs) ∧ hs.length ≤ 6 ∧ ∀ x ∈ hs, x < n := by
    intro k u env hk hu e0 e1
    rw [ok_bd]
    refine lc_ok (fun i acc v => v ≤ u + i ∧ ∃ hs : List Nat, acc = nsP hs ∧ hs.length = i ∧ ∀ x ∈ hs, x < n) ⟨by omega, [], rfl, rfl, fun x hx => nomatch hx⟩ (fun i x acc v hx hi => ?_) (fun acc v hi => ?_)
    · obtain ⟨hv, hs, rfl, hl, hb⟩ := hi
      have hik : i < k := by have := (List.getElem?_eq_some_iff.mp hx).1; simpa using this
      have f0 : (env.set 4 (some (x, false)))[0]? = some (some (P.pen, false)) := by rw [List.getElem?_set_ne (by decide)]; exact e0
      have f1 : (env.set 4 (some (x, false)))[1]? = some (some (P.int n, false)) := by rw [List.getElem?_set_ne (by decide)]; exact e1
      simp (disch := first | omega | assumption) only [zaa, zab, zac, zad, ↓zae, ↓zaf, ↓zag, ↓zah, ↓zai, zaj, ↓zak, ↓zal, ↓zam, zan, zao, zap, zaq, ↓zar, ↓zas, ↓zat, ↓zau, ↓zav, ↓zaw, ↓zax, ↓zay, ↓zaz, ↓zba, ↓zbb, ↓zbc, ↓zbd, ↓zbe, ↓zbf, ↓zbg, ↓zbh, ↓zbi, ↓zbj, ↓zbk, ↓zbl, ↓zbm, ↓zbn, ↓zbo, ↓zbp, ↓zbq, ↓zbr, ↓zbs, ↓zbt, ↓zbu, ↓zbv, ↓zbw, ↓zbx, ↓zby, ↓zbz, ↓zca, ↓zcb, ↓zcc, ↓zcd, ↓zce, ↓zcf, ↓zcg, ↓zch, ↓zci, ↓zcj, ↓zck, ↓zcl, ↓zcm, ↓zcn, ↓zco, ↓zcp, ↓zcq, ↓zcr, ↓zcs, ↓zct, ↓zcu, ↓zcv, ↓zcw, ↓zcx, ↓zcy, ↓zcz, ↓zda, ↓zdb, ↓zdc, ↓zdd, ↓zde, ↓zdf, ↓zdg, ↓zdh, ↓zdi, ↓zdj, ↓zdk, ↓zdl, ↓zdm, ↓zdn, ↓zdo, ↓zdp, ↓zdq, ↓zdr, ↓zds, ↓zdt, ↓zdu, ↓zdv, ↓zdw, ↓zdx, ↓zdy, ↓zdz, ↓zea, ↓zeb, ↓zec, ↓zed, ↓zee, zef, zeg, zeh, zei, zej, zek, zel, zem, zen, zeo, zep, zeq, zer, zes, zet, zeu, zev, zew, zex, zey, zez, zfa, zfb, zfc, zfd, zfe, zff, zfg, zfh, zfi, zfj, zfk, zfl, zfm, zfn, zfo, zfp, zfq, zfr, zfs, zft, zfu, zfv, zfw, zfx, zfy, zfz, zga, zgb, zgc, zgd, zge, zgf, zgg, zgh, zgi, zgj, zgk, zgl, zgm, zgn, zgo, zgp, zgq, zgr, zgs, zgt, zgu, zgv, zgw, zgx, zgy, zgz, zha, zhb, zhc, zhd, zhe, zhf, zhg, zhh, zhi, zhj, zhk, zhl, zhm, zhn, zho, zhp, zhq, zhr, zhs, zht, zhu, zhv, zhw, zhx, zhy, zhz, zia, zib, zic, zid, zie, zif, zig, zih, zii, zij, zik, zil, zim, zin, zio, zip, ziq, zir, zis, zit, ziu, ziv, ziw, Int.reduceBEq, Int.reduceLT, Int.reduceLE, Int.reduceNeg, Nat.reduceLeDiff, Nat.reduceAdd, Nat.reduceLT, Nat.reduceSub, reduceCtorEq, Wk.frE, ne_eq, reduceIte, ↓zLc, ↓zFor, ↓zWhl, lt_eq, f0, f1]
      refine dr_bind hd (by omega) (by omega) (by omega) fun a a0 a1 => ?_
      rw [ok_ret]
      refine ⟨by rw [ns_len, hl]; exact Nat.lt_of_lt_of_le (show i < 1000 by omega) (by decide), by omega, hs ++ [a.toNat], ?_, by rw [List.length_append, hl]; rfl, fun y hy => ?_⟩
      · unfold nsP; rw [List.map_append]
        simp only [List.map_cons, List.map_nil]
        rw [show ((a.toNat : Nat) : Int) = a by omega]
      · rcases List.mem_append.mp hy with hy | hy
        · exact hb y hy
        · rw [List.mem_singleton] at hy; omega
    · obtain ⟨hv, hs, rfl, hl, hb⟩ := hi
      rw [List.length_map, List.length_range] at hv hl
      exact ⟨by omega, hs, rfl, by omega, hb⟩
  simp (disch := first | omega | assumption) only [zaa, zab, zac, zad, ↓zae, ↓zaf, ↓zag, ↓zah, ↓zai, zaj, ↓zak, ↓zal, ↓zam, zan, zao, zap, zaq, ↓zar, ↓zas, ↓zat, ↓zau, ↓zav, ↓zaw, ↓zax, ↓zay, ↓zaz, ↓zba, ↓zbb, ↓zbc, ↓zbd, ↓zbe, ↓zbf, ↓zbg, ↓zbh, ↓zbi, ↓zbj, ↓zbk, ↓zbl, ↓zbm, ↓zbn, ↓zbo, ↓zbp, ↓zbq, ↓zbr, ↓zbs, ↓zbt, ↓zbu, ↓zbv, ↓zbw, ↓zbx, ↓zby, ↓zbz, ↓zca, ↓zcb, ↓zcc, ↓zcd, ↓zce, ↓zcf, ↓zcg, ↓zch, ↓zci, ↓zcj, ↓zck, ↓zcl, ↓zcm, ↓zcn, ↓zco, ↓zcp, ↓zcq, ↓zcr, ↓zcs, ↓zct, ↓zcu, ↓zcv, ↓zcw, ↓zcx, ↓zcy, ↓zcz, ↓zda, ↓zdb, ↓zdc, ↓zdd, ↓zde, ↓zdf, ↓zdg, ↓zdh, ↓zdi, ↓zdj, ↓zdk, ↓zdl, ↓zdm, ↓zdn, ↓zdo, ↓zdp, ↓zdq, ↓zdr, ↓zds, ↓zdt, ↓zdu, ↓zdv, ↓zdw, ↓zdx, ↓zdy, ↓zdz, ↓zea, ↓zeb, ↓zec, ↓zed, ↓zee, zef, zeg, zeh, zei, zej, zek, zel, zem, zen, zeo, zep, zeq, zer, zes, zet, zeu, zev, zew, zex, zey, zez, zfa, zfb, zfc, zfd, zfe, zff, zfg, zfh, zfi, zfj, zfk, zfl, zfm, zfn, zfo, zfp, zfq, zfr, zfs, zft, zfu, zfv, zfw, zfx, zfy, zfz, zga, zgb, zgc, zgd, zge, zgf, zgg, zgh, zgi, zgj, zgk, zgl, zgm, zgn, zgo, zgp, zgq, zgr, zgs, zgt, zgu, zgv, zgw, zgx, zgy, zgz, zha, zhb, zhc, zhd, zhe, zhf, zhg, zhh, zhi, zhj, zhk, zhl, zhm, zhn, zho, zhp, zhq, zhr, zhs, zht, zhu, zhv, zhw, zhx, zhy, zhz, zia, zib, zic, zid, zie, zif, zig, zih, zii, zij, zik, zil, zim, zin, zio, zip, ziq, zir, zis, zit, ziu, ziv, ziw, Int.reduceBEq, Int.reduceLT, Int.reduceLE, Int.reduceNeg, Nat.reduceLeDiff, Nat.reduceAdd, Nat.reduceLT, Nat.reduceSub, reduceCtorEq, Wk.frE, ne_eq, reduceIte, ↓zLc, ↓zFor, ↓zWhl, body_eq, B_l_asleep]
  refine dr_bind hd (by decide) (by decide) (by omega) fun way w0 w1 => ?_
  simp (disch := first | omega | assumption) only [zaa, zab, zac, zad, ↓zae, ↓zaf, ↓zag, ↓zah, ↓zai, zaj, ↓zak, ↓zal, ↓zam, zan, zao, zap, zaq, ↓zar, ↓zas, ↓zat, ↓zau, ↓zav, ↓zaw, ↓zax, ↓zay, ↓zaz, ↓zba, ↓zbb, ↓zbc, ↓zbd, ↓zbe, ↓zbf, ↓zbg, ↓zbh, ↓zbi, ↓zbj, ↓zbk, ↓zbl, ↓zbm, ↓zbn, ↓zbo, ↓zbp, ↓zbq, ↓zbr, ↓zbs, ↓zbt, ↓zbu, ↓zbv, ↓zbw, ↓zbx, ↓zby, ↓zbz, ↓zca, ↓zcb, ↓zcc, ↓zcd, ↓zce, ↓zcf, ↓zcg, ↓zch, ↓zci, ↓zcj, ↓zck, ↓zcl, ↓zcm, ↓zcn, ↓zco, ↓zcp, ↓zcq, ↓zcr, ↓zcs, ↓zct, ↓zcu, ↓zcv, ↓zcw, ↓zcx, ↓zcy, ↓zcz, ↓zda, ↓zdb, ↓zdc, ↓zdd, ↓zde, ↓zdf, ↓zdg, ↓zdh, ↓zdi, ↓zdj, ↓zdk, ↓zdl, ↓zdm, ↓zdn, ↓zdo, ↓zdp, ↓zdq, ↓zdr, ↓zds, ↓zdt, ↓zdu, ↓zdv, ↓zdw, ↓zdx, ↓zdy, ↓zdz, ↓zea, ↓zeb, ↓zec, ↓zed, ↓zee, zef, zeg, zeh, zei, zej, zek, zel, zem, zen, zeo, zep, zeq, zer, zes, zet, zeu, zev, zew, zex, zey, zez, zfa, zfb, zfc, zfd, zfe, zff, zfg, zfh, zfi, zfj, zfk, zfl, zfm, zfn, zfo, zfp, zfq, zfr, zfs, zft, zfu, zfv, zfw, zfx, zfy, zfz, zga, zgb, zgc, zgd, zge, zgf, zgg, zgh, zgi, zgj, zgk, zgl, zgm, zgn, zgo, zgp, zgq, zgr, zgs, zgt, zgu, zgv, zgw, zgx, zgy, zgz, zha, zhb, zhc, zhd, zhe, zhf, zhg, zhh, zhi, zhj, zhk, zhl, zhm, zhn, zho, zhp, zhq, zhr, zhs, zht, zhu, zhv, zhw, zhx, zhy, zhz, zia, zib, zic, zid, zie, zif, zig, zih, zii, zij, zik, zil, zim, zin, zio, zip, ziq, zir, zis, zit, ziu, ziv, ziw, Int.reduceBEq, Int.reduceLT, Int.reduceLE, Int.reduceNeg, Nat.reduceLeDiff, Nat.reduceAdd, Nat.reduceLT, Nat.reduceSub, reduceCtorEq, Wk.frE, ne_eq, reduceIte, ↓zLc, ↓zFor, ↓zWhl]
  refine dr_bind hd (by decide) (by decide) (by omega) fun b b0 b1 => ?_
  obtain ⟨k, hk, e⟩ : ∃ k : Nat, k ≤ 6 ∧ atI [P.int 0, .int 1, .int 2, .int (1 + b)] way = some (.int k) := by
    rcases (show way = 0 ∨ way = 1 ∨ way = 2 ∨ way = 3 by omega) with rfl | rfl | rfl | rfl
    · exact ⟨0, by omega, rfl⟩
    · exact ⟨1, by omega, rfl⟩
    · exact ⟨2, by omega, rfl⟩
    · exact ⟨(1 + b).toNat, by omega, by rw [show ((1 + b).toNat : Int) = 1 + b by omega]; rfl⟩
  simp (disch := first | omega | assumption) only [zaa, zab, zac, zad, ↓zae, ↓zaf, ↓zag, ↓zah, ↓zai, zaj, ↓zak, ↓zal, ↓zam, zan, zao, zap, zaq, ↓zar, ↓zas, ↓zat, ↓zau, ↓zav, ↓zaw, ↓zax, ↓zay, ↓zaz, ↓zba, ↓zbb, ↓zbc, ↓zbd, ↓zbe, ↓zbf, ↓zbg, ↓zbh, ↓zbi, ↓zbj, ↓zbk, ↓zbl, ↓zbm, ↓zbn, ↓zbo, ↓zbp, ↓zbq, ↓zbr, ↓zbs, ↓zbt, ↓zbu, ↓zbv, ↓zbw, ↓zbx, ↓zby, ↓zbz, ↓zca, ↓zcb, ↓zcc, ↓zcd, ↓zce, ↓zcf, ↓zcg, ↓zch, ↓zci, ↓zcj, ↓zck, ↓zcl, ↓zcm, ↓zcn, ↓zco, ↓zcp, ↓zcq, ↓zcr, ↓zcs, ↓zct, ↓zcu, ↓zcv, ↓zcw, ↓zcx, ↓zcy, ↓zcz, ↓zda, ↓zdb, ↓zdc, ↓zdd, ↓zde, ↓zdf, ↓zdg, ↓zdh, ↓zdi, ↓zdj, ↓zdk, ↓zdl, ↓zdm, ↓zdn, ↓zdo, ↓zdp, ↓zdq, ↓zdr, ↓zds, ↓zdt, ↓zdu, ↓zdv, ↓zdw, ↓zdx, ↓zdy, ↓zdz, ↓zea, ↓zeb, ↓zec, ↓zed, ↓zee, zef, zeg, zeh, zei, zej, zek, zel, zem, zen, zeo, zep, zeq, zer, zes, zet, zeu, zev, zew, zex, zey, zez, zfa, zfb, zfc, zfd, zfe, zff, zfg, zfh, zfi, zfj, zfk, zfl, zfm, zfn, zfo, zfp, zfq, zfr, zfs, zft, zfu, zfv, zfw, zfx, zfy, zfz, zga, zgb, zgc, zgd, zge, zgf, zgg, zgh, zgi, zgj, zgk, zgl, zgm, zgn, zgo, zgp, zgq, zgr, zgs, zgt, zgu, zgv, zgw, zgx, zgy, zgz, zha, zhb, zhc, zhd, zhe, zhf, zhg, zhh, zhi, zhj, zhk, zhl, zhm, zhn, zho, zhp, zhq, zhr, zhs, zht, zhu, zhv, zhw, zhx, zhy, zhz, zia, zib, zic, zid, zie, zif, zig, zih, zii, zij, zik, zil, zim, zin, zio, zip, ziq, zir, zis, zit, ziu, ziv, ziw, Int.reduceBEq, Int.reduceLT, Int.reduceLE, Int.reduceNeg, Nat.reduceLeDiff, Nat.reduceAdd, Nat.reduceLT, Nat.reduceSub, reduceCtorEq, Wk.frE, ne_eq, reduceIte, ↓zLc, ↓zFor, ↓zWhl, e, Int.toNat_natCast]
  exact main k _ _ hk (by omega) rfl rfl
def AsleepOk (f : List P → Cm P) : Prop := ∀ n t : Nat, 0 < n → n ≤ 1000 → t + 8 ≤ 1000000 → (f [.pen, .int n]).ok t fun v t1 => t1 ≤ t + 8 ∧ ∃ hs : List Nat, v = .tup (nsP hs) ∧ hs.length ≤ 6 ∧ ∀ x ∈ hs, x < n
end
end Wk

set_option Elab.async false
set_option linter.all false
set_option maxRecDepth 100000
set_option maxHeartbeats 4000000
namespace Wk
open PySem PySem.Spec PyProof.Rows L2
/-! ### stretches and turnings -/
def prP (p : Nat × Nat) : P := .tup [.int (p.1 : Nat), .int (p.2 : Nat)]
def stP (l : List (Nat × Nat)) : P := .lst (l.map prP)
/-- one sign more -/
def st1 (bs : List Bool) (f : List (Nat × Nat)) (i : Nat) : List (Nat × Nat) :=
  if bs.getD i false = true then
    if i = 0 ∨ bs.getD (i - 1) false = false then f ++ [(i, i)] else f.dropLast ++ [((f.getLastD (0, 0)).1, i)]
  else f
def stN (bs : List Bool) : Nat → List (Nat × Nat)
  | 0 => []
  | i + 1 => st1 bs (stN bs i) i
def stw (bs : List Bool) : List (Nat × Nat) := stN bs bs.length
theorem stN_last {bs : List Bool} : ∀ {i : Nat}, bs.getD i false = true → ∃ f a, stN bs (i + 1) = f ++ [(a, i)]
  | i, h => by
    show ∃ f a, st1 bs (stN bs i) i = _
    unfold st1
    rw [if_pos h]
    split
    · exact ⟨_, _, rfl⟩
    · exact ⟨_, _, rfl⟩
theorem stN_len {bs : List Bool} : ∀ {i : Nat}, (stN bs i).length ≤ i
  | 0 => Nat.le_refl _
  | i + 1 => by
    have ih := stN_len (bs := bs) (i := i)
    show (st1 bs (stN bs i) i).length ≤ i + 1
    unfold st1
    split
    · split
      · simp; omega
      · simp; omega
    · omega
theorem bits_zip {bs : List Bool} : (bitsS bs).cps.toList.zipIdx.map (fun p => P.tup [.int (p.2 : Nat), .str ⟨#[p.1]⟩]) = bs.zipIdx.map fun p => P.tup [.int (p.2 : Nat), .str (bitsS [p.1])] := by
  simp only [bitsS]
  rw [List.zipIdx_map, List.map_map]
  refine List.map_congr_left fun p _ => ?_
  obtain ⟨b, i⟩ := p
  cases b <;> rfl
theorem enS {bs : List Bool} : enP (.str (bitsS bs)) = .ret (bs.zipIdx.map fun p => P.tup [.int (p.2 : Nat), .str (bitsS [p.1])]) := by
  show Cm.ret _ = _
  rw [bits_zip]
theorem bits_beq {a b : List Bool} : (bitsS a == bitsS b) = (a == b) := by
  rw [Bool.eq_iff_iff, beq_iff_eq, beq_iff_eq]; exact bits_inj
theorem e_tt : (bitsS [true] == bitsS [true]) = true := by rw [bits_beq]; rfl
theorem e_ft : (bitsS [false] == bitsS [true]) = false := by rw [bits_beq]; rfl
theorem e_tf : (bitsS [true] == bitsS [false]) = false := by rw [bits_beq]; rfl
theorem e_ff : (bitsS [false] == bitsS [false]) = true := by rw [bits_beq]; rfl
theorem putP_last {f : List P} {x v : P} : putP (f ++ [x]) (.int (-1)) v = .ret (f ++ [v]) := by
  unfold putP
  have e : ixN (f ++ [x]).length (-1) = some f.length := by
    unfold ixN
    rw [if_neg (by decide), if_pos (by simp; omega)]
    simp; omega
  simp only [e]
  congr 1
  rw [List.set_append_right _ _ (Nat.le_refl _)]
  simp
theorem at_last {f : List P} {x : P} : atI (f ++ [x]) (-1) = some x := by
  unfold atI
  have e : ixN (f ++ [x]).length (-1) = some f.length := by
    unfold ixN
    rw [if_neg (by decide), if_pos (by simp; omega)]
    simp; omega
  rw [e]; simp
section
variable {F : POrc} {G : PShp} {fr : Nat → Bool} {bs : List Bool}
theorem stretches_in_ok (hl : bs.length ≤ 1000) : bodyP F G fr 4 B_stretches_in [.str (bitsS bs)] = .ret (stP (stw bs)) := by
  have loop : forP (foT F G fr (.tup (.cons (.name 2) (.cons (.name 3) .nil))) B_stretches_in_L0) [2, 3] (bs.zipIdx.map fun p => P.tup [.int (p.2 : Nat), .str (bitsS [p.1])]) [some (.str (bitsS bs), false), some (.lst [], true), none, none] = .ret (.nx [some (.str (bitsS bs), false), some (stP (stw bs), true), none, none]) := by
    refine ok_eq (t := 0) (for_ok (fun i env t => t = 0 ∧ env = [some (.str (bitsS bs), false), some (stP (stN bs i), true), none, none]) ⟨rfl, rfl⟩ (fun i x env t hx hi => ?_) (fun env t hi => ?_))
    · obtain ⟨rfl, rfl⟩ := hi
      rw [List.getElem?_map] at hx
      cases hp : bs.zipIdx[i]? with
      | none => rw [hp] at hx; cases hx
      | some p =>
        rw [hp] at hx; cases hx
        have hil : i < bs.length := by have := (List.getElem?_eq_some_iff.mp hp).1; simpa using this
        have hpe : p = (bs[i], i) := by
          rw [List.getElem?_zipIdx, List.getElem?_eq_getElem hil] at hp
          simp only [Option.map_some, Option.some.injEq, Nat.zero_add] at hp
          exact hp.symm
        subst hpe
        have hgd : bs.getD i false = bs[i] := by rw [List.getD_eq_getElem?_getD, List.getElem?_eq_getElem hil]; rfl
        have lenf : ((stN bs i).map prP).length < sizeLine := by
          rw [List.length_map]; exact Nat.lt_of_le_of_lt (Nat.le_trans stN_len (Nat.le_trans (Nat.le_of_lt hil) hl)) (by decide)
        show (foT F G fr _ B_stretches_in_L0 (P.tup [.int (i : Nat), .str (bitsS [bs[i]])]) _).ok 0 _
        have eS : stN bs (i + 1) = st1 bs (stN bs i) i := rfl
        cases hb : bs[i] with
        | false =>
          have e1 : stN bs (i + 1) = stN bs i := by rw [eS]; unfold st1; rw [hgd, hb]; rfl
          rw [e1]
          simp (disch := first | omega | assumption) only [zaa, zab, zac, zad, ↓zae, ↓zaf, ↓zag, ↓zah, ↓zai, zaj, ↓zak, ↓zal, ↓zam, zan, zao, zap, zaq, ↓zar, ↓zas, ↓zat, ↓zau, ↓zav, ↓zaw, ↓zax, ↓zay, ↓zaz, ↓zba, ↓zbb, ↓zbc, ↓zbd, ↓zbe, ↓zbf, ↓zbg, ↓zbh, ↓zbi, ↓zbj, ↓zbk, ↓zbl, ↓zbm, ↓zbn, ↓zbo, ↓zbp, ↓zbq, ↓zbr, ↓zbs, ↓zbt, ↓zbu, ↓zbv, ↓zbw, ↓zbx, ↓zby, ↓zbz, ↓zca, ↓zcb, ↓zcc, ↓zcd, ↓zce, ↓zcf, ↓zcg, ↓zch, ↓zci, ↓zcj, ↓zck, ↓zcl, ↓zcm, ↓zcn, ↓zco, ↓zcp, ↓zcq, ↓zcr, ↓zcs, ↓zct, ↓zcu, ↓zcv, ↓zcw, ↓zcx, ↓zcy, ↓zcz, ↓zda, ↓zdb, ↓zdc, ↓zdd, ↓zde, ↓zdf, ↓zdg, ↓zdh, ↓zdi, ↓zdj, ↓zdk, ↓zdl, ↓zdm, ↓zdn, ↓zdo, ↓zdp, ↓zdq, ↓zdr, ↓zds, ↓zdt, ↓zdu, ↓zdv, ↓zdw, ↓zdx, ↓zdy, ↓zdz, ↓zea, ↓zeb, ↓zec, ↓zed, ↓zee, zef, zeg, zeh, zei, zej, zek, zel, zem, zen, zeo, zep, zeq, zer, zes, zet, zeu, zev, zew, zex, zey, zez, zfa, zfb, zfc, zfd, zfe, zff, zfg, zfh, zfi, zfj, zfk, zfl, zfm, zfn, zfo, zfp, zfq, zfr, zfs, zft, zfu, zfv, zfw, zfx, zfy, zfz, zga, zgb, zgc, zgd, zge, zgf, zgg, zgh, zgi, zgj, zgk, zgl, zgm, zgn, zgo, zgp, zgq, zgr, zgs, zgt, zgu, zgv, zgw, zgx, zgy, zgz, zha, zhb, zhc, zhd, zhe, zhf, zhg, zhh, zhi, zhj, zhk, zhl, zhm, zhn, zho, zhp, zhq, zhr, zhs, zht, zhu, zhv, zhw, zhx, zhy, zhz, zia, zib, zic, zid, zie, zif, zig, zih, zii, zij, zik, zil, zim, zin, zio, zip, ziq, zir, zis, zit, ziu, ziv, ziw, Int.reduceBEq, Int.reduceLT, Int.reduceLE, Int.reduceNeg, Nat.reduceLeDiff, Nat.reduceAdd, Nat.reduceLT, Nat.reduceSub, reduceCtorEq, Wk.frE, ne_eq, reduceIte, ↓zLc, ↓zFor, ↓zWhl, fo_eq, B_stretches_in_L0, s_one, e_ft, ok_ret]
        | true =>
          rw [hb] at hgd
          by_cases h0 : i = 0
          · subst h0
            have e1 : stN bs (0 + 1) = [(0, 0)] := by rw [eS]; unfold st1; rw [if_pos hgd, if_pos (.inl rfl)]; rfl
            have e2 : stP (stN bs 0) = .lst [] := rfl
            have e3 : (((0 : Nat) : Int) == 0) = true := rfl
            rw [e1, e2]
            have ap : chgP .append [] [P.tup [.int ((0 : Nat) : Int), .int ((0 : Nat) : Int)]] = .ret [P.tup [.int ((0 : Nat) : Int), .int ((0 : Nat) : Int)]] := by rw [q_app (by decide)]; rfl
            simp (disch := first | omega | assumption) only [zaa, zab, zac, zad, ↓zae, ↓zaf, ↓zag, ↓zah, ↓zai, zaj, ↓zak, ↓zal, ↓zam, zan, zao, zap, zaq, ↓zar, ↓zas, ↓zat, ↓zau, ↓zav, ↓zaw, ↓zax, ↓zay, ↓zaz, ↓zba, ↓zbb, ↓zbc, ↓zbd, ↓zbe, ↓zbf, ↓zbg, ↓zbh, ↓zbi, ↓zbj, ↓zbk, ↓zbl, ↓zbm, ↓zbn, ↓zbo, ↓zbp, ↓zbq, ↓zbr, ↓zbs, ↓zbt, ↓zbu, ↓zbv, ↓zbw, ↓zbx, ↓zby, ↓zbz, ↓zca, ↓zcb, ↓zcc, ↓zcd, ↓zce, ↓zcf, ↓zcg, ↓zch, ↓zci, ↓zcj, ↓zck, ↓zcl, ↓zcm, ↓zcn, ↓zco, ↓zcp, ↓zcq, ↓zcr, ↓zcs, ↓zct, ↓zcu, ↓zcv, ↓zcw, ↓zcx, ↓zcy, ↓zcz, ↓zda, ↓zdb, ↓zdc, ↓zdd, ↓zde, ↓zdf, ↓zdg, ↓zdh, ↓zdi, ↓zdj, ↓zdk, ↓zdl, ↓zdm, ↓zdn, ↓zdo, ↓zdp, ↓zdq, ↓zdr, ↓zds, ↓zdt, ↓zdu, ↓zdv, ↓zdw, ↓zdx, ↓zdy, ↓zdz, ↓zea, ↓zeb, ↓zec, ↓zed, ↓zee, zef, zeg, zeh, zei, zej, zek, zel, zem, zen, zeo, zep, zeq, zer, zes, zet, zeu, zev, zew, zex, zey, zez, zfa, zfb, zfc, zfd, zfe, zff, zfg, zfh, zfi, zfj, zfk, zfl, zfm, zfn, zfo, zfp, zfq, zfr, zfs, zft, zfu, zfv, zfw, zfx, zfy, zfz, zga, zgb, zgc, zgd, zge, zgf, zgg, zgh, zgi, zgj, zgk, zgl, zgm, zgn, zgo, zgp, zgq, zgr, zgs, zgt, zgu, zgv, zgw, zgx, zgy, zgz, zha, zhb, zhc, zhd, zhe, zhf, zhg, zhh, zhi, zhj, zhk, zhl, zhm, zhn, zho, zhp, zhq, zhr, zhs, zht, zhu, zhv, zhw, zhx, zhy, zhz, zia, zib, zic, zid, zie, zif, zig, zih, zii, zij, zik, zil, zim, zin, zio, zip, ziq, zir, zis, zit, ziu, ziv, ziw, Int.reduceBEq, Int.reduceLT, Int.reduceLE, Int.reduceNeg, Nat.reduceLeDiff, Nat.reduceAdd, Nat.reduceLT, Nat.reduceSub, reduceCtorEq, Wk.frE, ne_eq, reduceIte, ↓zLc, ↓zFor, ↓zWhl, fo_eq, B_stretches_in_L0, s_one, e_tt, e3, ap, stP, prP, ok_ret]
          · have n0 : ((i : Int) == 0) = false := beq_eq_false_iff_ne.mpr (by omega)
            have hi1 : i - 1 < bs.length := by omega
            have hgp : bs.getD (i - 1) false = bs[i - 1] := by rw [List.getD_eq_getElem?_getD, List.getElem?_eq_getElem hi1]; rfl
            have ix : ixP (.str (bitsS bs)) (.int ((i : Int) - 1)) = .ret (.str (bitsS [bs[i - 1]])) := by
              rw [bits_ix hl, show ((i : Int) - 1) = ((i - 1 : Nat) : Int) by omega, atI_nat', List.getElem?_eq_getElem hi1]; rfl
            cases hp : bs[i - 1] with
            | false =>
              rw [hp] at ix hgp
              have e1 : stN bs (i + 1) = stN bs i ++ [(i, i)] := by rw [eS]; unfold st1; rw [if_pos hgd, if_pos (.inr hgp)]
              rw [e1]
              have ap : chgP .append ((stN bs i).map prP) [P.tup [.int (i : Int), .int (i : Int)]] = .ret ((stN bs i ++ [(i, i)]).map prP) := by rw [q_app lenf, List.map_append]; rfl
              simp (disch := first | omega | assumption) only [zaa, zab, zac, zad, ↓zae, ↓zaf, ↓zag, ↓zah, ↓zai, zaj, ↓zak, ↓zal, ↓zam, zan, zao, zap, zaq, ↓zar, ↓zas, ↓zat, ↓zau, ↓zav, ↓zaw, ↓zax, ↓zay, ↓zaz, ↓zba, ↓zbb, ↓zbc, ↓zbd, ↓zbe, ↓zbf, ↓zbg, ↓zbh, ↓zbi, ↓zbj, ↓zbk, ↓zbl, ↓zbm, ↓zbn, ↓zbo, ↓zbp, ↓zbq, ↓zbr, ↓zbs, ↓zbt, ↓zbu, ↓zbv, ↓zbw, ↓zbx, ↓zby, ↓zbz, ↓zca, ↓zcb, ↓zcc, ↓zcd, ↓zce, ↓zcf, ↓zcg, ↓zch, ↓zci, ↓zcj, ↓zck, ↓zcl, ↓zcm, ↓zcn, ↓zco, ↓zcp, ↓zcq, ↓zcr, ↓zcs, ↓zct, ↓zcu, ↓zcv, ↓zcw, ↓zcx, ↓zcy, ↓zcz, ↓zda, ↓zdb, ↓zdc, ↓zdd, ↓zde, ↓zdf, ↓zdg, ↓zdh, ↓zdi, ↓zdj, ↓zdk, ↓zdl, ↓zdm, ↓zdn, ↓zdo, ↓zdp, ↓zdq, ↓zdr, ↓zds, ↓zdt, ↓zdu, ↓zdv, ↓zdw, ↓zdx, ↓zdy, ↓zdz, ↓zea, ↓zeb, ↓zec, ↓zed, ↓zee, zef, zeg, zeh, zei, zej, zek, zel, zem, zen, zeo, zep, zeq, zer, zes, zet, zeu, zev, zew, zex, zey, zez, zfa, zfb, zfc, zfd, zfe, zff, zfg, zfh, zfi, zfj, zfk, zfl, zfm, zfn, zfo, zfp, zfq, zfr, zfs, zft, zfu, zfv, zfw, zfx, zfy, zfz, zga, zgb, zgc, zgd, zge, zgf, zgg, zgh, zgi, zgj, zgk, zgl, zgm, zgn, zgo, zgp, zgq, zgr, zgs, zgt, zgu, zgv, zgw, zgx, zgy, zgz, zha, zhb, zhc, zhd, zhe, zhf, zhg, zhh, zhi, zhj, zhk, zhl, zhm, zhn, zho, zhp, zhq, zhr, zhs, zht, zhu, zhv, zhw, zhx, zhy, zhz, zia, zib, zic, zid, zie, zif, zig, zih, zii, zij, zik, zil, zim, zin, zio, zip, ziq, zir, zis, zit, ziu, ziv, ziw, Int.reduceBEq, Int.reduceLT, Int.reduceLE, Int.reduceNeg, Nat.reduceLeDiff, Nat.reduceAdd, Nat.reduceLT, Nat.reduceSub, reduceCtorEq, Wk.frE, ne_eq, reduceIte, ↓zLc, ↓zFor, ↓zWhl, fo_eq, B_stretches_in_L0, s_one, s_zero, e_tt, e_ff, n0, ix, ap, stP, ok_ret]
            | true =>
              rw [hp] at ix hgp
              obtain ⟨f, a, ef⟩ := stN_last (bs := bs) (i := i - 1) hgp
              rw [show i - 1 + 1 = i by omega] at ef
              have e1 : stN bs (i + 1) = f ++ [(a, i)] := by
                rw [eS]; unfold st1; rw [if_pos hgd, if_neg (by rw [hgp]; simp [h0]), ef]; simp
              rw [e1, ef]
              have g1 : stP (f ++ [(a, i - 1)]) = .lst (f.map prP ++ [prP (a, i - 1)]) := by unfold stP; rw [List.map_append]; rfl
              have g2 : stP (f ++ [(a, i)]) = .lst (f.map prP ++ [prP (a, i)]) := by unfold stP; rw [List.map_append]; rfl
              rw [g1, g2]
              have p2 : ∀ v, putP (f.map prP ++ [prP (a, i - 1)]) (.int (-1)) v = .ret (f.map prP ++ [v]) := fun v => putP_last
              have l2 : atI (f.map prP ++ [prP (a, i - 1)]) (-1) = some (prP (a, i - 1)) := at_last
              generalize f.map prP ++ [prP (a, i - 1)] = gl at p2 l2
              simp (disch := first | omega | assumption) only [zaa, zab, zac, zad, ↓zae, ↓zaf, ↓zag, ↓zah, ↓zai, zaj, ↓zak, ↓zal, ↓zam, zan, zao, zap, zaq, ↓zar, ↓zas, ↓zat, ↓zau, ↓zav, ↓zaw, ↓zax, ↓zay, ↓zaz, ↓zba, ↓zbb, ↓zbc, ↓zbd, ↓zbe, ↓zbf, ↓zbg, ↓zbh, ↓zbi, ↓zbj, ↓zbk, ↓zbl, ↓zbm, ↓zbn, ↓zbo, ↓zbp, ↓zbq, ↓zbr, ↓zbs, ↓zbt, ↓zbu, ↓zbv, ↓zbw, ↓zbx, ↓zby, ↓zbz, ↓zca, ↓zcb, ↓zcc, ↓zcd, ↓zce, ↓zcf, ↓zcg, ↓zch, ↓zci, ↓zcj, ↓zck, ↓zcl, ↓zcm, ↓zcn, ↓zco, ↓zcp, ↓zcq, ↓zcr, ↓zcs, ↓zct, ↓zcu, ↓zcv, ↓zcw, ↓zcx, ↓zcy, ↓zcz, ↓zda, ↓zdb, ↓zdc, ↓zdd, ↓zde, ↓zdf, ↓zdg, ↓zdh, ↓zdi, ↓zdj, ↓zdk, ↓zdl, ↓zdm, ↓zdn, ↓zdo, ↓zdp, ↓zdq, ↓zdr, ↓zds, ↓zdt, ↓zdu, ↓zdv, ↓zdw, ↓zdx, ↓zdy, ↓zdz, ↓zea, ↓zeb, ↓zec, ↓zed, ↓zee, zef, zeg, zeh, zei, zej, zek, zel, zem, zen, zeo, zep, zeq, zer, zes, zet, zeu, zev, zew, zex, zey, zez, zfa, zfb, zfc, zfd, zfe, zff, zfg, zfh, zfi, zfj, zfk, zfl, zfm, zfn, zfo, zfp, zfq, zfr, zfs, zft, zfu, zfv, zfw, zfx, zfy, zfz, zga, zgb, zgc, zgd, zge, zgf, zgg, zgh, zgi, zgj, zgk, zgl, zgm, zgn, zgo, zgp, zgq, zgr, zgs, zgt, zgu, zgv, zgw, zgx, zgy, zgz, zha, zhb, zhc, zhd, zhe, zhf, zhg, zhh, zhi, zhj, zhk, zhl, zhm, zhn, zho, zhp, zhq, zhr, zhs, zht, zhu, zhv, zhw, zhx, zhy, zhz, zia, zib, zic, zid, zie, zif, zig, zih, zii, zij, zik, zil, zim, zin, zio, zip, ziq, zir, zis, zit, ziu, ziv, ziw, Int.reduceBEq, Int.reduceLT, Int.reduceLE, Int.reduceNeg, Nat.reduceLeDiff, Nat.reduceAdd, Nat.reduceLT, Nat.reduceSub, reduceCtorEq, Wk.frE, ne_eq, reduceIte, ↓zLc, ↓zFor, ↓zWhl, fo_eq, B_stretches_in_L0, s_one, s_zero, e_tt, e_tf, e_ft, n0, ix, p2, l2, prP, pa0, ok_ret]
    · obtain ⟨rfl, rfl⟩ := hi
      rw [List.length_map, List.length_zipIdx]
      exact ⟨rfl, rfl⟩
  simp (disch := first | omega | assumption) only [zaa, zab, zac, zad, ↓zae, ↓zaf, ↓zag, ↓zah, ↓zai, zaj, ↓zak, ↓zal, ↓zam, zan, zao, zap, zaq, ↓zar, ↓zas, ↓zat, ↓zau, ↓zav, ↓zaw, ↓zax, ↓zay, ↓zaz, ↓zba, ↓zbb, ↓zbc, ↓zbd, ↓zbe, ↓zbf, ↓zbg, ↓zbh, ↓zbi, ↓zbj, ↓zbk, ↓zbl, ↓zbm, ↓zbn, ↓zbo, ↓zbp, ↓zbq, ↓zbr, ↓zbs, ↓zbt, ↓zbu, ↓zbv, ↓zbw, ↓zbx, ↓zby, ↓zbz, ↓zca, ↓zcb, ↓zcc, ↓zcd, ↓zce, ↓zcf, ↓zcg, ↓zch, ↓zci, ↓zcj, ↓zck, ↓zcl, ↓zcm, ↓zcn, ↓zco, ↓zcp, ↓zcq, ↓zcr, ↓zcs, ↓zct, ↓zcu, ↓zcv, ↓zcw, ↓zcx, ↓zcy, ↓zcz, ↓zda, ↓zdb, ↓zdc, ↓zdd, ↓zde, ↓zdf, ↓zdg, ↓zdh, ↓zdi, ↓zdj, ↓zdk, ↓zdl, ↓zdm, ↓zdn, ↓zdo, ↓zdp, ↓zdq, ↓zdr, ↓zds, ↓zdt, ↓zdu, ↓zdv, ↓zdw, ↓zdx, ↓zdy, ↓zdz, ↓zea, ↓zeb, ↓zec, ↓zed, ↓zee, zef, zeg, zeh, zei, zej, zek, zel, zem, zen, zeo, zep, zeq, zer, zes, zet, zeu, zev, zew, zex, zey, zez, zfa, zfb, zfc, zfd, zfe, zff, zfg, zfh, zfi, zfj, zfk, zfl, zfm, zfn, zfo, zfp, zfq, zfr, zfs, zft, zfu, zfv, zfw, zfx, zfy, zfz, zga, zgb, zgc, zgd, zge, zgf, zgg, zgh, zgi, zgj, zgk, zgl, zgm, zgn, zgo, zgp, zgq, zgr, zgs, zgt, zgu, zgv, zgw, zgx, zgy, zgz, zha, zhb, zhc, zhd, zhe, zhf, zhg, zhh, zhi, zhj, zhk, zhl, zhm, zhn, zho, zhp, zhq, zhr, zhs, zht, zhu, zhv, zhw, zhx, zhy, zhz, zia, zib, zic, zid, zie, zif, zig, zih, zii, zij, zik, zil, zim, zin, zio, zip, ziq, zir, zis, zit, ziu, ziv, ziw, Int.reduceBEq, Int.reduceLT, Int.reduceLE, Int.reduceNeg, Nat.reduceLeDiff, Nat.reduceAdd, Nat.reduceLT, Nat.reduceSub, reduceCtorEq, Wk.frE, ne_eq, reduceIte, ↓zLc, ↓zFor, ↓zWhl, body_eq, B_stretches_in, enS, loop, stP]
def StrOk (f : List P → Cm P) : Prop := ∀ bs : List Bool, bs.length ≤ 1000 → f [.str (bitsS bs)] = .ret (stP (stw bs))
theorem stretches_ok {c0 c1 h0 : Nat} (h1 : StrOk (F c0)) (h2 : HeardOk (F c1)) (hs0 : ∀ a b c d : P, G.shp h0 [a, b, c] [d] = [a, b, c, d]) {T : List (Nat × Nat)} {r : List Nat} {b : Int} {hs : List Nat} (hT : Hands T) (hr : ∀ x ∈ r, x < T.length) (hl : r.length ≤ 1000) :
    bodyP F G fr 4 (B_stretches c0 c1 h0) [trP T, rowP r, .int b, .tup (nsP hs)] = .ret (stP (stw (sig T r b hs))) := by
  have e := h2 T r b hs hT hr hl
  have e2 := h1 (sig T r b hs) (by rw [sig_len]; exact hl)
  simp (disch := first | omega | assumption) only [zaa, zab, zac, zad, ↓zae, ↓zaf, ↓zag, ↓zah, ↓zai, zaj, ↓zak, ↓zal, ↓zam, zan, zao, zap, zaq, ↓zar, ↓zas, ↓zat, ↓zau, ↓zav, ↓zaw, ↓zax, ↓zay, ↓zaz, ↓zba, ↓zbb, ↓zbc, ↓zbd, ↓zbe, ↓zbf, ↓zbg, ↓zbh, ↓zbi, ↓zbj, ↓zbk, ↓zbl, ↓zbm, ↓zbn, ↓zbo, ↓zbp, ↓zbq, ↓zbr, ↓zbs, ↓zbt, ↓zbu, ↓zbv, ↓zbw, ↓zbx, ↓zby, ↓zbz, ↓zca, ↓zcb, ↓zcc, ↓zcd, ↓zce, ↓zcf, ↓zcg, ↓zch, ↓zci, ↓zcj, ↓zck, ↓zcl, ↓zcm, ↓zcn, ↓zco, ↓zcp, ↓zcq, ↓zcr, ↓zcs, ↓zct, ↓zcu, ↓zcv, ↓zcw, ↓zcx, ↓zcy, ↓zcz, ↓zda, ↓zdb, ↓zdc, ↓zdd, ↓zde, ↓zdf, ↓zdg, ↓zdh, ↓zdi, ↓zdj, ↓zdk, ↓zdl, ↓zdm, ↓zdn, ↓zdo, ↓zdp, ↓zdq, ↓zdr, ↓zds, ↓zdt, ↓zdu, ↓zdv, ↓zdw, ↓zdx, ↓zdy, ↓zdz, ↓zea, ↓zeb, ↓zec, ↓zed, ↓zee, zef, zeg, zeh, zei, zej, zek, zel, zem, zen, zeo, zep, zeq, zer, zes, zet, zeu, zev, zew, zex, zey, zez, zfa, zfb, zfc, zfd, zfe, zff, zfg, zfh, zfi, zfj, zfk, zfl, zfm, zfn, zfo, zfp, zfq, zfr, zfs, zft, zfu, zfv, zfw, zfx, zfy, zfz, zga, zgb, zgc, zgd, zge, zgf, zgg, zgh, zgi, zgj, zgk, zgl, zgm, zgn, zgo, zgp, zgq, zgr, zgs, zgt, zgu, zgv, zgw, zgx, zgy, zgz, zha, zhb, zhc, zhd, zhe, zhf, zhg, zhh, zhi, zhj, zhk, zhl, zhm, zhn, zho, zhp, zhq, zhr, zhs, zht, zhu, zhv, zhw, zhx, zhy, zhz, zia, zib, zic, zid, zie, zif, zig, zih, zii, zij, zik, zil, zim, zin, zio, zip, ziq, zir, zis, zit, ziu, ziv, ziw, Int.reduceBEq, Int.reduceLT, Int.reduceLE, Int.reduceNeg, Nat.reduceLeDiff, Nat.reduceAdd, Nat.reduceLT, Nat.reduceSub, reduceCtorEq, Wk.frE, ne_eq, reduceIte, ↓zLc, ↓zFor, ↓zWhl, body_eq, B_stretches, hs0, e, e2]
/-! ### rows turned by words -/
def tb1 {α : Type} (r : List α) (p : Nat × Nat) : List α := r.take p.1 ++ ((r.drop p.1).take (p.2 + 1 - p.1)).reverse ++ r.drop (p.2 + 1)
def tbw {α : Type} (r : List α) (bs : List Bool) : List α := (stw bs).foldl tb1 r
theorem tb1_map {α β : Type} {f : α → β} {r : List α} {p : Nat × Nat} : tb1 (r.map f) p = (tb1 r p).map f := by
  unfold tb1; simp [List.map_take, List.map_drop, List.map_reverse]
theorem tbw_map {α β : Type} {f : α → β} {r : List α} {bs : List Bool} : tbw (r.map f) bs = (tbw r bs).map f := by
  unfold tbw
  induction stw bs generalizing r with
  | nil => rfl
  | cons p l ih => rw [List.foldl_cons, List.foldl_cons, tb1_map, ih]
theorem tb1_len {α : Type} {r : List α} {p : Nat × Nat} (h1 : p.1 ≤ p.2) (h2 : p.2 < r.length) : (tb1 r p).length = r.length := by
  unfold tb1; simp; omega
theorem stN_in {bs : List Bool} : ∀ {i : Nat}, i ≤ bs.length → ∀ p ∈ stN bs i, p.1 ≤ p.2 ∧ p.2 < i
  | 0, _, p, hp => nomatch hp
  | i + 1, hi, p, hp => by
    have ih := stN_in (bs := bs) (i := i) (by omega)
    have hp : p ∈ st1 bs (stN bs i) i := hp
    unfold st1 at hp
    split at hp
    · rename_i hb
      split at hp
      · rcases List.mem_append.mp hp with hp | hp
        · have := ih p hp; omega
        · rw [List.mem_singleton] at hp; subst hp; exact ⟨Nat.le_refl _, Nat.lt_succ_self _⟩
      · rename_i hn
        have hn : i ≠ 0 ∧ bs.getD (i - 1) false = true := by
          constructor
          · intro h; exact hn (.inl h)
          · cases h : bs.getD (i - 1) false with
            | true => rfl
            | false => exact absurd (.inr h) hn
        obtain ⟨f, a, ef⟩ := stN_last hn.2
        rw [show i - 1 + 1 = i by omega] at ef
        rw [ef] at hp ih
        simp only [List.dropLast_concat, List.getLastD_concat] at hp
        rcases List.mem_append.mp hp with hp | hp
        · have := ih p (List.mem_append_left _ hp); omega
        · rw [List.mem_singleton] at hp; subst hp
          have := ih (a, i - 1) (List.mem_append_right _ (List.mem_singleton.mpr rfl))
          exact ⟨by have := this.1; show a ≤ i; have : a ≤ i - 1 := this; omega, Nat.lt_succ_self _⟩
    · have := ih p hp; omega
theorem stw_in {p : Nat × Nat} (h : p ∈ stw bs) : p.1 ≤ p.2 ∧ p.2 < bs.length := stN_in (Nat.le_refl _) p h
theorem tbw_len {α : Type} {r : List α} (h : r.length = bs.length) : (tbw r bs).length = r.length := by
  unfold tbw
  have : ∀ (l : List (Nat × Nat)) (r : List α), r.length = bs.length → (∀ p ∈ l, p.1 ≤ p.2 ∧ p.2 < bs.length) → (l.foldl tb1 r).length = r.length := by
    intro l
    induction l with
    | nil => intro r _ _; rfl
    | cons p l ih =>
      intro r hr hp
      have q := hp p List.mem_cons_self
      have e := tb1_len (r := r) q.1 (by omega)
      rw [List.foldl_cons, ih _ (by omega) (fun x hx => hp x (List.mem_cons_of_mem _ hx)), e]
  exact this _ r h fun p hp => stw_in hp
theorem cutG_a {α : Type} {xs : List α} {n : Nat} : cutG xs none (some (n : Int)) = xs.take n := by
  unfold cutG
  rw [HT.sIx_none, HT.sIx_nat, List.drop_zero, Nat.sub_zero]
  by_cases h : n ≤ xs.length
  · rw [Nat.min_eq_left h]
  · rw [Nat.min_eq_right (by omega), List.take_of_length_le (Nat.le_refl _), List.take_of_length_le (by omega)]
theorem cutG_b {α : Type} {xs : List α} {n : Nat} : cutG xs (some (n : Int)) none = xs.drop n := by
  unfold cutG
  rw [HT.sIx_none, HT.sIx_nat]
  by_cases h : n ≤ xs.length
  · rw [Nat.min_eq_left h, List.take_of_length_le (by simp)]
  · rw [Nat.min_eq_right (by omega), List.drop_of_length_le (Nat.le_refl _), List.drop_of_length_le (by omega)]; simp
theorem cutG_c {α : Type} {xs : List α} {n m : Nat} (h : m ≤ xs.length) (hn : n ≤ m) : cutG xs (some (n : Int)) (some (m : Int)) = (xs.drop n).take (m - n) := by
  unfold cutG
  rw [HT.sIx_nat, HT.sIx_nat, Nat.min_eq_left h, Nat.min_eq_left (by omega)]
theorem turned_by_ok {c0 : Nat} (h1 : StrOk (F c0)) {vs : List P} (hl : vs.length = bs.length) (hl2 : bs.length ≤ 1000) : bodyP F G fr 4 (B_turned_by c0) [.tup vs, .str (bitsS bs)] = .ret (.tup (tbw vs bs)) := by
  have loop : ∀ (l : List (Nat × Nat)) (vs : List P), vs.length = bs.length → (∀ p ∈ l, p.1 ≤ p.2 ∧ p.2 < bs.length) → forP (foT F G fr (.tup (.cons (.name 2) (.cons (.name 3) .nil))) (B_turned_by_L0 c0)) [2, 3] (l.map prP) [some (.tup vs, false), some (.str (bitsS bs), false), none, none] = .ret (.nx [some (.tup (l.foldl tb1 vs), false), some (.str (bitsS bs), false), none, none]) := by
    intro l
    induction l with
    | nil => intro vs _ _; rfl
    | cons p l ih =>
      intro vs hv hp
      obtain ⟨p1, p2⟩ := hp p List.mem_cons_self
      have ih := ih (tb1 vs p) (by rw [tb1_len p1 (by omega)]; exact hv) fun x hx => hp x (List.mem_cons_of_mem _ hx)
      rw [List.map_cons, List.foldl_cons, ← ih]
      obtain ⟨a, b⟩ := p
      have p1 : a ≤ b := p1
      have p2 : b < bs.length := p2
      have e0 : ((b : Int) + 1) = ((b + 1 : Nat) : Int) := by omega
      have a1 : binP .add (.tup (vs.take a)) (.tup ((vs.drop a).take (b + 1 - a)).reverse) = .ret (.tup (vs.take a ++ ((vs.drop a).take (b + 1 - a)).reverse)) := q_addT (by simp; exact Nat.le_trans (by omega : _ ≤ 2000) (by decide))
      have a2 : binP .add (.tup (vs.take a ++ ((vs.drop a).take (b + 1 - a)).reverse)) (.tup (vs.drop (b + 1))) = .ret (.tup (tb1 vs (a, b))) := q_addT (by simp; exact Nat.le_trans (by omega : _ ≤ 3000) (by decide))
      have c3 := cutG_c (xs := vs) (n := a) (m := b + 1) (by omega) (by omega)
      have st : foT F G fr (.tup (.cons (.name 2) (.cons (.name 3) .nil))) (B_turned_by_L0 c0) (prP (a, b)) [some (.tup vs, false), some (.str (bitsS bs), false), none, none] = .ret (.nx [some (.tup (tb1 vs (a, b)), false), some (.str (bitsS bs), false), some (.int (a : Nat), false), some (.int (b : Nat), false)]) := by
        simp (disch := first | omega | assumption) only [zaa, zab, zac, zad, ↓zae, ↓zaf, ↓zag, ↓zah, ↓zai, zaj, ↓zak, ↓zal, ↓zam, zan, zao, zap, zaq, ↓zar, ↓zas, ↓zat, ↓zau, ↓zav, ↓zaw, ↓zax, ↓zay, ↓zaz, ↓zba, ↓zbb, ↓zbc, ↓zbd, ↓zbe, ↓zbf, ↓zbg, ↓zbh, ↓zbi, ↓zbj, ↓zbk, ↓zbl, ↓zbm, ↓zbn, ↓zbo, ↓zbp, ↓zbq, ↓zbr, ↓zbs, ↓zbt, ↓zbu, ↓zbv, ↓zbw, ↓zbx, ↓zby, ↓zbz, ↓zca, ↓zcb, ↓zcc, ↓zcd, ↓zce, ↓zcf, ↓zcg, ↓zch, ↓zci, ↓zcj, ↓zck, ↓zcl, ↓zcm, ↓zcn, ↓zco, ↓zcp, ↓zcq, ↓zcr, ↓zcs, ↓zct, ↓zcu, ↓zcv, ↓zcw, ↓zcx, ↓zcy, ↓zcz, ↓zda, ↓zdb, ↓zdc, ↓zdd, ↓zde, ↓zdf, ↓zdg, ↓zdh, ↓zdi, ↓zdj, ↓zdk, ↓zdl, ↓zdm, ↓zdn, ↓zdo, ↓zdp, ↓zdq, ↓zdr, ↓zds, ↓zdt, ↓zdu, ↓zdv, ↓zdw, ↓zdx, ↓zdy, ↓zdz, ↓zea, ↓zeb, ↓zec, ↓zed, ↓zee, zef, zeg, zeh, zei, zej, zek, zel, zem, zen, zeo, zep, zeq, zer, zes, zet, zeu, zev, zew, zex, zey, zez, zfa, zfb, zfc, zfd, zfe, zff, zfg, zfh, zfi, zfj, zfk, zfl, zfm, zfn, zfo, zfp, zfq, zfr, zfs, zft, zfu, zfv, zfw, zfx, zfy, zfz, zga, zgb, zgc, zgd, zge, zgf, zgg, zgh, zgi, zgj, zgk, zgl, zgm, zgn, zgo, zgp, zgq, zgr, zgs, zgt, zgu, zgv, zgw, zgx, zgy, zgz, zha, zhb, zhc, zhd, zhe, zhf, zhg, zhh, zhi, zhj, zhk, zhl, zhm, zhn, zho, zhp, zhq, zhr, zhs, zht, zhu, zhv, zhw, zhx, zhy, zhz, zia, zib, zic, zid, zie, zif, zig, zih, zii, zij, zik, zil, zim, zin, zio, zip, ziq, zir, zis, zit, ziu, ziv, ziw, Int.reduceBEq, Int.reduceLT, Int.reduceLE, Int.reduceNeg, Nat.reduceLeDiff, Nat.reduceAdd, Nat.reduceLT, Nat.reduceSub, reduceCtorEq, Wk.frE, ne_eq, reduceIte, ↓zLc, ↓zFor, ↓zWhl, fo_eq, B_turned_by_L0, prP, e0, cutG_a, cutG_b, c3, a1, a2]
      show (foT F G fr _ (B_turned_by_L0 c0) (prP (a, b)) _).bind _ = _
      rw [st, bd_ret]
      dsimp only
      congr 1
  have q := h1 bs hl2
  have lp := loop (stw bs) vs hl fun p hp => stw_in hp
  simp (disch := first | omega | assumption) only [zaa, zab, zac, zad, ↓zae, ↓zaf, ↓zag, ↓zah, ↓zai, zaj, ↓zak, ↓zal, ↓zam, zan, zao, zap, zaq, ↓zar, ↓zas, ↓zat, ↓zau, ↓zav, ↓zaw, ↓zax, ↓zay, ↓zaz, ↓zba, ↓zbb, ↓zbc, ↓zbd, ↓zbe, ↓zbf, ↓zbg, ↓zbh, ↓zbi, ↓zbj, ↓zbk, ↓zbl, ↓zbm, ↓zbn, ↓zbo, ↓zbp, ↓zbq, ↓zbr, ↓zbs, ↓zbt, ↓zbu, ↓zbv, ↓zbw, ↓zbx, ↓zby, ↓zbz, ↓zca, ↓zcb, ↓zcc, ↓zcd, ↓zce, ↓zcf, ↓zcg, ↓zch, ↓zci, ↓zcj, ↓zck, ↓zcl, ↓zcm, ↓zcn, ↓zco, ↓zcp, ↓zcq, ↓zcr, ↓zcs, ↓zct, ↓zcu, ↓zcv, ↓zcw, ↓zcx, ↓zcy, ↓zcz, ↓zda, ↓zdb, ↓zdc, ↓zdd, ↓zde, ↓zdf, ↓zdg, ↓zdh, ↓zdi, ↓zdj, ↓zdk, ↓zdl, ↓zdm, ↓zdn, ↓zdo, ↓zdp, ↓zdq, ↓zdr, ↓zds, ↓zdt, ↓zdu, ↓zdv, ↓zdw, ↓zdx, ↓zdy, ↓zdz, ↓zea, ↓zeb, ↓zec, ↓zed, ↓zee, zef, zeg, zeh, zei, zej, zek, zel, zem, zen, zeo, zep, zeq, zer, zes, zet, zeu, zev, zew, zex, zey, zez, zfa, zfb, zfc, zfd, zfe, zff, zfg, zfh, zfi, zfj, zfk, zfl, zfm, zfn, zfo, zfp, zfq, zfr, zfs, zft, zfu, zfv, zfw, zfx, zfy, zfz, zga, zgb, zgc, zgd, zge, zgf, zgg, zgh, zgi, zgj, zgk, zgl, zgm, zgn, zgo, zgp, zgq, zgr, zgs, zgt, zgu, zgv, zgw, zgx, zgy, zgz, zha, zhb, zhc, zhd, zhe, zhf, zhg, zhh, zhi, zhj, zhk, zhl, zhm, zhn, zho, zhp, zhq, zhr, zhs, zht, zhu, zhv, zhw, zhx, zhy, zhz, zia, zib, zic, zid, zie, zif, zig, zih, zii, zij, zik, zil, zim, zin, zio, zip, ziq, zir, zis, zit, ziu, ziv, ziw, Int.reduceBEq, Int.reduceLT, Int.reduceLE, Int.reduceNeg, Nat.reduceLeDiff, Nat.reduceAdd, Nat.reduceLT, Nat.reduceSub, reduceCtorEq, Wk.frE, ne_eq, reduceIte, ↓zLc, ↓zFor, ↓zWhl, body_eq, B_turned_by, q, stP, lp]
  rfl
def TurnbyOk (f : List P → Cm P) : Prop := ∀ (vs : List P) (bs : List Bool), vs.length = bs.length → bs.length ≤ 1000 → f [.tup vs, .str (bitsS bs)] = .ret (.tup (tbw vs bs))
theorem turned_ok {c0 c1 h0 : Nat} (h1 : TurnbyOk (F c0)) (h2 : HeardOk (F c1)) (hs0 : ∀ a b c d : P, G.shp h0 [a, b, c] [d] = [a, b, c, d]) {T : List (Nat × Nat)} {r : List Nat} {b : Int} {hs : List Nat} (hT : Hands T) (hr : ∀ x ∈ r, x < T.length) (hl : r.length ≤ 1000) :
    bodyP F G fr 4 (B_turned c0 c1 h0) [trP T, rowP r, .int b, .tup (nsP hs)] = .ret (rowP (tbw r (sig T r b hs))) := by
  have e := h2 T r b hs hT hr hl
  have e2 := h1 (nsP r) (sig T r b hs) (by rw [ns_len, sig_len]) (by rw [sig_len]; exact hl)
  have e3 : tbw (nsP r) (sig T r b hs) = nsP (tbw r (sig T r b hs)) := tbw_map
  rw [e3] at e2
  unfold rowP at e ⊢
  simp (disch := first | omega | assumption) only [zaa, zab, zac, zad, ↓zae, ↓zaf, ↓zag, ↓zah, ↓zai, zaj, ↓zak, ↓zal, ↓zam, zan, zao, zap, zaq, ↓zar, ↓zas, ↓zat, ↓zau, ↓zav, ↓zaw, ↓zax, ↓zay, ↓zaz, ↓zba, ↓zbb, ↓zbc, ↓zbd, ↓zbe, ↓zbf, ↓zbg, ↓zbh, ↓zbi, ↓zbj, ↓zbk, ↓zbl, ↓zbm, ↓zbn, ↓zbo, ↓zbp, ↓zbq, ↓zbr, ↓zbs, ↓zbt, ↓zbu, ↓zbv, ↓zbw, ↓zbx, ↓zby, ↓zbz, ↓zca, ↓zcb, ↓zcc, ↓zcd, ↓zce, ↓zcf, ↓zcg, ↓zch, ↓zci, ↓zcj, ↓zck, ↓zcl, ↓zcm, ↓zcn, ↓zco, ↓zcp, ↓zcq, ↓zcr, ↓zcs, ↓zct, ↓zcu, ↓zcv, ↓zcw, ↓zcx, ↓zcy, ↓zcz, ↓zda, ↓zdb, ↓zdc, ↓zdd, ↓zde, ↓zdf, ↓zdg, ↓zdh, ↓zdi, ↓zdj, ↓zdk, ↓zdl, ↓zdm, ↓zdn, ↓zdo, ↓zdp, ↓zdq, ↓zdr, ↓zds, ↓zdt, ↓zdu, ↓zdv, ↓zdw, ↓zdx, ↓zdy, ↓zdz, ↓zea, ↓zeb, ↓zec, ↓zed, ↓zee, zef, zeg, zeh, zei, zej, zek, zel, zem, zen, zeo, zep, zeq, zer, zes, zet, zeu, zev, zew, zex, zey, zez, zfa, zfb, zfc, zfd, zfe, zff, zfg, zfh, zfi, zfj, zfk, zfl, zfm, zfn, zfo, zfp, zfq, zfr, zfs, zft, zfu, zfv, zfw, zfx, zfy, zfz, zga, zgb, zgc, zgd, zge, zgf, zgg, zgh, zgi, zgj, zgk, zgl, zgm, zgn, zgo, zgp, zgq, zgr, zgs, zgt, zgu, zgv, zgw, zgx, zgy, zgz, zha, zhb, zhc, zhd, zhe, zhf, zhg, zhh, zhi, zhj, zhk, zhl, zhm, zhn, zho, zhp, zhq, zhr, zhs, zht, zhu, zhv, zhw, zhx, zhy, zhz, zia, zib, zic, zid, zie, zif, zig, zih, zii, zij, zik, zil, zim, zin, zio, zip, ziq, zir, zis, zit, ziu, ziv, ziw, Int.reduceBEq, Int.reduceLT, Int.reduceLE, Int.reduceNeg, Nat.reduceLeDiff, Nat.reduceAdd, Nat.reduceLT, Nat.reduceSub, reduceCtorEq, Wk.frE, ne_eq, reduceIte, ↓zLc, ↓zFor, ↓zWhl, body_eq, B_turned, hs0, e, e2]
def TurnedOk (f : List P → Cm P) : Prop := ∀ (T : List (Nat × Nat)) (r : List Nat) (b : Int) (hs : List Nat), Hands T → (∀ x ∈ r, x < T.length) → r.length ≤ 1000 → f [trP T, rowP r, .int b, .tup (nsP hs)] = .ret (rowP (tbw r (sig T r b hs)))
end
end Wk

set_option Elab.async false
set_option linter.all false
set_option maxRecDepth 100000
set_option maxHeartbeats 4000000
namespace Wk
open PySem PySem.Spec PyProof.Rows L2
/-! ### words of at most five signs, one by one -/
def wordsN : Nat → List (List Bool)
  | 0 => [[]]
  | n + 1 => (wordsN n).flatMap fun w => [true :: w, false :: w]
theorem mem_words : ∀ (bs : List Bool), bs ∈ wordsN bs.length
  | [] => List.mem_singleton.mpr rfl
  | b :: bs => by
    show b :: bs ∈ (wordsN bs.length).flatMap _
    refine List.mem_flatMap.mpr ⟨bs, mem_words bs, ?_⟩
    cases b <;> simp
def words5 : List (List Bool) := (List.range 6).flatMap wordsN
theorem mem_words5 {bs : List Bool} (h : bs.length ≤ 5) : bs ∈ words5 := List.mem_flatMap.mpr ⟨bs.length, List.mem_range.mpr (by omega), mem_words bs⟩
theorem list_of {α : Type} (d : α) (r : List α) : r = (List.range r.length).map fun i => r.getD i d := by
  refine List.ext_getElem (by simp) fun i h1 h2 => ?_
  rw [List.getElem_map, List.getElem_range, List.getD_eq_getElem?_getD, List.getElem?_eq_getElem h1]; rfl
/-! ### the runs as the law finds them -/
def rn1 (s : List (Nat × Nat) × Nat) (x : Str) : List (Nat × Nat) × Nat := (if (x == "") = true then s.1 else s.1 ++ [(s.2, s.2 + x.length - 1)], s.2 + x.length + 1)
def rnw (xs : List Str) : List (Nat × Nat) × Nat := xs.foldl rn1 ([], 0)
theorem runs_fin : (words5.all fun bs => decide ((rnw (Txt.split (bitsS bs) "0")).1 = stw bs) && decide ((Txt.split (bitsS bs) "0").length ≤ 10) && (Txt.split (bitsS bs) "0").all fun x => decide (x.length ≤ 5) && ((x == "") || decide (0 < x.length))) = true := by decide +kernel
theorem runs_at {bs : List Bool} (h : bs.length ≤ 5) : (rnw (Txt.split (bitsS bs) "0")).1 = stw bs ∧ (Txt.split (bitsS bs) "0").length ≤ 10 ∧ ∀ x ∈ Txt.split (bitsS bs) "0", x.length ≤ 5 ∧ ((x == "") = true ∨ 0 < x.length) := by
  have q := runs_fin
  rw [List.all_eq_true] at q
  have q := q bs (mem_words5 h)
  rw [Bool.and_eq_true, Bool.and_eq_true, decide_eq_true_eq, decide_eq_true_eq, List.all_eq_true] at q
  refine ⟨q.1.1, q.1.2, fun x hx => ?_⟩
  have := q.2 x hx
  simp only [Bool.and_eq_true, Bool.or_eq_true, decide_eq_true_eq] at this
  exact this
section
variable {F : POrc} {G : PShp} {fr : Nat → Bool} {bs : List Bool}
theorem runs_ok (hl : bs.length ≤ 5) : bodyP F G fr 4 B_l_runs [.str (bitsS bs)] = .ret (stP (stw bs)) := by
  obtain ⟨h1, h3, h2⟩ := runs_at hl
  have sp : mthP .split (.str (bitsS bs)) [.str "0"] = .ret (.lst ((Txt.split (bitsS bs) "0").map .str)) := by
    unfold mthP
    exact if_pos ⟨by decide +kernel, by rw [bits_len]; exact Nat.le_trans (by omega : _ ≤ 7) (by decide)⟩
  generalize Txt.split (bitsS bs) "0" = xs at h1 h2 h3 sp
  have loop : ∀ (xs : List Str) (s : List (Nat × Nat) × Nat), (∀ x ∈ xs, x.length ≤ 5 ∧ ((x == "") = true ∨ 0 < x.length)) → s.1.length + xs.length ≤ 10000 → forP (foT F G fr (.name 3) B_l_runs_L0) [3] (xs.map .str) [some (.str (bitsS bs), false), some (stP s.1, true), some (.int (s.2 : Nat), false), none] = .ret (.nx [some (.str (bitsS bs), false), some (stP (xs.foldl rn1 s).1, true), some (.int ((xs.foldl rn1 s).2 : Nat), false), none]) := by
    intro xs
    induction xs with
    | nil => intro s _ _; rfl
    | cons x xs ih =>
      intro s hx hlen
      obtain ⟨x1, x2⟩ := hx x List.mem_cons_self
      rw [List.length_cons] at hlen
      have hl1 : (rn1 s x).1.length ≤ s.1.length + 1 := by unfold rn1; dsimp only; split <;> simp
      have ih := ih (rn1 s x) (fun y hy => hx y (List.mem_cons_of_mem _ hy)) (by omega)
      rw [List.map_cons, List.foldl_cons, ← ih]
      obtain ⟨f, a⟩ := s
      have hlen : f.length + (xs.length + 1) ≤ 10000 := hlen
      have lenf : (f.map prP).length < sizeLine := by rw [List.length_map]; exact Nat.lt_of_le_of_lt (show f.length ≤ 10000 by omega) (by decide)
      have hxl : x.length ≤ sizeLine := Nat.le_trans x1 (by decide)
      have e0 : (a : Int) + (x.length : Nat) + 1 = ((a + x.length + 1 : Nat) : Int) := by omega
      have st : foT F G fr (.name 3) B_l_runs_L0 (.str x) [some (.str (bitsS bs), false), some (stP f, true), some (.int (a : Nat), false), none] = .ret (.nx [some (.str (bitsS bs), false), some (stP (rn1 (f, a) x).1, true), some (.int ((rn1 (f, a) x).2 : Nat), false), some (.str x, false)]) := by
        cases hc : (x == "") with
        | true =>
          have r1 : rn1 (f, a) x = (f, a + x.length + 1) := by unfold rn1; rw [hc]; rfl
          rw [r1]
          simp (disch := first | omega | assumption) only [zaa, zab, zac, zad, ↓zae, ↓zaf, ↓zag, ↓zah, ↓zai, zaj, ↓zak, ↓zal, ↓zam, zan, zao, zap, zaq, ↓zar, ↓zas, ↓zat, ↓zau, ↓zav, ↓zaw, ↓zax, ↓zay, ↓zaz, ↓zba, ↓zbb, ↓zbc, ↓zbd, ↓zbe, ↓zbf, ↓zbg, ↓zbh, ↓zbi, ↓zbj, ↓zbk, ↓zbl, ↓zbm, ↓zbn, ↓zbo, ↓zbp, ↓zbq, ↓zbr, ↓zbs, ↓zbt, ↓zbu, ↓zbv, ↓zbw, ↓zbx, ↓zby, ↓zbz, ↓zca, ↓zcb, ↓zcc, ↓zcd, ↓zce, ↓zcf, ↓zcg, ↓zch, ↓zci, ↓zcj, ↓zck, ↓zcl, ↓zcm, ↓zcn, ↓zco, ↓zcp, ↓zcq, ↓zcr, ↓zcs, ↓zct, ↓zcu, ↓zcv, ↓zcw, ↓zcx, ↓zcy, ↓zcz, ↓zda, ↓zdb, ↓zdc, ↓zdd, ↓zde, ↓zdf, ↓zdg, ↓zdh, ↓zdi, ↓zdj, ↓zdk, ↓zdl, ↓zdm, ↓zdn, ↓zdo, ↓zdp, ↓zdq, ↓zdr, ↓zds, ↓zdt, ↓zdu, ↓zdv, ↓zdw, ↓zdx, ↓zdy, ↓zdz, ↓zea, ↓zeb, ↓zec, ↓zed, ↓zee, zef, zeg, zeh, zei, zej, zek, zel, zem, zen, zeo, zep, zeq, zer, zes, zet, zeu, zev, zew, zex, zey, zez, zfa, zfb, zfc, zfd, zfe, zff, zfg, zfh, zfi, zfj, zfk, zfl, zfm, zfn, zfo, zfp, zfq, zfr, zfs, zft, zfu, zfv, zfw, zfx, zfy, zfz, zga, zgb, zgc, zgd, zge, zgf, zgg, zgh, zgi, zgj, zgk, zgl, zgm, zgn, zgo, zgp, zgq, zgr, zgs, zgt, zgu, zgv, zgw, zgx, zgy, zgz, zha, zhb, zhc, zhd, zhe, zhf, zhg, zhh, zhi, zhj, zhk, zhl, zhm, zhn, zho, zhp, zhq, zhr, zhs, zht, zhu, zhv, zhw, zhx, zhy, zhz, zia, zib, zic, zid, zie, zif, zig, zih, zii, zij, zik, zil, zim, zin, zio, zip, ziq, zir, zis, zit, ziu, ziv, ziw, Int.reduceBEq, Int.reduceLT, Int.reduceLE, Int.reduceNeg, Nat.reduceLeDiff, Nat.reduceAdd, Nat.reduceLT, Nat.reduceSub, reduceCtorEq, Wk.frE, ne_eq, reduceIte, ↓zLc, ↓zFor, ↓zWhl, fo_eq, B_l_runs_L0, hc, e0, stP]
        | false =>
          have hp : 0 < x.length := x2.resolve_left (by rw [hc]; exact Bool.false_ne_true)
          have r1 : rn1 (f, a) x = (f ++ [(a, a + x.length - 1)], a + x.length + 1) := by unfold rn1; rw [hc]; rfl
          rw [r1]
          have e1 : (a : Int) + (x.length : Nat) - 1 = ((a + x.length - 1 : Nat) : Int) := by omega
          have ap : chgP .append (f.map prP) [P.tup [.int (a : Nat), .int ((a + x.length - 1 : Nat) : Int)]] = .ret ((f ++ [(a, a + x.length - 1)]).map prP) := by rw [q_app lenf, List.map_append]; rfl
          simp (disch := first | omega | assumption) only [zaa, zab, zac, zad, ↓zae, ↓zaf, ↓zag, ↓zah, ↓zai, zaj, ↓zak, ↓zal, ↓zam, zan, zao, zap, zaq, ↓zar, ↓zas, ↓zat, ↓zau, ↓zav, ↓zaw, ↓zax, ↓zay, ↓zaz, ↓zba, ↓zbb, ↓zbc, ↓zbd, ↓zbe, ↓zbf, ↓zbg, ↓zbh, ↓zbi, ↓zbj, ↓zbk, ↓zbl, ↓zbm, ↓zbn, ↓zbo, ↓zbp, ↓zbq, ↓zbr, ↓zbs, ↓zbt, ↓zbu, ↓zbv, ↓zbw, ↓zbx, ↓zby, ↓zbz, ↓zca, ↓zcb, ↓zcc, ↓zcd, ↓zce, ↓zcf, ↓zcg, ↓zch, ↓zci, ↓zcj, ↓zck, ↓zcl, ↓zcm, ↓zcn, ↓zco, ↓zcp, ↓zcq, ↓zcr, ↓zcs, ↓zct, ↓zcu, ↓zcv, ↓zcw, ↓zcx, ↓zcy, ↓zcz, ↓zda, ↓zdb, ↓zdc, ↓zdd, ↓zde, ↓zdf, ↓zdg, ↓zdh, ↓zdi, ↓zdj, ↓zdk, ↓zdl, ↓zdm, ↓zdn, ↓zdo, ↓zdp, ↓zdq, ↓zdr, ↓zds, ↓zdt, ↓zdu, ↓zdv, ↓zdw, ↓zdx, ↓zdy, ↓zdz, ↓zea, ↓zeb, ↓zec, ↓zed, ↓zee, zef, zeg, zeh, zei, zej, zek, zel, zem, zen, zeo, zep, zeq, zer, zes, zet, zeu, zev, zew, zex, zey, zez, zfa, zfb, zfc, zfd, zfe, zff, zfg, zfh, zfi, zfj, zfk, zfl, zfm, zfn, zfo, zfp, zfq, zfr, zfs, zft, zfu, zfv, zfw, zfx, zfy, zfz, zga, zgb, zgc, zgd, zge, zgf, zgg, zgh, zgi, zgj, zgk, zgl, zgm, zgn, zgo, zgp, zgq, zgr, zgs, zgt, zgu, zgv, zgw, zgx, zgy, zgz, zha, zhb, zhc, zhd, zhe, zhf, zhg, zhh, zhi, zhj, zhk, zhl, zhm, zhn, zho, zhp, zhq, zhr, zhs, zht, zhu, zhv, zhw, zhx, zhy, zhz, zia, zib, zic, zid, zie, zif, zig, zih, zii, zij, zik, zil, zim, zin, zio, zip, ziq, zir, zis, zit, ziu, ziv, ziw, Int.reduceBEq, Int.reduceLT, Int.reduceLE, Int.reduceNeg, Nat.reduceLeDiff, Nat.reduceAdd, Nat.reduceLT, Nat.reduceSub, reduceCtorEq, Wk.frE, ne_eq, reduceIte, ↓zLc, ↓zFor, ↓zWhl, fo_eq, B_l_runs_L0, hc, e0, e1, ap, stP]
      show (foT F G fr _ B_l_runs_L0 (P.str x) _).bind _ = _
      rw [st, bd_ret]
      dsimp only
      congr 1
  have lp := loop xs ([], 0) h2 (by simp; omega)
  have e3 : (xs.foldl rn1 ([], 0)).1 = stw bs := h1
  rw [e3] at lp
  have e4 : stP [] = .lst [] := rfl
  have e5 : (((([], 0) : List (Nat × Nat) × Nat).2 : Nat) : Int) = 0 := rfl
  rw [e5] at lp
  simp only [e4] at lp
  simp (disch := first | omega | assumption) only [zaa, zab, zac, zad, ↓zae, ↓zaf, ↓zag, ↓zah, ↓zai, zaj, ↓zak, ↓zal, ↓zam, zan, zao, zap, zaq, ↓zar, ↓zas, ↓zat, ↓zau, ↓zav, ↓zaw, ↓zax, ↓zay, ↓zaz, ↓zba, ↓zbb, ↓zbc, ↓zbd, ↓zbe, ↓zbf, ↓zbg, ↓zbh, ↓zbi, ↓zbj, ↓zbk, ↓zbl, ↓zbm, ↓zbn, ↓zbo, ↓zbp, ↓zbq, ↓zbr, ↓zbs, ↓zbt, ↓zbu, ↓zbv, ↓zbw, ↓zbx, ↓zby, ↓zbz, ↓zca, ↓zcb, ↓zcc, ↓zcd, ↓zce, ↓zcf, ↓zcg, ↓zch, ↓zci, ↓zcj, ↓zck, ↓zcl, ↓zcm, ↓zcn, ↓zco, ↓zcp, ↓zcq, ↓zcr, ↓zcs, ↓zct, ↓zcu, ↓zcv, ↓zcw, ↓zcx, ↓zcy, ↓zcz, ↓zda, ↓zdb, ↓zdc, ↓zdd, ↓zde, ↓zdf, ↓zdg, ↓zdh, ↓zdi, ↓zdj, ↓zdk, ↓zdl, ↓zdm, ↓zdn, ↓zdo, ↓zdp, ↓zdq, ↓zdr, ↓zds, ↓zdt, ↓zdu, ↓zdv, ↓zdw, ↓zdx, ↓zdy, ↓zdz, ↓zea, ↓zeb, ↓zec, ↓zed, ↓zee, zef, zeg, zeh, zei, zej, zek, zel, zem, zen, zeo, zep, zeq, zer, zes, zet, zeu, zev, zew, zex, zey, zez, zfa, zfb, zfc, zfd, zfe, zff, zfg, zfh, zfi, zfj, zfk, zfl, zfm, zfn, zfo, zfp, zfq, zfr, zfs, zft, zfu, zfv, zfw, zfx, zfy, zfz, zga, zgb, zgc, zgd, zge, zgf, zgg, zgh, zgi, zgj, zgk, zgl, zgm, zgn, zgo, zgp, zgq, zgr, zgs, zgt, zgu, zgv, zgw, zgx, zgy, zgz, zha, zhb, zhc, zhd, zhe, zhf, zhg, zhh, zhi, zhj, zhk, zhl, zhm, zhn, zho, zhp, zhq, zhr, zhs, zht, zhu, zhv, zhw, zhx, zhy, zhz, zia, zib, zic, zid, zie, zif, zig, zih, zii, zij, zik, zil, zim, zin, zio, zip, ziq, zir, zis, zit, ziu, ziv, ziw, Int.reduceBEq, Int.reduceLT, Int.reduceLE, Int.reduceNeg, Nat.reduceLeDiff, Nat.reduceAdd, Nat.reduceLT, Nat.reduceSub, reduceCtorEq, Wk.frE, ne_eq, reduceIte, ↓zLc, ↓zFor, ↓zWhl, body_eq, B_l_runs, sp, lp, stP]
def RunsOk (f : List P → Cm P) : Prop := ∀ bs : List Bool, bs.length ≤ 5 → f [.str (bitsS bs)] = .ret (stP (stw bs))
/-! ### turned post by post -/
def lo (bs : List Bool) : Nat → Nat
  | 0 => 0
  | p + 1 => if bs.getD p false = true then lo bs p else p + 1
def hiF (bs : List Bool) : Nat → Nat → Nat
  | 0, p => p
  | k + 1, p => if bs.getD (p + 1) false = true then hiF bs k (p + 1) else p
def ab1 {α : Type} (r : List α) (bs : List Bool) (f : List α) (p : Nat) : List α := match r[p]? with
  | some x => if bs.getD p false = true then f.set (lo bs p + hiF bs (r.length - 1 - p) p - p) x else f
  | none => f
def abw {α : Type} (r : List α) (bs : List Bool) : List α := (List.range r.length).foldl (ab1 r bs) r
theorem abw_map {α β : Type} {f : α → β} {r : List α} : abw (r.map f) bs = (abw r bs).map f := by
  unfold abw
  rw [List.length_map]
  have : ∀ (l : List Nat) (g : List α), l.foldl (ab1 (r.map f) bs) (g.map f) = (l.foldl (ab1 r bs) g).map f := by
    intro l
    induction l with
    | nil => intro g; rfl
    | cons p l ih =>
      intro g
      have e : ab1 (r.map f) bs (g.map f) p = (ab1 r bs g p).map f := by
        unfold ab1
        rw [List.getElem?_map, List.length_map]
        cases r[p]? with
        | none => rfl
        | some x =>
          dsimp only [Option.map_some]
          split
          · rw [List.map_set]
          · rfl
      rw [List.foldl_cons, List.foldl_cons, e, ih]
  exact this _ r
theorem about_fin : (words5.all fun bs => decide (abw (List.range bs.length) bs = tbw (List.range bs.length) bs)) = true := by decide +kernel
theorem abw_tbw {α : Type} (d : α) {r : List α} (h : r.length = bs.length) (hl : bs.length ≤ 5) : abw r bs = tbw r bs := by
  have q := about_fin
  rw [List.all_eq_true] at q
  have q := q bs (mem_words5 hl)
  rw [decide_eq_true_eq] at q
  rw [list_of d r, abw_map, tbw_map, h, q]
theorem lo_le : ∀ {p : Nat}, lo bs p ≤ p
  | 0 => Nat.le_refl _
  | p + 1 => by
    unfold lo
    split
    · exact Nat.le_succ_of_le lo_le
    · exact Nat.le_refl _
theorem hi_ge : ∀ {k p : Nat}, p ≤ hiF bs k p ∧ hiF bs k p ≤ p + k
  | 0, p => ⟨Nat.le_refl _, Nat.le_refl _⟩
  | k + 1, p => by
    unfold hiF
    split
    · have : p + 1 ≤ hiF bs k (p + 1) ∧ hiF bs k (p + 1) ≤ p + 1 + k := hi_ge
      omega
    · omega
theorem one_at {i : Nat} (hl : bs.length ≤ 1000) (hi : i < bs.length) : ixP (.str (bitsS bs)) (.int (i : Int)) = .ret (.str (bitsS [bs.getD i false])) := by
  rw [bits_ix hl, atI_nat', List.getElem?_eq_getElem hi, List.getD_eq_getElem?_getD, List.getElem?_eq_getElem hi]; rfl
theorem one_eq {b : Bool} : (bitsS [b] == bitsS [true]) = b := by cases b; exact e_ft; exact e_tt
theorem low_loop (hl : bs.length ≤ 1000) {p : Nat} (hp : p < bs.length) {a b d e : Option (P × Bool)} : whlP (whT F G (.and (.cons (.cmp .gt (.var 4) (.int 0)) (.cons (.cmp .eq (.idx (.var 1) (.bin .sub (.var 4) (.int 1))) (.str "1")) .nil)))) (exPs F G fr B_l_about_L0) [] whlMost [a, some (.str (bitsS bs), false), b, d, some (.int (p : Nat), false), e] = .ret (.nx [a, some (.str (bitsS bs), false), b, d, some (.int (lo bs p : Nat), false), e]) := by
  refine ok_eq (t := 0) (whl_ok (fun n env t => ∃ j : Nat, n = j ∧ j ≤ p ∧ t = 0 ∧ env = [a, some (.str (bitsS bs), false), b, d, some (.int (j : Nat), false), e] ∧ lo bs j = lo bs p) ?_ whlMost p _ _ (by unfold whlMost; omega) ⟨p, rfl, Nat.le_refl _, rfl, rfl, rfl⟩)
  rintro n env t ⟨j, rfl, hj, rfl, rfl, hL⟩
  by_cases h0 : n = 0
  · subst h0
    rw [← hL]
    simp (disch := first | omega | assumption) only [zaa, zab, zac, zad, ↓zae, ↓zaf, ↓zag, ↓zah, ↓zai, zaj, ↓zak, ↓zal, ↓zam, zan, zao, zap, zaq, ↓zar, ↓zas, ↓zat, ↓zau, ↓zav, ↓zaw, ↓zax, ↓zay, ↓zaz, ↓zba, ↓zbb, ↓zbc, ↓zbd, ↓zbe, ↓zbf, ↓zbg, ↓zbh, ↓zbi, ↓zbj, ↓zbk, ↓zbl, ↓zbm, ↓zbn, ↓zbo, ↓zbp, ↓zbq, ↓zbr, ↓zbs, ↓zbt, ↓zbu, ↓zbv, ↓zbw, ↓zbx, ↓zby, ↓zbz, ↓zca, ↓zcb, ↓zcc, ↓zcd, ↓zce, ↓zcf, ↓zcg, ↓zch, ↓zci, ↓zcj, ↓zck, ↓zcl, ↓zcm, ↓zcn, ↓zco, ↓zcp, ↓zcq, ↓zcr, ↓zcs, ↓zct, ↓zcu, ↓zcv, ↓zcw, ↓zcx, ↓zcy, ↓zcz, ↓zda, ↓zdb, ↓zdc, ↓zdd, ↓zde, ↓zdf, ↓zdg, ↓zdh, ↓zdi, ↓zdj, ↓zdk, ↓zdl, ↓zdm, ↓zdn, ↓zdo, ↓zdp, ↓zdq, ↓zdr, ↓zds, ↓zdt, ↓zdu, ↓zdv, ↓zdw, ↓zdx, ↓zdy, ↓zdz, ↓zea, ↓zeb, ↓zec, ↓zed, ↓zee, zef, zeg, zeh, zei, zej, zek, zel, zem, zen, zeo, zep, zeq, zer, zes, zet, zeu, zev, zew, zex, zey, zez, zfa, zfb, zfc, zfd, zfe, zff, zfg, zfh, zfi, zfj, zfk, zfl, zfm, zfn, zfo, zfp, zfq, zfr, zfs, zft, zfu, zfv, zfw, zfx, zfy, zfz, zga, zgb, zgc, zgd, zge, zgf, zgg, zgh, zgi, zgj, zgk, zgl, zgm, zgn, zgo, zgp, zgq, zgr, zgs, zgt, zgu, zgv, zgw, zgx, zgy, zgz, zha, zhb, zhc, zhd, zhe, zhf, zhg, zhh, zhi, zhj, zhk, zhl, zhm, zhn, zho, zhp, zhq, zhr, zhs, zht, zhu, zhv, zhw, zhx, zhy, zhz, zia, zib, zic, zid, zie, zif, zig, zih, zii, zij, zik, zil, zim, zin, zio, zip, ziq, zir, zis, zit, ziu, ziv, ziw, Int.reduceBEq, Int.reduceLT, Int.reduceLE, Int.reduceNeg, Nat.reduceLeDiff, Nat.reduceAdd, Nat.reduceLT, Nat.reduceSub, reduceCtorEq, Wk.frE, ne_eq, reduceIte, ↓zLc, ↓zFor, ↓zWhl, wh_eq, ok_ret]
    exact ⟨rfl, rfl⟩
  · have hn : 0 < (n : Int) := by omega
    have e1 : (n : Int) - 1 = ((n - 1 : Nat) : Int) := by omega
    have ix := one_at hl (show n - 1 < bs.length by omega)
    obtain ⟨m, rfl⟩ : ∃ m, n = m + 1 := ⟨n - 1, by omega⟩
    rw [show m + 1 - 1 = m by omega] at e1 ix
    have hc : (bitsS [bs.getD m false] == bitsS [true]) = bs.getD m false := one_eq
    cases c : bs.getD m false with
    | true =>
      rw [c] at ix hc
      simp (disch := first | omega | assumption) only [zaa, zab, zac, zad, ↓zae, ↓zaf, ↓zag, ↓zah, ↓zai, zaj, ↓zak, ↓zal, ↓zam, zan, zao, zap, zaq, ↓zar, ↓zas, ↓zat, ↓zau, ↓zav, ↓zaw, ↓zax, ↓zay, ↓zaz, ↓zba, ↓zbb, ↓zbc, ↓zbd, ↓zbe, ↓zbf, ↓zbg, ↓zbh, ↓zbi, ↓zbj, ↓zbk, ↓zbl, ↓zbm, ↓zbn, ↓zbo, ↓zbp, ↓zbq, ↓zbr, ↓zbs, ↓zbt, ↓zbu, ↓zbv, ↓zbw, ↓zbx, ↓zby, ↓zbz, ↓zca, ↓zcb, ↓zcc, ↓zcd, ↓zce, ↓zcf, ↓zcg, ↓zch, ↓zci, ↓zcj, ↓zck, ↓zcl, ↓zcm, ↓zcn, ↓zco, ↓zcp, ↓zcq, ↓zcr, ↓zcs, ↓zct, ↓zcu, ↓zcv, ↓zcw, ↓zcx, ↓zcy, ↓zcz, ↓zda, ↓zdb, ↓zdc, ↓zdd, ↓zde, ↓zdf, ↓zdg, ↓zdh, ↓zdi, ↓zdj, ↓zdk, ↓zdl, ↓zdm, ↓zdn, ↓zdo, ↓zdp, ↓zdq, ↓zdr, ↓zds, ↓zdt, ↓zdu, ↓zdv, ↓zdw, ↓zdx, ↓zdy, ↓zdz, ↓zea, ↓zeb, ↓zec, ↓zed, ↓zee, zef, zeg, zeh, zei, zej, zek, zel, zem, zen, zeo, zep, zeq, zer, zes, zet, zeu, zev, zew, zex, zey, zez, zfa, zfb, zfc, zfd, zfe, zff, zfg, zfh, zfi, zfj, zfk, zfl, zfm, zfn, zfo, zfp, zfq, zfr, zfs, zft, zfu, zfv, zfw, zfx, zfy, zfz, zga, zgb, zgc, zgd, zge, zgf, zgg, zgh, zgi, zgj, zgk, zgl, zgm, zgn, zgo, zgp, zgq, zgr, zgs, zgt, zgu, zgv, zgw, zgx, zgy, zgz, zha, zhb, zhc, zhd, zhe, zhf, zhg, zhh, zhi, zhj, zhk, zhl, zhm, zhn, zho, zhp, zhq, zhr, zhs, zht, zhu, zhv, zhw, zhx, zhy, zhz, zia, zib, zic, zid, zie, zif, zig, zih, zii, zij, zik, zil, zim, zin, zio, zip, ziq, zir, zis, zit, ziu, ziv, ziw, Int.reduceBEq, Int.reduceLT, Int.reduceLE, Int.reduceNeg, Nat.reduceLeDiff, Nat.reduceAdd, Nat.reduceLT, Nat.reduceSub, reduceCtorEq, Wk.frE, ne_eq, reduceIte, ↓zLc, ↓zFor, ↓zWhl, wh_eq, hn, e1, ix, s_one, hc, ok_ret, B_l_about_L0]
      refine ⟨m, by omega, m, rfl, by omega, trivial, rfl, ?_⟩
      rw [← hL]
      show lo bs m = if bs.getD m false = true then lo bs m else m + 1
      rw [c]; rfl
    | false =>
      rw [c] at ix hc
      have hv : lo bs (m + 1) = m + 1 := by
        show (if bs.getD m false = true then lo bs m else m + 1) = m + 1
        rw [c]; rfl
      rw [← hL, hv]
      simp (disch := first | omega | assumption) only [zaa, zab, zac, zad, ↓zae, ↓zaf, ↓zag, ↓zah, ↓zai, zaj, ↓zak, ↓zal, ↓zam, zan, zao, zap, zaq, ↓zar, ↓zas, ↓zat, ↓zau, ↓zav, ↓zaw, ↓zax, ↓zay, ↓zaz, ↓zba, ↓zbb, ↓zbc, ↓zbd, ↓zbe, ↓zbf, ↓zbg, ↓zbh, ↓zbi, ↓zbj, ↓zbk, ↓zbl, ↓zbm, ↓zbn, ↓zbo, ↓zbp, ↓zbq, ↓zbr, ↓zbs, ↓zbt, ↓zbu, ↓zbv, ↓zbw, ↓zbx, ↓zby, ↓zbz, ↓zca, ↓zcb, ↓zcc, ↓zcd, ↓zce, ↓zcf, ↓zcg, ↓zch, ↓zci, ↓zcj, ↓zck, ↓zcl, ↓zcm, ↓zcn, ↓zco, ↓zcp, ↓zcq, ↓zcr, ↓zcs, ↓zct, ↓zcu, ↓zcv, ↓zcw, ↓zcx, ↓zcy, ↓zcz, ↓zda, ↓zdb, ↓zdc, ↓zdd, ↓zde, ↓zdf, ↓zdg, ↓zdh, ↓zdi, ↓zdj, ↓zdk, ↓zdl, ↓zdm, ↓zdn, ↓zdo, ↓zdp, ↓zdq, ↓zdr, ↓zds, ↓zdt, ↓zdu, ↓zdv, ↓zdw, ↓zdx, ↓zdy, ↓zdz, ↓zea, ↓zeb, ↓zec, ↓zed, ↓zee, zef, zeg, zeh, zei, zej, zek, zel, zem, zen, zeo, zep, zeq, zer, zes, zet, zeu, zev, zew, zex, zey, zez, zfa, zfb, zfc, zfd, zfe, zff, zfg, zfh, zfi, zfj, zfk, zfl, zfm, zfn, zfo, zfp, zfq, zfr, zfs, zft, zfu, zfv, zfw, zfx, zfy, zfz, zga, zgb, zgc, zgd, zge, zgf, zgg, zgh, zgi, zgj, zgk, zgl, zgm, zgn, zgo, zgp, zgq, zgr, zgs, zgt, zgu, zgv, zgw, zgx, zgy, zgz, zha, zhb, zhc, zhd, zhe, zhf, zhg, zhh, zhi, zhj, zhk, zhl, zhm, zhn, zho, zhp, zhq, zhr, zhs, zht, zhu, zhv, zhw, zhx, zhy, zhz, zia, zib, zic, zid, zie, zif, zig, zih, zii, zij, zik, zil, zim, zin, zio, zip, ziq, zir, zis, zit, ziu, ziv, ziw, Int.reduceBEq, Int.reduceLT, Int.reduceLE, Int.reduceNeg, Nat.reduceLeDiff, Nat.reduceAdd, Nat.reduceLT, Nat.reduceSub, reduceCtorEq, Wk.frE, ne_eq, reduceIte, ↓zLc, ↓zFor, ↓zWhl, wh_eq, hn, e1, ix, s_one, hc, ok_ret]
theorem high_loop (hl : bs.length ≤ 1000) {p : Nat} (hp : p < bs.length) {vs : List P} (hv : vs.length = bs.length) {b d e : Option (P × Bool)} : whlP (whT F G (.and (.cons (.cmp .lt (.var 5) (.bin .sub (.blt .len (.cons (.var 0) .nil)) (.int 1))) (.cons (.cmp .eq (.idx (.var 1) (.bin .add (.var 5) (.int 1))) (.str "1")) .nil)))) (exPs F G fr B_l_about_L1) [] whlMost [some (.tup vs, false), some (.str (bitsS bs), false), b, d, e, some (.int (p : Nat), false)] = .ret (.nx [some (.tup vs, false), some (.str (bitsS bs), false), b, d, e, some (.int (hiF bs (bs.length - 1 - p) p : Nat), false)]) := by
  refine ok_eq (t := 0) (whl_ok (fun n env t => ∃ j : Nat, n + j = bs.length - 1 ∧ p ≤ j ∧ j < bs.length ∧ t = 0 ∧ env = [some (.tup vs, false), some (.str (bitsS bs), false), b, d, e, some (.int (j : Nat), false)] ∧ hiF bs n j = hiF bs (bs.length - 1 - p) p) ?_ whlMost (bs.length - 1 - p) _ _ (by unfold whlMost; omega) ⟨p, by omega, Nat.le_refl _, hp, rfl, rfl, rfl⟩)
  rintro n env t ⟨j, hnj, hj, hjl, rfl, rfl, hH⟩
  rw [← hH]
  cases n with
  | zero =>
    have hn : ¬ ((j : Int) < (vs.length : Nat) - 1) := by omega
    simp (disch := first | omega | assumption) only [zaa, zab, zac, zad, ↓zae, ↓zaf, ↓zag, ↓zah, ↓zai, zaj, ↓zak, ↓zal, ↓zam, zan, zao, zap, zaq, ↓zar, ↓zas, ↓zat, ↓zau, ↓zav, ↓zaw, ↓zax, ↓zay, ↓zaz, ↓zba, ↓zbb, ↓zbc, ↓zbd, ↓zbe, ↓zbf, ↓zbg, ↓zbh, ↓zbi, ↓zbj, ↓zbk, ↓zbl, ↓zbm, ↓zbn, ↓zbo, ↓zbp, ↓zbq, ↓zbr, ↓zbs, ↓zbt, ↓zbu, ↓zbv, ↓zbw, ↓zbx, ↓zby, ↓zbz, ↓zca, ↓zcb, ↓zcc, ↓zcd, ↓zce, ↓zcf, ↓zcg, ↓zch, ↓zci, ↓zcj, ↓zck, ↓zcl, ↓zcm, ↓zcn, ↓zco, ↓zcp, ↓zcq, ↓zcr, ↓zcs, ↓zct, ↓zcu, ↓zcv, ↓zcw, ↓zcx, ↓zcy, ↓zcz, ↓zda, ↓zdb, ↓zdc, ↓zdd, ↓zde, ↓zdf, ↓zdg, ↓zdh, ↓zdi, ↓zdj, ↓zdk, ↓zdl, ↓zdm, ↓zdn, ↓zdo, ↓zdp, ↓zdq, ↓zdr, ↓zds, ↓zdt, ↓zdu, ↓zdv, ↓zdw, ↓zdx, ↓zdy, ↓zdz, ↓zea, ↓zeb, ↓zec, ↓zed, ↓zee, zef, zeg, zeh, zei, zej, zek, zel, zem, zen, zeo, zep, zeq, zer, zes, zet, zeu, zev, zew, zex, zey, zez, zfa, zfb, zfc, zfd, zfe, zff, zfg, zfh, zfi, zfj, zfk, zfl, zfm, zfn, zfo, zfp, zfq, zfr, zfs, zft, zfu, zfv, zfw, zfx, zfy, zfz, zga, zgb, zgc, zgd, zge, zgf, zgg, zgh, zgi, zgj, zgk, zgl, zgm, zgn, zgo, zgp, zgq, zgr, zgs, zgt, zgu, zgv, zgw, zgx, zgy, zgz, zha, zhb, zhc, zhd, zhe, zhf, zhg, zhh, zhi, zhj, zhk, zhl, zhm, zhn, zho, zhp, zhq, zhr, zhs, zht, zhu, zhv, zhw, zhx, zhy, zhz, zia, zib, zic, zid, zie, zif, zig, zih, zii, zij, zik, zil, zim, zin, zio, zip, ziq, zir, zis, zit, ziu, ziv, ziw, Int.reduceBEq, Int.reduceLT, Int.reduceLE, Int.reduceNeg, Nat.reduceLeDiff, Nat.reduceAdd, Nat.reduceLT, Nat.reduceSub, reduceCtorEq, Wk.frE, ne_eq, reduceIte, ↓zLc, ↓zFor, ↓zWhl, wh_eq, hn, ok_ret, hiF]
  | succ n =>
    have hn : (j : Int) < (vs.length : Nat) - 1 := by omega
    have e1 : (j : Int) + 1 = ((j + 1 : Nat) : Int) := by omega
    have ix := one_at hl (show j + 1 < bs.length by omega)
    have hc : (bitsS [bs.getD (j + 1) false] == bitsS [true]) = bs.getD (j + 1) false := one_eq
    cases c : bs.getD (j + 1) false with
    | true =>
      rw [c] at ix hc
      have hv : hiF bs (n + 1) j = hiF bs n (j + 1) := by
        show (if bs.getD (j + 1) false = true then hiF bs n (j + 1) else j) = _
        rw [c]; rfl
      rw [hv] at hH ⊢
      simp (disch := first | omega | assumption) only [zaa, zab, zac, zad, ↓zae, ↓zaf, ↓zag, ↓zah, ↓zai, zaj, ↓zak, ↓zal, ↓zam, zan, zao, zap, zaq, ↓zar, ↓zas, ↓zat, ↓zau, ↓zav, ↓zaw, ↓zax, ↓zay, ↓zaz, ↓zba, ↓zbb, ↓zbc, ↓zbd, ↓zbe, ↓zbf, ↓zbg, ↓zbh, ↓zbi, ↓zbj, ↓zbk, ↓zbl, ↓zbm, ↓zbn, ↓zbo, ↓zbp, ↓zbq, ↓zbr, ↓zbs, ↓zbt, ↓zbu, ↓zbv, ↓zbw, ↓zbx, ↓zby, ↓zbz, ↓zca, ↓zcb, ↓zcc, ↓zcd, ↓zce, ↓zcf, ↓zcg, ↓zch, ↓zci, ↓zcj, ↓zck, ↓zcl, ↓zcm, ↓zcn, ↓zco, ↓zcp, ↓zcq, ↓zcr, ↓zcs, ↓zct, ↓zcu, ↓zcv, ↓zcw, ↓zcx, ↓zcy, ↓zcz, ↓zda, ↓zdb, ↓zdc, ↓zdd, ↓zde, ↓zdf, ↓zdg, ↓zdh, ↓zdi, ↓zdj, ↓zdk, ↓zdl, ↓zdm, ↓zdn, ↓zdo, ↓zdp, ↓zdq, ↓zdr, ↓zds, ↓zdt, ↓zdu, ↓zdv, ↓zdw, ↓zdx, ↓zdy, ↓zdz, ↓zea, ↓zeb, ↓zec, ↓zed, ↓zee, zef, zeg, zeh, zei, zej, zek, zel, zem, zen, zeo, zep, zeq, zer, zes, zet, zeu, zev, zew, zex, zey, zez, zfa, zfb, zfc, zfd, zfe, zff, zfg, zfh, zfi, zfj, zfk, zfl, zfm, zfn, zfo, zfp, zfq, zfr, zfs, zft, zfu, zfv, zfw, zfx, zfy, zfz, zga, zgb, zgc, zgd, zge, zgf, zgg, zgh, zgi, zgj, zgk, zgl, zgm, zgn, zgo, zgp, zgq, zgr, zgs, zgt, zgu, zgv, zgw, zgx, zgy, zgz, zha, zhb, zhc, zhd, zhe, zhf, zhg, zhh, zhi, zhj, zhk, zhl, zhm, zhn, zho, zhp, zhq, zhr, zhs, zht, zhu, zhv, zhw, zhx, zhy, zhz, zia, zib, zic, zid, zie, zif, zig, zih, zii, zij, zik, zil, zim, zin, zio, zip, ziq, zir, zis, zit, ziu, ziv, ziw, Int.reduceBEq, Int.reduceLT, Int.reduceLE, Int.reduceNeg, Nat.reduceLeDiff, Nat.reduceAdd, Nat.reduceLT, Nat.reduceSub, reduceCtorEq, Wk.frE, ne_eq, reduceIte, ↓zLc, ↓zFor, ↓zWhl, wh_eq, hn, e1, ix, s_one, hc, ok_ret, B_l_about_L1]
      exact ⟨n, by omega, j + 1, by omega, by omega, by omega, trivial, rfl, rfl⟩
    | false =>
      rw [c] at ix hc
      have hv : hiF bs (n + 1) j = j := by
        show (if bs.getD (j + 1) false = true then hiF bs n (j + 1) else j) = _
        rw [c]; rfl
      rw [hv]
      simp (disch := first | omega | assumption) only [zaa, zab, zac, zad, ↓zae, ↓zaf, ↓zag, ↓zah, ↓zai, zaj, ↓zak, ↓zal, ↓zam, zan, zao, zap, zaq, ↓zar, ↓zas, ↓zat, ↓zau, ↓zav, ↓zaw, ↓zax, ↓zay, ↓zaz, ↓zba, ↓zbb, ↓zbc, ↓zbd, ↓zbe, ↓zbf, ↓zbg, ↓zbh, ↓zbi, ↓zbj, ↓zbk, ↓zbl, ↓zbm, ↓zbn, ↓zbo, ↓zbp, ↓zbq, ↓zbr, ↓zbs, ↓zbt, ↓zbu, ↓zbv, ↓zbw, ↓zbx, ↓zby, ↓zbz, ↓zca, ↓zcb, ↓zcc, ↓zcd, ↓zce, ↓zcf, ↓zcg, ↓zch, ↓zci, ↓zcj, ↓zck, ↓zcl, ↓zcm, ↓zcn, ↓zco, ↓zcp, ↓zcq, ↓zcr, ↓zcs, ↓zct, ↓zcu, ↓zcv, ↓zcw, ↓zcx, ↓zcy, ↓zcz, ↓zda, ↓zdb, ↓zdc, ↓zdd, ↓zde, ↓zdf, ↓zdg, ↓zdh, ↓zdi, ↓zdj, ↓zdk, ↓zdl, ↓zdm, ↓zdn, ↓zdo, ↓zdp, ↓zdq, ↓zdr, ↓zds, ↓zdt, ↓zdu, ↓zdv, ↓zdw, ↓zdx, ↓zdy, ↓zdz, ↓zea, ↓zeb, ↓zec, ↓zed, ↓zee, zef, zeg, zeh, zei, zej, zek, zel, zem, zen, zeo, zep, zeq, zer, zes, zet, zeu, zev, zew, zex, zey, zez, zfa, zfb, zfc, zfd, zfe, zff, zfg, zfh, zfi, zfj, zfk, zfl, zfm, zfn, zfo, zfp, zfq, zfr, zfs, zft, zfu, zfv, zfw, zfx, zfy, zfz, zga, zgb, zgc, zgd, zge, zgf, zgg, zgh, zgi, zgj, zgk, zgl, zgm, zgn, zgo, zgp, zgq, zgr, zgs, zgt, zgu, zgv, zgw, zgx, zgy, zgz, zha, zhb, zhc, zhd, zhe, zhf, zhg, zhh, zhi, zhj, zhk, zhl, zhm, zhn, zho, zhp, zhq, zhr, zhs, zht, zhu, zhv, zhw, zhx, zhy, zhz, zia, zib, zic, zid, zie, zif, zig, zih, zii, zij, zik, zil, zim, zin, zio, zip, ziq, zir, zis, zit, ziu, ziv, ziw, Int.reduceBEq, Int.reduceLT, Int.reduceLE, Int.reduceNeg, Nat.reduceLeDiff, Nat.reduceAdd, Nat.reduceLT, Nat.reduceSub, reduceCtorEq, Wk.frE, ne_eq, reduceIte, ↓zLc, ↓zFor, ↓zWhl, wh_eq, hn, e1, ix, s_one, hc, ok_ret]
theorem ab1_len {α : Type} {r f : List α} {p : Nat} : (ab1 r bs f p).length = f.length := by
  unfold ab1
  split
  · split
    · rw [List.length_set]
    · rfl
  · rfl
theorem about_ok {vs : List P} (hv : vs.length = bs.length) (hl : bs.length ≤ 5) : bodyP F G fr 6 B_l_about [.tup vs, .str (bitsS bs)] = .ret (.tup (tbw vs bs)) := by
  have hl2 : bs.length ≤ 1000 := by omega
  have loop : forP (foT F G fr (.name 3) B_l_about_L2) [3, 4, 5] ((List.range vs.length).map fun k => P.int (k : Nat)) [some (.tup vs, false), some (.str (bitsS bs), false), some (.lst vs, true), none, none, none] = .ret (.nx [some (.tup vs, false), some (.str (bitsS bs), false), some (.lst (abw vs bs), true), none, none, none]) := by
    refine for_fold (ev := fun f : List P => [some (.tup vs, false), some (.str (bitsS bs), false), some (.lst f, true), none, none, none]) (step := ab1 vs bs) (fun f => f.length = vs.length) rfl fun f p hp hf => ⟨by rw [ab1_len]; exact hf, ?_⟩
    have hp : p < vs.length := List.mem_range.mp hp
    have hpb : p < bs.length := by omega
    have ix := one_at hl2 hpb
    have hc : (bitsS [bs.getD p false] == ("1" : Str)) = bs.getD p false := by rw [s_one]; exact one_eq
    have e1 : ab1 vs bs f p = if bs.getD p false = true then f.set (lo bs p + hiF bs (bs.length - 1 - p) p - p) vs[p] else f := by
      unfold ab1; rw [List.getElem?_eq_getElem hp, hv]
    rw [e1]
    cases c : bs.getD p false with
    | false =>
      rw [c] at ix hc
      exact ⟨[some (.tup vs, false), some (.str (bitsS bs), false), some (.lst f, true), some (.int (p : Nat), false), none, none], by simp (disch := first | omega | assumption) only [zaa, zab, zac, zad, ↓zae, ↓zaf, ↓zag, ↓zah, ↓zai, zaj, ↓zak, ↓zal, ↓zam, zan, zao, zap, zaq, ↓zar, ↓zas, ↓zat, ↓zau, ↓zav, ↓zaw, ↓zax, ↓zay, ↓zaz, ↓zba, ↓zbb, ↓zbc, ↓zbd, ↓zbe, ↓zbf, ↓zbg, ↓zbh, ↓zbi, ↓zbj, ↓zbk, ↓zbl, ↓zbm, ↓zbn, ↓zbo, ↓zbp, ↓zbq, ↓zbr, ↓zbs, ↓zbt, ↓zbu, ↓zbv, ↓zbw, ↓zbx, ↓zby, ↓zbz, ↓zca, ↓zcb, ↓zcc, ↓zcd, ↓zce, ↓zcf, ↓zcg, ↓zch, ↓zci, ↓zcj, ↓zck, ↓zcl, ↓zcm, ↓zcn, ↓zco, ↓zcp, ↓zcq, ↓zcr, ↓zcs, ↓zct, ↓zcu, ↓zcv, ↓zcw, ↓zcx, ↓zcy, ↓zcz, ↓zda, ↓zdb, ↓zdc, ↓zdd, ↓zde, ↓zdf, ↓zdg, ↓zdh, ↓zdi, ↓zdj, ↓zdk, ↓zdl, ↓zdm, ↓zdn, ↓zdo, ↓zdp, ↓zdq, ↓zdr, ↓zds, ↓zdt, ↓zdu, ↓zdv, ↓zdw, ↓zdx, ↓zdy, ↓zdz, ↓zea, ↓zeb, ↓zec, ↓zed, ↓zee, zef, zeg, zeh, zei, zej, zek, zel, zem, zen, zeo, zep, zeq, zer, zes, zet, zeu, zev, zew, zex, zey, zez, zfa, zfb, zfc, zfd, zfe, zff, zfg, zfh, zfi, zfj, zfk, zfl, zfm, zfn, zfo, zfp, zfq, zfr, zfs, zft, zfu, zfv, zfw, zfx, zfy, zfz, zga, zgb, zgc, zgd, zge, zgf, zgg, zgh, zgi, zgj, zgk, zgl, zgm, zgn, zgo, zgp, zgq, zgr, zgs, zgt, zgu, zgv, zgw, zgx, zgy, zgz, zha, zhb, zhc, zhd, zhe, zhf, zhg, zhh, zhi, zhj, zhk, zhl, zhm, zhn, zho, zhp, zhq, zhr, zhs, zht, zhu, zhv, zhw, zhx, zhy, zhz, zia, zib, zic, zid, zie, zif, zig, zih, zii, zij, zik, zil, zim, zin, zio, zip, ziq, zir, zis, zit, ziu, ziv, ziw, Int.reduceBEq, Int.reduceLT, Int.reduceLE, Int.reduceNeg, Nat.reduceLeDiff, Nat.reduceAdd, Nat.reduceLT, Nat.reduceSub, reduceCtorEq, Wk.frE, ne_eq, reduceIte, ↓zLc, ↓zFor, ↓zWhl, fo_eq, B_l_about_L2, ix, hc], by simp (disch := first | omega | assumption) only [zaa, zab, zac, zad, ↓zae, ↓zaf, ↓zag, ↓zah, ↓zai, zaj, ↓zak, ↓zal, ↓zam, zan, zao, zap, zaq, ↓zar, ↓zas, ↓zat, ↓zau, ↓zav, ↓zaw, ↓zax, ↓zay, ↓zaz, ↓zba, ↓zbb, ↓zbc, ↓zbd, ↓zbe, ↓zbf, ↓zbg, ↓zbh, ↓zbi, ↓zbj, ↓zbk, ↓zbl, ↓zbm, ↓zbn, ↓zbo, ↓zbp, ↓zbq, ↓zbr, ↓zbs, ↓zbt, ↓zbu, ↓zbv, ↓zbw, ↓zbx, ↓zby, ↓zbz, ↓zca, ↓zcb, ↓zcc, ↓zcd, ↓zce, ↓zcf, ↓zcg, ↓zch, ↓zci, ↓zcj, ↓zck, ↓zcl, ↓zcm, ↓zcn, ↓zco, ↓zcp, ↓zcq, ↓zcr, ↓zcs, ↓zct, ↓zcu, ↓zcv, ↓zcw, ↓zcx, ↓zcy, ↓zcz, ↓zda, ↓zdb, ↓zdc, ↓zdd, ↓zde, ↓zdf, ↓zdg, ↓zdh, ↓zdi, ↓zdj, ↓zdk, ↓zdl, ↓zdm, ↓zdn, ↓zdo, ↓zdp, ↓zdq, ↓zdr, ↓zds, ↓zdt, ↓zdu, ↓zdv, ↓zdw, ↓zdx, ↓zdy, ↓zdz, ↓zea, ↓zeb, ↓zec, ↓zed, ↓zee, zef, zeg, zeh, zei, zej, zek, zel, zem, zen, zeo, zep, zeq, zer, zes, zet, zeu, zev, zew, zex, zey, zez, zfa, zfb, zfc, zfd, zfe, zff, zfg, zfh, zfi, zfj, zfk, zfl, zfm, zfn, zfo, zfp, zfq, zfr, zfs, zft, zfu, zfv, zfw, zfx, zfy, zfz, zga, zgb, zgc, zgd, zge, zgf, zgg, zgh, zgi, zgj, zgk, zgl, zgm, zgn, zgo, zgp, zgq, zgr, zgs, zgt, zgu, zgv, zgw, zgx, zgy, zgz, zha, zhb, zhc, zhd, zhe, zhf, zhg, zhh, zhi, zhj, zhk, zhl, zhm, zhn, zho, zhp, zhq, zhr, zhs, zht, zhu, zhv, zhw, zhx, zhy, zhz, zia, zib, zic, zid, zie, zif, zig, zih, zii, zij, zik, zil, zim, zin, zio, zip, ziq, zir, zis, zit, ziu, ziv, ziw, Int.reduceBEq, Int.reduceLT, Int.reduceLE, Int.reduceNeg, Nat.reduceLeDiff, Nat.reduceAdd, Nat.reduceLT, Nat.reduceSub, reduceCtorEq, Wk.frE, ne_eq, reduceIte, ↓zLc, ↓zFor, ↓zWhl]⟩
    | true =>
      rw [c] at ix hc
      have l1 := fun {a b d e : Option (P × Bool)} => low_loop (F := F) (G := G) (fr := fr) hl2 hpb (a := a) (b := b) (d := d) (e := e)
      have l2 := fun {b d e : Option (P × Bool)} => high_loop (F := F) (G := G) (fr := fr) hl2 hpb hv (b := b) (d := d) (e := e)
      have b1 := lo_le (bs := bs) (p := p)
      have b2 := hi_ge (bs := bs) (k := bs.length - 1 - p) (p := p)
      have e2 : (lo bs p : Int) + (hiF bs (bs.length - 1 - p) p : Nat) - (p : Nat) = ((lo bs p + hiF bs (bs.length - 1 - p) p - p : Nat) : Int) := by omega
      have av : atI vs (p : Int) = some vs[p] := by rw [atI_nat', List.getElem?_eq_getElem hp]
      have pt : putP f (.int ((lo bs p + hiF bs (bs.length - 1 - p) p - p : Nat) : Int)) vs[p] = .ret (f.set (lo bs p + hiF bs (bs.length - 1 - p) p - p) vs[p]) := by
        have en : ixN f.length ((lo bs p + hiF bs (bs.length - 1 - p) p - p : Nat) : Int) = some (lo bs p + hiF bs (bs.length - 1 - p) p - p) := by
          unfold ixN
          rw [if_pos (by omega), if_pos (by omega), Int.toNat_natCast]
        simp only [putP, en]
      refine ⟨[some (.tup vs, false), some (.str (bitsS bs), false), some (.lst (f.set (lo bs p + hiF bs (bs.length - 1 - p) p - p) vs[p]), true), some (.int (p : Nat), false), some (.int (lo bs p : Nat), false), some (.int (hiF bs (bs.length - 1 - p) p : Nat), false)], ?_, by simp (disch := first | omega | assumption) only [zaa, zab, zac, zad, ↓zae, ↓zaf, ↓zag, ↓zah, ↓zai, zaj, ↓zak, ↓zal, ↓zam, zan, zao, zap, zaq, ↓zar, ↓zas, ↓zat, ↓zau, ↓zav, ↓zaw, ↓zax, ↓zay, ↓zaz, ↓zba, ↓zbb, ↓zbc, ↓zbd, ↓zbe, ↓zbf, ↓zbg, ↓zbh, ↓zbi, ↓zbj, ↓zbk, ↓zbl, ↓zbm, ↓zbn, ↓zbo, ↓zbp, ↓zbq, ↓zbr, ↓zbs, ↓zbt, ↓zbu, ↓zbv, ↓zbw, ↓zbx, ↓zby, ↓zbz, ↓zca, ↓zcb, ↓zcc, ↓zcd, ↓zce, ↓zcf, ↓zcg, ↓zch, ↓zci, ↓zcj, ↓zck, ↓zcl, ↓zcm, ↓zcn, ↓zco, ↓zcp, ↓zcq, ↓zcr, ↓zcs, ↓zct, ↓zcu, ↓zcv, ↓zcw, ↓zcx, ↓zcy, ↓zcz, ↓zda, ↓zdb, ↓zdc, ↓zdd, ↓zde, ↓zdf, ↓zdg, ↓zdh, ↓zdi, ↓zdj, ↓zdk, ↓zdl, ↓zdm, ↓zdn, ↓zdo, ↓zdp, ↓zdq, ↓zdr, ↓zds, ↓zdt, ↓zdu, ↓zdv, ↓zdw, ↓zdx, ↓zdy, ↓zdz, ↓zea, ↓zeb, ↓zec, ↓zed, ↓zee, zef, zeg, zeh, zei, zej, zek, zel, zem, zen, zeo, zep, zeq, zer, zes, zet, zeu, zev, zew, zex, zey, zez, zfa, zfb, zfc, zfd, zfe, zff, zfg, zfh, zfi, zfj, zfk, zfl, zfm, zfn, zfo, zfp, zfq, zfr, zfs, zft, zfu, zfv, zfw, zfx, zfy, zfz, zga, zgb, zgc, zgd, zge, zgf, zgg, zgh, zgi, zgj, zgk, zgl, zgm, zgn, zgo, zgp, zgq, zgr, zgs, zgt, zgu, zgv, zgw, zgx, zgy, zgz, zha, zhb, zhc, zhd, zhe, zhf, zhg, zhh, zhi, zhj, zhk, zhl, zhm, zhn, zho, zhp, zhq, zhr, zhs, zht, zhu, zhv, zhw, zhx, zhy, zhz, zia, zib, zic, zid, zie, zif, zig, zih, zii, zij, zik, zil, zim, zin, zio, zip, ziq, zir, zis, zit, ziu, ziv, ziw, Int.reduceBEq, Int.reduceLT, Int.reduceLE, Int.reduceNeg, Nat.reduceLeDiff, Nat.reduceAdd, Nat.reduceLT, Nat.reduceSub, reduceCtorEq, Wk.frE, ne_eq, reduceIte, ↓zLc, ↓zFor, ↓zWhl]⟩
      generalize lo bs p + hiF bs (bs.length - 1 - p) p - p = q at e2 pt
      simp (disch := first | omega | assumption) only [zaa, zab, zac, zad, ↓zae, ↓zaf, ↓zag, ↓zah, ↓zai, zaj, ↓zak, ↓zal, ↓zam, zan, zao, zap, zaq, ↓zar, ↓zas, ↓zat, ↓zau, ↓zav, ↓zaw, ↓zax, ↓zay, ↓zaz, ↓zba, ↓zbb, ↓zbc, ↓zbd, ↓zbe, ↓zbf, ↓zbg, ↓zbh, ↓zbi, ↓zbj, ↓zbk, ↓zbl, ↓zbm, ↓zbn, ↓zbo, ↓zbp, ↓zbq, ↓zbr, ↓zbs, ↓zbt, ↓zbu, ↓zbv, ↓zbw, ↓zbx, ↓zby, ↓zbz, ↓zca, ↓zcb, ↓zcc, ↓zcd, ↓zce, ↓zcf, ↓zcg, ↓zch, ↓zci, ↓zcj, ↓zck, ↓zcl, ↓zcm, ↓zcn, ↓zco, ↓zcp, ↓zcq, ↓zcr, ↓zcs, ↓zct, ↓zcu, ↓zcv, ↓zcw, ↓zcx, ↓zcy, ↓zcz, ↓zda, ↓zdb, ↓zdc, ↓zdd, ↓zde, ↓zdf, ↓zdg, ↓zdh, ↓zdi, ↓zdj, ↓zdk, ↓zdl, ↓zdm, ↓zdn, ↓zdo, ↓zdp, ↓zdq, ↓zdr, ↓zds, ↓zdt, ↓zdu, ↓zdv, ↓zdw, ↓zdx, ↓zdy, ↓zdz, ↓zea, ↓zeb, ↓zec, ↓zed, ↓zee, zef, zeg, zeh, zei, zej, zek, zel, zem, zen, zeo, zep, zeq, zer, zes, zet, zeu, zev, zew, zex, zey, zez, zfa, zfb, zfc, zfd, zfe, zff, zfg, zfh, zfi, zfj, zfk, zfl, zfm, zfn, zfo, zfp, zfq, zfr, zfs, zft, zfu, zfv, zfw, zfx, zfy, zfz, zga, zgb, zgc, zgd, zge, zgf, zgg, zgh, zgi, zgj, zgk, zgl, zgm, zgn, zgo, zgp, zgq, zgr, zgs, zgt, zgu, zgv, zgw, zgx, zgy, zgz, zha, zhb, zhc, zhd, zhe, zhf, zhg, zhh, zhi, zhj, zhk, zhl, zhm, zhn, zho, zhp, zhq, zhr, zhs, zht, zhu, zhv, zhw, zhx, zhy, zhz, zia, zib, zic, zid, zie, zif, zig, zih, zii, zij, zik, zil, zim, zin, zio, zip, ziq, zir, zis, zit, ziu, ziv, ziw, Int.reduceBEq, Int.reduceLT, Int.reduceLE, Int.reduceNeg, Nat.reduceLeDiff, Nat.reduceAdd, Nat.reduceLT, Nat.reduceSub, reduceCtorEq, Wk.frE, ne_eq, reduceIte, ↓zLc, ↓zFor, ↓zWhl, fo_eq, B_l_about_L2, ix, hc, l1, l2, e2, av, pt]
  have e0 := abw_tbw P.non hv hl
  rw [e0] at loop
  have hr : rg1P (.int (vs.length : Nat)) = .ret ((List.range vs.length).map fun k => P.int (k : Nat)) := q_rg1 (by omega)
  simp (disch := first | omega | assumption) only [zaa, zab, zac, zad, ↓zae, ↓zaf, ↓zag, ↓zah, ↓zai, zaj, ↓zak, ↓zal, ↓zam, zan, zao, zap, zaq, ↓zar, ↓zas, ↓zat, ↓zau, ↓zav, ↓zaw, ↓zax, ↓zay, ↓zaz, ↓zba, ↓zbb, ↓zbc, ↓zbd, ↓zbe, ↓zbf, ↓zbg, ↓zbh, ↓zbi, ↓zbj, ↓zbk, ↓zbl, ↓zbm, ↓zbn, ↓zbo, ↓zbp, ↓zbq, ↓zbr, ↓zbs, ↓zbt, ↓zbu, ↓zbv, ↓zbw, ↓zbx, ↓zby, ↓zbz, ↓zca, ↓zcb, ↓zcc, ↓zcd, ↓zce, ↓zcf, ↓zcg, ↓zch, ↓zci, ↓zcj, ↓zck, ↓zcl, ↓zcm, ↓zcn, ↓zco, ↓zcp, ↓zcq, ↓zcr, ↓zcs, ↓zct, ↓zcu, ↓zcv, ↓zcw, ↓zcx, ↓zcy, ↓zcz, ↓zda, ↓zdb, ↓zdc, ↓zdd, ↓zde, ↓zdf, ↓zdg, ↓zdh, ↓zdi, ↓zdj, ↓zdk, ↓zdl, ↓zdm, ↓zdn, ↓zdo, ↓zdp, ↓zdq, ↓zdr, ↓zds, ↓zdt, ↓zdu, ↓zdv, ↓zdw, ↓zdx, ↓zdy, ↓zdz, ↓zea, ↓zeb, ↓zec, ↓zed, ↓zee, zef, zeg, zeh, zei, zej, zek, zel, zem, zen, zeo, zep, zeq, zer, zes, zet, zeu, zev, zew, zex, zey, zez, zfa, zfb, zfc, zfd, zfe, zff, zfg, zfh, zfi, zfj, zfk, zfl, zfm, zfn, zfo, zfp, zfq, zfr, zfs, zft, zfu, zfv, zfw, zfx, zfy, zfz, zga, zgb, zgc, zgd, zge, zgf, zgg, zgh, zgi, zgj, zgk, zgl, zgm, zgn, zgo, zgp, zgq, zgr, zgs, zgt, zgu, zgv, zgw, zgx, zgy, zgz, zha, zhb, zhc, zhd, zhe, zhf, zhg, zhh, zhi, zhj, zhk, zhl, zhm, zhn, zho, zhp, zhq, zhr, zhs, zht, zhu, zhv, zhw, zhx, zhy, zhz, zia, zib, zic, zid, zie, zif, zig, zih, zii, zij, zik, zil, zim, zin, zio, zip, ziq, zir, zis, zit, ziu, ziv, ziw, Int.reduceBEq, Int.reduceLT, Int.reduceLE, Int.reduceNeg, Nat.reduceLeDiff, Nat.reduceAdd, Nat.reduceLT, Nat.reduceSub, reduceCtorEq, Wk.frE, ne_eq, reduceIte, ↓zLc, ↓zFor, ↓zWhl, body_eq, B_l_about, hr, loop]
end
end Wk

set_option Elab.async false
set_option linter.all false
set_option maxRecDepth 100000
set_option maxHeartbeats 4000000
namespace Wk
open PySem PySem.Spec PyProof.Rows L2
section
variable {F : POrc} {G : PShp} {fr : Nat → Bool} {c0 : Nat}
def gapsE : E := .lc [7] (.name 7) (.rng2 (.int 1) (.int 13)) (.some (.cmp .eq (.bin .mod (.var 1) (.var 7)) (.int 0))) (.var 7)
theorem gaps3 {w : Int} {a : Option (P × Bool)} : ∃ gs : List Nat, (∀ k ∈ gs, k < 12) ∧ 0 < gs.length ∧ gs.length ≤ 12 ∧ evP F G (.lc [7] (.name 7) (.rng2 (.int 1) (.int 13)) (.some (.cmp .eq (.bin .mod (.var 1) (.var 7)) (.int 0))) (.var 7)) [a, some (.int w, false), none, none, none, none, none, none, none, none] = .ret (.lst (gs.map fun k => P.int (1 + (k : Nat)))) := by
  refine ⟨(List.range 12).filter fun k => w % (1 + (k : Nat)) == 0, fun k hk => List.mem_range.mp (List.mem_filter.mp hk).1, ?_, Nat.le_trans (List.length_filter_le _ _) (by simp), ?_⟩
  · exact List.length_pos_of_mem (List.mem_filter.mpr ⟨List.mem_range.mpr (show 0 < 12 by decide), by simp⟩)
  · have lz := lc_filter (body := lcT F G (.name 7) (.some (.cmp .eq (.bin .mod (.var 1) (.var 7)) (.int 0))) (.var 7) [a, some (.int w, false), none, none, none, none, none, none, none, none]) (xs := List.range 12) (enc := fun k => P.int (1 + (k : Nat))) (p := fun k => w % (1 + (k : Nat)) == 0) (f := fun k => P.int (1 + (k : Nat))) (fun k hk => by
      have hz : (0 : Int) < 1 + (k : Nat) := by omega
      cases c : (w % (1 + (k : Nat)) == 0) with
      | true => simp (disch := first | omega | assumption) only [zaa, zab, zac, zad, ↓zae, ↓zaf, ↓zag, ↓zah, ↓zai, zaj, ↓zak, ↓zal, ↓zam, zan, zao, zap, zaq, ↓zar, ↓zas, ↓zat, ↓zau, ↓zav, ↓zaw, ↓zax, ↓zay, ↓zaz, ↓zba, ↓zbb, ↓zbc, ↓zbd, ↓zbe, ↓zbf, ↓zbg, ↓zbh, ↓zbi, ↓zbj, ↓zbk, ↓zbl, ↓zbm, ↓zbn, ↓zbo, ↓zbp, ↓zbq, ↓zbr, ↓zbs, ↓zbt, ↓zbu, ↓zbv, ↓zbw, ↓zbx, ↓zby, ↓zbz, ↓zca, ↓zcb, ↓zcc, ↓zcd, ↓zce, ↓zcf, ↓zcg, ↓zch, ↓zci, ↓zcj, ↓zck, ↓zcl, ↓zcm, ↓zcn, ↓zco, ↓zcp, ↓zcq, ↓zcr, ↓zcs, ↓zct, ↓zcu, ↓zcv, ↓zcw, ↓zcx, ↓zcy, ↓zcz, ↓zda, ↓zdb, ↓zdc, ↓zdd, ↓zde, ↓zdf, ↓zdg, ↓zdh, ↓zdi, ↓zdj, ↓zdk, ↓zdl, ↓zdm, ↓zdn, ↓zdo, ↓zdp, ↓zdq, ↓zdr, ↓zds, ↓zdt, ↓zdu, ↓zdv, ↓zdw, ↓zdx, ↓zdy, ↓zdz, ↓zea, ↓zeb, ↓zec, ↓zed, ↓zee, zef, zeg, zeh, zei, zej, zek, zel, zem, zen, zeo, zep, zeq, zer, zes, zet, zeu, zev, zew, zex, zey, zez, zfa, zfb, zfc, zfd, zfe, zff, zfg, zfh, zfi, zfj, zfk, zfl, zfm, zfn, zfo, zfp, zfq, zfr, zfs, zft, zfu, zfv, zfw, zfx, zfy, zfz, zga, zgb, zgc, zgd, zge, zgf, zgg, zgh, zgi, zgj, zgk, zgl, zgm, zgn, zgo, zgp, zgq, zgr, zgs, zgt, zgu, zgv, zgw, zgx, zgy, zgz, zha, zhb, zhc, zhd, zhe, zhf, zhg, zhh, zhi, zhj, zhk, zhl, zhm, zhn, zho, zhp, zhq, zhr, zhs, zht, zhu, zhv, zhw, zhx, zhy, zhz, zia, zib, zic, zid, zie, zif, zig, zih, zii, zij, zik, zil, zim, zin, zio, zip, ziq, zir, zis, zit, ziu, ziv, ziw, Int.reduceBEq, Int.reduceLT, Int.reduceLE, Int.reduceNeg, Nat.reduceLeDiff, Nat.reduceAdd, Nat.reduceLT, Nat.reduceSub, reduceCtorEq, Wk.frE, ne_eq, reduceIte, ↓zLc, ↓zFor, ↓zWhl, lt_eq, c]
      | false => simp (disch := first | omega | assumption) only [zaa, zab, zac, zad, ↓zae, ↓zaf, ↓zag, ↓zah, ↓zai, zaj, ↓zak, ↓zal, ↓zam, zan, zao, zap, zaq, ↓zar, ↓zas, ↓zat, ↓zau, ↓zav, ↓zaw, ↓zax, ↓zay, ↓zaz, ↓zba, ↓zbb, ↓zbc, ↓zbd, ↓zbe, ↓zbf, ↓zbg, ↓zbh, ↓zbi, ↓zbj, ↓zbk, ↓zbl, ↓zbm, ↓zbn, ↓zbo, ↓zbp, ↓zbq, ↓zbr, ↓zbs, ↓zbt, ↓zbu, ↓zbv, ↓zbw, ↓zbx, ↓zby, ↓zbz, ↓zca, ↓zcb, ↓zcc, ↓zcd, ↓zce, ↓zcf, ↓zcg, ↓zch, ↓zci, ↓zcj, ↓zck, ↓zcl, ↓zcm, ↓zcn, ↓zco, ↓zcp, ↓zcq, ↓zcr, ↓zcs, ↓zct, ↓zcu, ↓zcv, ↓zcw, ↓zcx, ↓zcy, ↓zcz, ↓zda, ↓zdb, ↓zdc, ↓zdd, ↓zde, ↓zdf, ↓zdg, ↓zdh, ↓zdi, ↓zdj, ↓zdk, ↓zdl, ↓zdm, ↓zdn, ↓zdo, ↓zdp, ↓zdq, ↓zdr, ↓zds, ↓zdt, ↓zdu, ↓zdv, ↓zdw, ↓zdx, ↓zdy, ↓zdz, ↓zea, ↓zeb, ↓zec, ↓zed, ↓zee, zef, zeg, zeh, zei, zej, zek, zel, zem, zen, zeo, zep, zeq, zer, zes, zet, zeu, zev, zew, zex, zey, zez, zfa, zfb, zfc, zfd, zfe, zff, zfg, zfh, zfi, zfj, zfk, zfl, zfm, zfn, zfo, zfp, zfq, zfr, zfs, zft, zfu, zfv, zfw, zfx, zfy, zfz, zga, zgb, zgc, zgd, zge, zgf, zgg, zgh, zgi, zgj, zgk, zgl, zgm, zgn, zgo, zgp, zgq, zgr, zgs, zgt, zgu, zgv, zgw, zgx, zgy, zgz, zha, zhb, zhc, zhd, zhe, zhf, zhg, zhh, zhi, zhj, zhk, zhl, zhm, zhn, zho, zhp, zhq, zhr, zhs, zht, zhu, zhv, zhw, zhx, zhy, zhz, zia, zib, zic, zid, zie, zif, zig, zih, zii, zij, zik, zil, zim, zin, zio, zip, ziq, zir, zis, zit, ziu, ziv, ziw, Int.reduceBEq, Int.reduceLT, Int.reduceLE, Int.reduceNeg, Nat.reduceLeDiff, Nat.reduceAdd, Nat.reduceLT, Nat.reduceSub, reduceCtorEq, Wk.frE, ne_eq, reduceIte, ↓zLc, ↓zFor, ↓zWhl, lt_eq, c]) (by rw [List.length_range]; decide)
    have h13 : rg2P (.int 1) (.int 13) = .ret ((List.range 12).map fun k => P.int (1 + (k : Nat))) := q_rg2 (by decide)
    rw [p_lc]
    simp (disch := first | omega | assumption) only [zaa, zab, zac, zad, ↓zae, ↓zaf, ↓zag, ↓zah, ↓zai, zaj, ↓zak, ↓zal, ↓zam, zan, zao, zap, zaq, ↓zar, ↓zas, ↓zat, ↓zau, ↓zav, ↓zaw, ↓zax, ↓zay, ↓zaz, ↓zba, ↓zbb, ↓zbc, ↓zbd, ↓zbe, ↓zbf, ↓zbg, ↓zbh, ↓zbi, ↓zbj, ↓zbk, ↓zbl, ↓zbm, ↓zbn, ↓zbo, ↓zbp, ↓zbq, ↓zbr, ↓zbs, ↓zbt, ↓zbu, ↓zbv, ↓zbw, ↓zbx, ↓zby, ↓zbz, ↓zca, ↓zcb, ↓zcc, ↓zcd, ↓zce, ↓zcf, ↓zcg, ↓zch, ↓zci, ↓zcj, ↓zck, ↓zcl, ↓zcm, ↓zcn, ↓zco, ↓zcp, ↓zcq, ↓zcr, ↓zcs, ↓zct, ↓zcu, ↓zcv, ↓zcw, ↓zcx, ↓zcy, ↓zcz, ↓zda, ↓zdb, ↓zdc, ↓zdd, ↓zde, ↓zdf, ↓zdg, ↓zdh, ↓zdi, ↓zdj, ↓zdk, ↓zdl, ↓zdm, ↓zdn, ↓zdo, ↓zdp, ↓zdq, ↓zdr, ↓zds, ↓zdt, ↓zdu, ↓zdv, ↓zdw, ↓zdx, ↓zdy, ↓zdz, ↓zea, ↓zeb, ↓zec, ↓zed, ↓zee, zef, zeg, zeh, zei, zej, zek, zel, zem, zen, zeo, zep, zeq, zer, zes, zet, zeu, zev, zew, zex, zey, zez, zfa, zfb, zfc, zfd, zfe, zff, zfg, zfh, zfi, zfj, zfk, zfl, zfm, zfn, zfo, zfp, zfq, zfr, zfs, zft, zfu, zfv, zfw, zfx, zfy, zfz, zga, zgb, zgc, zgd, zge, zgf, zgg, zgh, zgi, zgj, zgk, zgl, zgm, zgn, zgo, zgp, zgq, zgr, zgs, zgt, zgu, zgv, zgw, zgx, zgy, zgz, zha, zhb, zhc, zhd, zhe, zhf, zhg, zhh, zhi, zhj, zhk, zhl, zhm, zhn, zho, zhp, zhq, zhr, zhs, zht, zhu, zhv, zhw, zhx, zhy, zhz, zia, zib, zic, zid, zie, zif, zig, zih, zii, zij, zik, zil, zim, zin, zio, zip, ziq, zir, zis, zit, ziu, ziv, ziw, Int.reduceBEq, Int.reduceLT, Int.reduceLE, Int.reduceNeg, Nat.reduceLeDiff, Nat.reduceAdd, Nat.reduceLT, Nat.reduceSub, reduceCtorEq, Wk.frE, ne_eq, reduceIte, ↓zLc, ↓zFor, ↓zWhl, h13, lz]
def tr3Env (w m : Int) (gs : List Nat) (way : Bool) (T : List (Nat × Nat)) : PEnv := [some (.pen, false), some (.int w, false), some (.lst (gs.map fun k => P.int (1 + (k : Nat))), false), some (.bl way, false), some (.int m, false), some (.lst (T.map hdP), true), none, none, none, none]
theorem tr3_step (hd : DrOk (F c0)) {t : Nat} {w m : Int} {gs : List Nat} {way : Bool} {T : List (Nat × Nat)} {x : P} (h1 : ∀ k ∈ gs, k < 12) (h2 : 0 < gs.length) (h3 : gs.length ≤ 12) (hT : T.length < 100) (ht : t + 5 < 1000000) :
    (foT F G fr (.name 6) (B_l_troupe_3_L0 c0) x (tr3Env w m gs way T)).ok t fun fl t1 => t1 ≤ t + 3 ∧ ∃ g r env', r < g ∧ g ≤ 12 ∧ fl = .nx env' ∧ wipeP env' [6, 7, 8, 9] = tr3Env w m gs way (T ++ [(g, r)]) := by
  simp (disch := first | omega | assumption) only [zaa, zab, zac, zad, ↓zae, ↓zaf, ↓zag, ↓zah, ↓zai, zaj, ↓zak, ↓zal, ↓zam, zan, zao, zap, zaq, ↓zar, ↓zas, ↓zat, ↓zau, ↓zav, ↓zaw, ↓zax, ↓zay, ↓zaz, ↓zba, ↓zbb, ↓zbc, ↓zbd, ↓zbe, ↓zbf, ↓zbg, ↓zbh, ↓zbi, ↓zbj, ↓zbk, ↓zbl, ↓zbm, ↓zbn, ↓zbo, ↓zbp, ↓zbq, ↓zbr, ↓zbs, ↓zbt, ↓zbu, ↓zbv, ↓zbw, ↓zbx, ↓zby, ↓zbz, ↓zca, ↓zcb, ↓zcc, ↓zcd, ↓zce, ↓zcf, ↓zcg, ↓zch, ↓zci, ↓zcj, ↓zck, ↓zcl, ↓zcm, ↓zcn, ↓zco, ↓zcp, ↓zcq, ↓zcr, ↓zcs, ↓zct, ↓zcu, ↓zcv, ↓zcw, ↓zcx, ↓zcy, ↓zcz, ↓zda, ↓zdb, ↓zdc, ↓zdd, ↓zde, ↓zdf, ↓zdg, ↓zdh, ↓zdi, ↓zdj, ↓zdk, ↓zdl, ↓zdm, ↓zdn, ↓zdo, ↓zdp, ↓zdq, ↓zdr, ↓zds, ↓zdt, ↓zdu, ↓zdv, ↓zdw, ↓zdx, ↓zdy, ↓zdz, ↓zea, ↓zeb, ↓zec, ↓zed, ↓zee, zef, zeg, zeh, zei, zej, zek, zel, zem, zen, zeo, zep, zeq, zer, zes, zet, zeu, zev, zew, zex, zey, zez, zfa, zfb, zfc, zfd, zfe, zff, zfg, zfh, zfi, zfj, zfk, zfl, zfm, zfn, zfo, zfp, zfq, zfr, zfs, zft, zfu, zfv, zfw, zfx, zfy, zfz, zga, zgb, zgc, zgd, zge, zgf, zgg, zgh, zgi, zgj, zgk, zgl, zgm, zgn, zgo, zgp, zgq, zgr, zgs, zgt, zgu, zgv, zgw, zgx, zgy, zgz, zha, zhb, zhc, zhd, zhe, zhf, zhg, zhh, zhi, zhj, zhk, zhl, zhm, zhn, zho, zhp, zhq, zhr, zhs, zht, zhu, zhv, zhw, zhx, zhy, zhz, zia, zib, zic, zid, zie, zif, zig, zih, zii, zij, zik, zil, zim, zin, zio, zip, ziq, zir, zis, zit, ziu, ziv, ziw, Int.reduceBEq, Int.reduceLT, Int.reduceLE, Int.reduceNeg, Nat.reduceLeDiff, Nat.reduceAdd, Nat.reduceLT, Nat.reduceSub, reduceCtorEq, Wk.frE, ne_eq, reduceIte, ↓zLc, ↓zFor, ↓zWhl, fo_eq, B_l_troupe_3_L0, tr3Env, List.length_map]
  refine dr_bind hd (by omega) (by omega) (by omega) fun a a0 a1 => ?_
  obtain ⟨k, ak, hk⟩ : ∃ k : Nat, atI (gs.map fun k => P.int (1 + (k : Nat))) a = some (.int (1 + (k : Nat))) ∧ k < 12 := by
    obtain ⟨n, rfl⟩ : ∃ n : Nat, a = n := ⟨a.toNat, by omega⟩
    exact ⟨gs[n]'(by omega), by rw [atI_nat', List.getElem?_map, List.getElem?_eq_getElem (by omega : n < gs.length)]; rfl, h1 _ (List.getElem_mem _)⟩
  simp (disch := first | omega | assumption) only [zaa, zab, zac, zad, ↓zae, ↓zaf, ↓zag, ↓zah, ↓zai, zaj, ↓zak, ↓zal, ↓zam, zan, zao, zap, zaq, ↓zar, ↓zas, ↓zat, ↓zau, ↓zav, ↓zaw, ↓zax, ↓zay, ↓zaz, ↓zba, ↓zbb, ↓zbc, ↓zbd, ↓zbe, ↓zbf, ↓zbg, ↓zbh, ↓zbi, ↓zbj, ↓zbk, ↓zbl, ↓zbm, ↓zbn, ↓zbo, ↓zbp, ↓zbq, ↓zbr, ↓zbs, ↓zbt, ↓zbu, ↓zbv, ↓zbw, ↓zbx, ↓zby, ↓zbz, ↓zca, ↓zcb, ↓zcc, ↓zcd, ↓zce, ↓zcf, ↓zcg, ↓zch, ↓zci, ↓zcj, ↓zck, ↓zcl, ↓zcm, ↓zcn, ↓zco, ↓zcp, ↓zcq, ↓zcr, ↓zcs, ↓zct, ↓zcu, ↓zcv, ↓zcw, ↓zcx, ↓zcy, ↓zcz, ↓zda, ↓zdb, ↓zdc, ↓zdd, ↓zde, ↓zdf, ↓zdg, ↓zdh, ↓zdi, ↓zdj, ↓zdk, ↓zdl, ↓zdm, ↓zdn, ↓zdo, ↓zdp, ↓zdq, ↓zdr, ↓zds, ↓zdt, ↓zdu, ↓zdv, ↓zdw, ↓zdx, ↓zdy, ↓zdz, ↓zea, ↓zeb, ↓zec, ↓zed, ↓zee, zef, zeg, zeh, zei, zej, zek, zel, zem, zen, zeo, zep, zeq, zer, zes, zet, zeu, zev, zew, zex, zey, zez, zfa, zfb, zfc, zfd, zfe, zff, zfg, zfh, zfi, zfj, zfk, zfl, zfm, zfn, zfo, zfp, zfq, zfr, zfs, zft, zfu, zfv, zfw, zfx, zfy, zfz, zga, zgb, zgc, zgd, zge, zgf, zgg, zgh, zgi, zgj, zgk, zgl, zgm, zgn, zgo, zgp, zgq, zgr, zgs, zgt, zgu, zgv, zgw, zgx, zgy, zgz, zha, zhb, zhc, zhd, zhe, zhf, zhg, zhh, zhi, zhj, zhk, zhl, zhm, zhn, zho, zhp, zhq, zhr, zhs, zht, zhu, zhv, zhw, zhx, zhy, zhz, zia, zib, zic, zid, zie, zif, zig, zih, zii, zij, zik, zil, zim, zin, zio, zip, ziq, zir, zis, zit, ziu, ziv, ziw, Int.reduceBEq, Int.reduceLT, Int.reduceLE, Int.reduceNeg, Nat.reduceLeDiff, Nat.reduceAdd, Nat.reduceLT, Nat.reduceSub, reduceCtorEq, Wk.frE, ne_eq, reduceIte, ↓zLc, ↓zFor, ↓zWhl, ak]
  refine dr_bind hd (by omega) (by omega) (by omega) fun b b0 b1 => ?_
  simp (disch := first | omega | assumption) only [zaa, zab, zac, zad, ↓zae, ↓zaf, ↓zag, ↓zah, ↓zai, zaj, ↓zak, ↓zal, ↓zam, zan, zao, zap, zaq, ↓zar, ↓zas, ↓zat, ↓zau, ↓zav, ↓zaw, ↓zax, ↓zay, ↓zaz, ↓zba, ↓zbb, ↓zbc, ↓zbd, ↓zbe, ↓zbf, ↓zbg, ↓zbh, ↓zbi, ↓zbj, ↓zbk, ↓zbl, ↓zbm, ↓zbn, ↓zbo, ↓zbp, ↓zbq, ↓zbr, ↓zbs, ↓zbt, ↓zbu, ↓zbv, ↓zbw, ↓zbx, ↓zby, ↓zbz, ↓zca, ↓zcb, ↓zcc, ↓zcd, ↓zce, ↓zcf, ↓zcg, ↓zch, ↓zci, ↓zcj, ↓zck, ↓zcl, ↓zcm, ↓zcn, ↓zco, ↓zcp, ↓zcq, ↓zcr, ↓zcs, ↓zct, ↓zcu, ↓zcv, ↓zcw, ↓zcx, ↓zcy, ↓zcz, ↓zda, ↓zdb, ↓zdc, ↓zdd, ↓zde, ↓zdf, ↓zdg, ↓zdh, ↓zdi, ↓zdj, ↓zdk, ↓zdl, ↓zdm, ↓zdn, ↓zdo, ↓zdp, ↓zdq, ↓zdr, ↓zds, ↓zdt, ↓zdu, ↓zdv, ↓zdw, ↓zdx, ↓zdy, ↓zdz, ↓zea, ↓zeb, ↓zec, ↓zed, ↓zee, zef, zeg, zeh, zei, zej, zek, zel, zem, zen, zeo, zep, zeq, zer, zes, zet, zeu, zev, zew, zex, zey, zez, zfa, zfb, zfc, zfd, zfe, zff, zfg, zfh, zfi, zfj, zfk, zfl, zfm, zfn, zfo, zfp, zfq, zfr, zfs, zft, zfu, zfv, zfw, zfx, zfy, zfz, zga, zgb, zgc, zgd, zge, zgf, zgg, zgh, zgi, zgj, zgk, zgl, zgm, zgn, zgo, zgp, zgq, zgr, zgs, zgt, zgu, zgv, zgw, zgx, zgy, zgz, zha, zhb, zhc, zhd, zhe, zhf, zhg, zhh, zhi, zhj, zhk, zhl, zhm, zhn, zho, zhp, zhq, zhr, zhs, zht, zhu, zhv, zhw, zhx, zhy, zhz, zia, zib, zic, zid, zie, zif, zig, zih, zii, zij, zik, zil, zim, zin, zio, zip, ziq, zir, zis, zit, ziu, ziv, ziw, Int.reduceBEq, Int.reduceLT, Int.reduceLE, Int.reduceNeg, Nat.reduceLeDiff, Nat.reduceAdd, Nat.reduceLT, Nat.reduceSub, reduceCtorEq, Wk.frE, ne_eq, reduceIte, ↓zLc, ↓zFor, ↓zWhl]
  refine dr_bind hd (by omega) (by omega) (by omega) fun c c0 c1 => ?_
  obtain ⟨e, me⟩ : ∃ e, binP .mul (.int ((1 + (k : Int)) / 2)) (.int c) = .ret (.int e) := ⟨_, q_mulL (by omega)⟩
  have ap : ∀ v, chgP .append (T.map hdP) [v] = .ret (T.map hdP ++ [v]) := fun v => q_app (by rw [List.length_map]; exact Nat.lt_trans hT (by decide))
  have fin : ∀ r : Int, 0 ≤ r → r < 1 + (k : Int) → ∃ g r' : Nat, r' < g ∧ g ≤ 12 ∧ P.tup [.int (1 + (k : Int)), .int r] = hdP (g, r') := fun r r0 r1 => ⟨1 + k, r.toNat, by omega, by omega, by unfold hdP; dsimp only; rw [show ((r.toNat : Nat) : Int) = r by omega, show ((1 + k : Nat) : Int) = 1 + (k : Int) by omega]⟩
  have zk : (0 : Int) < 1 + (k : Int) := by omega
  cases way with
  | false =>
    obtain ⟨g, r, q1, q2, q3⟩ := fin b b0 b1
    have i0 : ∀ z : P, atI [P.int b, z] 0 = some (.int b) := fun z => rfl
    cases p : ((1 + (k : Int)) % 2 == 0) with
    | true => simp (disch := first | omega | assumption) only [zaa, zab, zac, zad, ↓zae, ↓zaf, ↓zag, ↓zah, ↓zai, zaj, ↓zak, ↓zal, ↓zam, zan, zao, zap, zaq, ↓zar, ↓zas, ↓zat, ↓zau, ↓zav, ↓zaw, ↓zax, ↓zay, ↓zaz, ↓zba, ↓zbb, ↓zbc, ↓zbd, ↓zbe, ↓zbf, ↓zbg, ↓zbh, ↓zbi, ↓zbj, ↓zbk, ↓zbl, ↓zbm, ↓zbn, ↓zbo, ↓zbp, ↓zbq, ↓zbr, ↓zbs, ↓zbt, ↓zbu, ↓zbv, ↓zbw, ↓zbx, ↓zby, ↓zbz, ↓zca, ↓zcb, ↓zcc, ↓zcd, ↓zce, ↓zcf, ↓zcg, ↓zch, ↓zci, ↓zcj, ↓zck, ↓zcl, ↓zcm, ↓zcn, ↓zco, ↓zcp, ↓zcq, ↓zcr, ↓zcs, ↓zct, ↓zcu, ↓zcv, ↓zcw, ↓zcx, ↓zcy, ↓zcz, ↓zda, ↓zdb, ↓zdc, ↓zdd, ↓zde, ↓zdf, ↓zdg, ↓zdh, ↓zdi, ↓zdj, ↓zdk, ↓zdl, ↓zdm, ↓zdn, ↓zdo, ↓zdp, ↓zdq, ↓zdr, ↓zds, ↓zdt, ↓zdu, ↓zdv, ↓zdw, ↓zdx, ↓zdy, ↓zdz, ↓zea, ↓zeb, ↓zec, ↓zed, ↓zee, zef, zeg, zeh, zei, zej, zek, zel, zem, zen, zeo, zep, zeq, zer, zes, zet, zeu, zev, zew, zex, zey, zez, zfa, zfb, zfc, zfd, zfe, zff, zfg, zfh, zfi, zfj, zfk, zfl, zfm, zfn, zfo, zfp, zfq, zfr, zfs, zft, zfu, zfv, zfw, zfx, zfy, zfz, zga, zgb, zgc, zgd, zge, zgf, zgg, zgh, zgi, zgj, zgk, zgl, zgm, zgn, zgo, zgp, zgq, zgr, zgs, zgt, zgu, zgv, zgw, zgx, zgy, zgz, zha, zhb, zhc, zhd, zhe, zhf, zhg, zhh, zhi, zhj, zhk, zhl, zhm, zhn, zho, zhp, zhq, zhr, zhs, zht, zhu, zhv, zhw, zhx, zhy, zhz, zia, zib, zic, zid, zie, zif, zig, zih, zii, zij, zik, zil, zim, zin, zio, zip, ziq, zir, zis, zit, ziu, ziv, ziw, Int.reduceBEq, Int.reduceLT, Int.reduceLE, Int.reduceNeg, Nat.reduceLeDiff, Nat.reduceAdd, Nat.reduceLT, Nat.reduceSub, reduceCtorEq, Wk.frE, ne_eq, reduceIte, ↓zLc, ↓zFor, ↓zWhl, me, p, ap, i0, ok_ret, q3]; exact ⟨by omega, g, r, _, q1, q2, rfl, by simp (disch := first | omega | assumption) only [zaa, zab, zac, zad, ↓zae, ↓zaf, ↓zag, ↓zah, ↓zai, zaj, ↓zak, ↓zal, ↓zam, zan, zao, zap, zaq, ↓zar, ↓zas, ↓zat, ↓zau, ↓zav, ↓zaw, ↓zax, ↓zay, ↓zaz, ↓zba, ↓zbb, ↓zbc, ↓zbd, ↓zbe, ↓zbf, ↓zbg, ↓zbh, ↓zbi, ↓zbj, ↓zbk, ↓zbl, ↓zbm, ↓zbn, ↓zbo, ↓zbp, ↓zbq, ↓zbr, ↓zbs, ↓zbt, ↓zbu, ↓zbv, ↓zbw, ↓zbx, ↓zby, ↓zbz, ↓zca, ↓zcb, ↓zcc, ↓zcd, ↓zce, ↓zcf, ↓zcg, ↓zch, ↓zci, ↓zcj, ↓zck, ↓zcl, ↓zcm, ↓zcn, ↓zco, ↓zcp, ↓zcq, ↓zcr, ↓zcs, ↓zct, ↓zcu, ↓zcv, ↓zcw, ↓zcx, ↓zcy, ↓zcz, ↓zda, ↓zdb, ↓zdc, ↓zdd, ↓zde, ↓zdf, ↓zdg, ↓zdh, ↓zdi, ↓zdj, ↓zdk, ↓zdl, ↓zdm, ↓zdn, ↓zdo, ↓zdp, ↓zdq, ↓zdr, ↓zds, ↓zdt, ↓zdu, ↓zdv, ↓zdw, ↓zdx, ↓zdy, ↓zdz, ↓zea, ↓zeb, ↓zec, ↓zed, ↓zee, zef, zeg, zeh, zei, zej, zek, zel, zem, zen, zeo, zep, zeq, zer, zes, zet, zeu, zev, zew, zex, zey, zez, zfa, zfb, zfc, zfd, zfe, zff, zfg, zfh, zfi, zfj, zfk, zfl, zfm, zfn, zfo, zfp, zfq, zfr, zfs, zft, zfu, zfv, zfw, zfx, zfy, zfz, zga, zgb, zgc, zgd, zge, zgf, zgg, zgh, zgi, zgj, zgk, zgl, zgm, zgn, zgo, zgp, zgq, zgr, zgs, zgt, zgu, zgv, zgw, zgx, zgy, zgz, zha, zhb, zhc, zhd, zhe, zhf, zhg, zhh, zhi, zhj, zhk, zhl, zhm, zhn, zho, zhp, zhq, zhr, zhs, zht, zhu, zhv, zhw, zhx, zhy, zhz, zia, zib, zic, zid, zie, zif, zig, zih, zii, zij, zik, zil, zim, zin, zio, zip, ziq, zir, zis, zit, ziu, ziv, ziw, Int.reduceBEq, Int.reduceLT, Int.reduceLE, Int.reduceNeg, Nat.reduceLeDiff, Nat.reduceAdd, Nat.reduceLT, Nat.reduceSub, reduceCtorEq, Wk.frE, ne_eq, reduceIte, ↓zLc, ↓zFor, ↓zWhl, List.map_append]⟩
    | false => simp (disch := first | omega | assumption) only [zaa, zab, zac, zad, ↓zae, ↓zaf, ↓zag, ↓zah, ↓zai, zaj, ↓zak, ↓zal, ↓zam, zan, zao, zap, zaq, ↓zar, ↓zas, ↓zat, ↓zau, ↓zav, ↓zaw, ↓zax, ↓zay, ↓zaz, ↓zba, ↓zbb, ↓zbc, ↓zbd, ↓zbe, ↓zbf, ↓zbg, ↓zbh, ↓zbi, ↓zbj, ↓zbk, ↓zbl, ↓zbm, ↓zbn, ↓zbo, ↓zbp, ↓zbq, ↓zbr, ↓zbs, ↓zbt, ↓zbu, ↓zbv, ↓zbw, ↓zbx, ↓zby, ↓zbz, ↓zca, ↓zcb, ↓zcc, ↓zcd, ↓zce, ↓zcf, ↓zcg, ↓zch, ↓zci, ↓zcj, ↓zck, ↓zcl, ↓zcm, ↓zcn, ↓zco, ↓zcp, ↓zcq, ↓zcr, ↓zcs, ↓zct, ↓zcu, ↓zcv, ↓zcw, ↓zcx, ↓zcy, ↓zcz, ↓zda, ↓zdb, ↓zdc, ↓zdd, ↓zde, ↓zdf, ↓zdg, ↓zdh, ↓zdi, ↓zdj, ↓zdk, ↓zdl, ↓zdm, ↓zdn, ↓zdo, ↓zdp, ↓zdq, ↓zdr, ↓zds, ↓zdt, ↓zdu, ↓zdv, ↓zdw, ↓zdx, ↓zdy, ↓zdz, ↓zea, ↓zeb, ↓zec, ↓zed, ↓zee, zef, zeg, zeh, zei, zej, zek, zel, zem, zen, zeo, zep, zeq, zer, zes, zet, zeu, zev, zew, zex, zey, zez, zfa, zfb, zfc, zfd, zfe, zff, zfg, zfh, zfi, zfj, zfk, zfl, zfm, zfn, zfo, zfp, zfq, zfr, zfs, zft, zfu, zfv, zfw, zfx, zfy, zfz, zga, zgb, zgc, zgd, zge, zgf, zgg, zgh, zgi, zgj, zgk, zgl, zgm, zgn, zgo, zgp, zgq, zgr, zgs, zgt, zgu, zgv, zgw, zgx, zgy, zgz, zha, zhb, zhc, zhd, zhe, zhf, zhg, zhh, zhi, zhj, zhk, zhl, zhm, zhn, zho, zhp, zhq, zhr, zhs, zht, zhu, zhv, zhw, zhx, zhy, zhz, zia, zib, zic, zid, zie, zif, zig, zih, zii, zij, zik, zil, zim, zin, zio, zip, ziq, zir, zis, zit, ziu, ziv, ziw, Int.reduceBEq, Int.reduceLT, Int.reduceLE, Int.reduceNeg, Nat.reduceLeDiff, Nat.reduceAdd, Nat.reduceLT, Nat.reduceSub, reduceCtorEq, Wk.frE, ne_eq, reduceIte, ↓zLc, ↓zFor, ↓zWhl, me, p, ap, i0, ok_ret, q3]; exact ⟨by omega, g, r, _, q1, q2, rfl, by simp (disch := first | omega | assumption) only [zaa, zab, zac, zad, ↓zae, ↓zaf, ↓zag, ↓zah, ↓zai, zaj, ↓zak, ↓zal, ↓zam, zan, zao, zap, zaq, ↓zar, ↓zas, ↓zat, ↓zau, ↓zav, ↓zaw, ↓zax, ↓zay, ↓zaz, ↓zba, ↓zbb, ↓zbc, ↓zbd, ↓zbe, ↓zbf, ↓zbg, ↓zbh, ↓zbi, ↓zbj, ↓zbk, ↓zbl, ↓zbm, ↓zbn, ↓zbo, ↓zbp, ↓zbq, ↓zbr, ↓zbs, ↓zbt, ↓zbu, ↓zbv, ↓zbw, ↓zbx, ↓zby, ↓zbz, ↓zca, ↓zcb, ↓zcc, ↓zcd, ↓zce, ↓zcf, ↓zcg, ↓zch, ↓zci, ↓zcj, ↓zck, ↓zcl, ↓zcm, ↓zcn, ↓zco, ↓zcp, ↓zcq, ↓zcr, ↓zcs, ↓zct, ↓zcu, ↓zcv, ↓zcw, ↓zcx, ↓zcy, ↓zcz, ↓zda, ↓zdb, ↓zdc, ↓zdd, ↓zde, ↓zdf, ↓zdg, ↓zdh, ↓zdi, ↓zdj, ↓zdk, ↓zdl, ↓zdm, ↓zdn, ↓zdo, ↓zdp, ↓zdq, ↓zdr, ↓zds, ↓zdt, ↓zdu, ↓zdv, ↓zdw, ↓zdx, ↓zdy, ↓zdz, ↓zea, ↓zeb, ↓zec, ↓zed, ↓zee, zef, zeg, zeh, zei, zej, zek, zel, zem, zen, zeo, zep, zeq, zer, zes, zet, zeu, zev, zew, zex, zey, zez, zfa, zfb, zfc, zfd, zfe, zff, zfg, zfh, zfi, zfj, zfk, zfl, zfm, zfn, zfo, zfp, zfq, zfr, zfs, zft, zfu, zfv, zfw, zfx, zfy, zfz, zga, zgb, zgc, zgd, zge, zgf, zgg, zgh, zgi, zgj, zgk, zgl, zgm, zgn, zgo, zgp, zgq, zgr, zgs, zgt, zgu, zgv, zgw, zgx, zgy, zgz, zha, zhb, zhc, zhd, zhe, zhf, zhg, zhh, zhi, zhj, zhk, zhl, zhm, zhn, zho, zhp, zhq, zhr, zhs, zht, zhu, zhv, zhw, zhx, zhy, zhz, zia, zib, zic, zid, zie, zif, zig, zih, zii, zij, zik, zil, zim, zin, zio, zip, ziq, zir, zis, zit, ziu, ziv, ziw, Int.reduceBEq, Int.reduceLT, Int.reduceLE, Int.reduceNeg, Nat.reduceLeDiff, Nat.reduceAdd, Nat.reduceLT, Nat.reduceSub, reduceCtorEq, Wk.frE, ne_eq, reduceIte, ↓zLc, ↓zFor, ↓zWhl, List.map_append]⟩
  | true =>
    have i1 : ∀ z y : P, atI [z, y] 1 = some y := fun z y => rfl
    cases p : ((1 + (k : Int)) % 2 == 0) with
    | true =>
      obtain ⟨g, r, q1, q2, q3⟩ := fin ((m + e * 1) % (1 + (k : Int))) (Int.emod_nonneg _ (by omega)) (Int.emod_lt_of_pos _ zk)
      simp (disch := first | omega | assumption) only [zaa, zab, zac, zad, ↓zae, ↓zaf, ↓zag, ↓zah, ↓zai, zaj, ↓zak, ↓zal, ↓zam, zan, zao, zap, zaq, ↓zar, ↓zas, ↓zat, ↓zau, ↓zav, ↓zaw, ↓zax, ↓zay, ↓zaz, ↓zba, ↓zbb, ↓zbc, ↓zbd, ↓zbe, ↓zbf, ↓zbg, ↓zbh, ↓zbi, ↓zbj, ↓zbk, ↓zbl, ↓zbm, ↓zbn, ↓zbo, ↓zbp, ↓zbq, ↓zbr, ↓zbs, ↓zbt, ↓zbu, ↓zbv, ↓zbw, ↓zbx, ↓zby, ↓zbz, ↓zca, ↓zcb, ↓zcc, ↓zcd, ↓zce, ↓zcf, ↓zcg, ↓zch, ↓zci, ↓zcj, ↓zck, ↓zcl, ↓zcm, ↓zcn, ↓zco, ↓zcp, ↓zcq, ↓zcr, ↓zcs, ↓zct, ↓zcu, ↓zcv, ↓zcw, ↓zcx, ↓zcy, ↓zcz, ↓zda, ↓zdb, ↓zdc, ↓zdd, ↓zde, ↓zdf, ↓zdg, ↓zdh, ↓zdi, ↓zdj, ↓zdk, ↓zdl, ↓zdm, ↓zdn, ↓zdo, ↓zdp, ↓zdq, ↓zdr, ↓zds, ↓zdt, ↓zdu, ↓zdv, ↓zdw, ↓zdx, ↓zdy, ↓zdz, ↓zea, ↓zeb, ↓zec, ↓zed, ↓zee, zef, zeg, zeh, zei, zej, zek, zel, zem, zen, zeo, zep, zeq, zer, zes, zet, zeu, zev, zew, zex, zey, zez, zfa, zfb, zfc, zfd, zfe, zff, zfg, zfh, zfi, zfj, zfk, zfl, zfm, zfn, zfo, zfp, zfq, zfr, zfs, zft, zfu, zfv, zfw, zfx, zfy, zfz, zga, zgb, zgc, zgd, zge, zgf, zgg, zgh, zgi, zgj, zgk, zgl, zgm, zgn, zgo, zgp, zgq, zgr, zgs, zgt, zgu, zgv, zgw, zgx, zgy, zgz, zha, zhb, zhc, zhd, zhe, zhf, zhg, zhh, zhi, zhj, zhk, zhl, zhm, zhn, zho, zhp, zhq, zhr, zhs, zht, zhu, zhv, zhw, zhx, zhy, zhz, zia, zib, zic, zid, zie, zif, zig, zih, zii, zij, zik, zil, zim, zin, zio, zip, ziq, zir, zis, zit, ziu, ziv, ziw, Int.reduceBEq, Int.reduceLT, Int.reduceLE, Int.reduceNeg, Nat.reduceLeDiff, Nat.reduceAdd, Nat.reduceLT, Nat.reduceSub, reduceCtorEq, Wk.frE, ne_eq, reduceIte, ↓zLc, ↓zFor, ↓zWhl, me, p, ap, i1, ok_ret, q3]; exact ⟨by omega, g, r, _, q1, q2, rfl, by simp (disch := first | omega | assumption) only [zaa, zab, zac, zad, ↓zae, ↓zaf, ↓zag, ↓zah, ↓zai, zaj, ↓zak, ↓zal, ↓zam, zan, zao, zap, zaq, ↓zar, ↓zas, ↓zat, ↓zau, ↓zav, ↓zaw, ↓zax, ↓zay, ↓zaz, ↓zba, ↓zbb, ↓zbc, ↓zbd, ↓zbe, ↓zbf, ↓zbg, ↓zbh, ↓zbi, ↓zbj, ↓zbk, ↓zbl, ↓zbm, ↓zbn, ↓zbo, ↓zbp, ↓zbq, ↓zbr, ↓zbs, ↓zbt, ↓zbu, ↓zbv, ↓zbw, ↓zbx, ↓zby, ↓zbz, ↓zca, ↓zcb, ↓zcc, ↓zcd, ↓zce, ↓zcf, ↓zcg, ↓zch, ↓zci, ↓zcj, ↓zck, ↓zcl, ↓zcm, ↓zcn, ↓zco, ↓zcp, ↓zcq, ↓zcr, ↓zcs, ↓zct, ↓zcu, ↓zcv, ↓zcw, ↓zcx, ↓zcy, ↓zcz, ↓zda, ↓zdb, ↓zdc, ↓zdd, ↓zde, ↓zdf, ↓zdg, ↓zdh, ↓zdi, ↓zdj, ↓zdk, ↓zdl, ↓zdm, ↓zdn, ↓zdo, ↓zdp, ↓zdq, ↓zdr, ↓zds, ↓zdt, ↓zdu, ↓zdv, ↓zdw, ↓zdx, ↓zdy, ↓zdz, ↓zea, ↓zeb, ↓zec, ↓zed, ↓zee, zef, zeg, zeh, zei, zej, zek, zel, zem, zen, zeo, zep, zeq, zer, zes, zet, zeu, zev, zew, zex, zey, zez, zfa, zfb, zfc, zfd, zfe, zff, zfg, zfh, zfi, zfj, zfk, zfl, zfm, zfn, zfo, zfp, zfq, zfr, zfs, zft, zfu, zfv, zfw, zfx, zfy, zfz, zga, zgb, zgc, zgd, zge, zgf, zgg, zgh, zgi, zgj, zgk, zgl, zgm, zgn, zgo, zgp, zgq, zgr, zgs, zgt, zgu, zgv, zgw, zgx, zgy, zgz, zha, zhb, zhc, zhd, zhe, zhf, zhg, zhh, zhi, zhj, zhk, zhl, zhm, zhn, zho, zhp, zhq, zhr, zhs, zht, zhu, zhv, zhw, zhx, zhy, zhz, zia, zib, zic, zid, zie, zif, zig, zih, zii, zij, zik, zil, zim, zin, zio, zip, ziq, zir, zis, zit, ziu, ziv, ziw, Int.reduceBEq, Int.reduceLT, Int.reduceLE, Int.reduceNeg, Nat.reduceLeDiff, Nat.reduceAdd, Nat.reduceLT, Nat.reduceSub, reduceCtorEq, Wk.frE, ne_eq, reduceIte, ↓zLc, ↓zFor, ↓zWhl, List.map_append]⟩
    | false =>
      obtain ⟨g, r, q1, q2, q3⟩ := fin ((m + e * 0) % (1 + (k : Int))) (Int.emod_nonneg _ (by omega)) (Int.emod_lt_of_pos _ zk)
      simp (disch := first | omega | assumption) only [zaa, zab, zac, zad, ↓zae, ↓zaf, ↓zag, ↓zah, ↓zai, zaj, ↓zak, ↓zal, ↓zam, zan, zao, zap, zaq, ↓zar, ↓zas, ↓zat, ↓zau, ↓zav, ↓zaw, ↓zax, ↓zay, ↓zaz, ↓zba, ↓zbb, ↓zbc, ↓zbd, ↓zbe, ↓zbf, ↓zbg, ↓zbh, ↓zbi, ↓zbj, ↓zbk, ↓zbl, ↓zbm, ↓zbn, ↓zbo, ↓zbp, ↓zbq, ↓zbr, ↓zbs, ↓zbt, ↓zbu, ↓zbv, ↓zbw, ↓zbx, ↓zby, ↓zbz, ↓zca, ↓zcb, ↓zcc, ↓zcd, ↓zce, ↓zcf, ↓zcg, ↓zch, ↓zci, ↓zcj, ↓zck, ↓zcl, ↓zcm, ↓zcn, ↓zco, ↓zcp, ↓zcq, ↓zcr, ↓zcs, ↓zct, ↓zcu, ↓zcv, ↓zcw, ↓zcx, ↓zcy, ↓zcz, ↓zda, ↓zdb, ↓zdc, ↓zdd, ↓zde, ↓zdf, ↓zdg, ↓zdh, ↓zdi, ↓zdj, ↓zdk, ↓zdl, ↓zdm, ↓zdn, ↓zdo, ↓zdp, ↓zdq, ↓zdr, ↓zds, ↓zdt, ↓zdu, ↓zdv, ↓zdw, ↓zdx, ↓zdy, ↓zdz, ↓zea, ↓zeb, ↓zec, ↓zed, ↓zee, zef, zeg, zeh, zei, zej, zek, zel, zem, zen, zeo, zep, zeq, zer, zes, zet, zeu, zev, zew, zex, zey, zez, zfa, zfb, zfc, zfd, zfe, zff, zfg, zfh, zfi, zfj, zfk, zfl, zfm, zfn, zfo, zfp, zfq, zfr, zfs, zft, zfu, zfv, zfw, zfx, zfy, zfz, zga, zgb, zgc, zgd, zge, zgf, zgg, zgh, zgi, zgj, zgk, zgl, zgm, zgn, zgo, zgp, zgq, zgr, zgs, zgt, zgu, zgv, zgw, zgx, zgy, zgz, zha, zhb, zhc, zhd, zhe, zhf, zhg, zhh, zhi, zhj, zhk, zhl, zhm, zhn, zho, zhp, zhq, zhr, zhs, zht, zhu, zhv, zhw, zhx, zhy, zhz, zia, zib, zic, zid, zie, zif, zig, zih, zii, zij, zik, zil, zim, zin, zio, zip, ziq, zir, zis, zit, ziu, ziv, ziw, Int.reduceBEq, Int.reduceLT, Int.reduceLE, Int.reduceNeg, Nat.reduceLeDiff, Nat.reduceAdd, Nat.reduceLT, Nat.reduceSub, reduceCtorEq, Wk.frE, ne_eq, reduceIte, ↓zLc, ↓zFor, ↓zWhl, me, p, ap, i1, ok_ret, q3]; exact ⟨by omega, g, r, _, q1, q2, rfl, by simp (disch := first | omega | assumption) only [zaa, zab, zac, zad, ↓zae, ↓zaf, ↓zag, ↓zah, ↓zai, zaj, ↓zak, ↓zal, ↓zam, zan, zao, zap, zaq, ↓zar, ↓zas, ↓zat, ↓zau, ↓zav, ↓zaw, ↓zax, ↓zay, ↓zaz, ↓zba, ↓zbb, ↓zbc, ↓zbd, ↓zbe, ↓zbf, ↓zbg, ↓zbh, ↓zbi, ↓zbj, ↓zbk, ↓zbl, ↓zbm, ↓zbn, ↓zbo, ↓zbp, ↓zbq, ↓zbr, ↓zbs, ↓zbt, ↓zbu, ↓zbv, ↓zbw, ↓zbx, ↓zby, ↓zbz, ↓zca, ↓zcb, ↓zcc, ↓zcd, ↓zce, ↓zcf, ↓zcg, ↓zch, ↓zci, ↓zcj, ↓zck, ↓zcl, ↓zcm, ↓zcn, ↓zco, ↓zcp, ↓zcq, ↓zcr, ↓zcs, ↓zct, ↓zcu, ↓zcv, ↓zcw, ↓zcx, ↓zcy, ↓zcz, ↓zda, ↓zdb, ↓zdc, ↓zdd, ↓zde, ↓zdf, ↓zdg, ↓zdh, ↓zdi, ↓zdj, ↓zdk, ↓zdl, ↓zdm, ↓zdn, ↓zdo, ↓zdp, ↓zdq, ↓zdr, ↓zds, ↓zdt, ↓zdu, ↓zdv, ↓zdw, ↓zdx, ↓zdy, ↓zdz, ↓zea, ↓zeb, ↓zec, ↓zed, ↓zee, zef, zeg, zeh, zei, zej, zek, zel, zem, zen, zeo, zep, zeq, zer, zes, zet, zeu, zev, zew, zex, zey, zez, zfa, zfb, zfc, zfd, zfe, zff, zfg, zfh, zfi, zfj, zfk, zfl, zfm, zfn, zfo, zfp, zfq, zfr, zfs, zft, zfu, zfv, zfw, zfx, zfy, zfz, zga, zgb, zgc, zgd, zge, zgf, zgg, zgh, zgi, zgj, zgk, zgl, zgm, zgn, zgo, zgp, zgq, zgr, zgs, zgt, zgu, zgv, zgw, zgx, zgy, zgz, zha, zhb, zhc, zhd, zhe, zhf, zhg, zhh, zhi, zhj, zhk, zhl, zhm, zhn, zho, zhp, zhq, zhr, zhs, zht, zhu, zhv, zhw, zhx, zhy, zhz, zia, zib, zic, zid, zie, zif, zig, zih, zii, zij, zik, zil, zim, zin, zio, zip, ziq, zir, zis, zit, ziu, ziv, ziw, Int.reduceBEq, Int.reduceLT, Int.reduceLE, Int.reduceNeg, Nat.reduceLeDiff, Nat.reduceAdd, Nat.reduceLT, Nat.reduceSub, reduceCtorEq, Wk.frE, ne_eq, reduceIte, ↓zLc, ↓zFor, ↓zWhl, List.map_append]⟩
def Tr3Ok (f : List P → Cm P) : Prop := ∀ t : Nat, t + 40 ≤ 1000000 → (f [.pen]).ok t fun v t1 => t1 ≤ t + 20 ∧ ∃ T, v = trP T ∧ T.length ≤ 5 ∧ Hands T
theorem troupe3_ok (hd : DrOk (F c0)) {t : Nat} (ht : t + 40 ≤ 1000000) : (bodyP F G fr 10 (B_l_troupe_3 c0) [.pen]).ok t fun v t1 => t1 ≤ t + 20 ∧ ∃ T, v = trP T ∧ T.length ≤ 5 ∧ Hands T := by
  simp (disch := first | omega | assumption) only [zaa, zab, zac, zad, ↓zae, ↓zaf, ↓zag, ↓zah, ↓zai, zaj, ↓zak, ↓zal, ↓zam, zan, zao, zap, zaq, ↓zar, ↓zas, ↓zat, ↓zau, ↓zav, ↓zaw, ↓zax, ↓zay, ↓zaz, ↓zba, ↓zbb, ↓zbc, ↓zbd, ↓zbe, ↓zbf, ↓zbg, ↓zbh, ↓zbi, ↓zbj, ↓zbk, ↓zbl, ↓zbm, ↓zbn, ↓zbo, ↓zbp, ↓zbq, ↓zbr, ↓zbs, ↓zbt, ↓zbu, ↓zbv, ↓zbw, ↓zbx, ↓zby, ↓zbz, ↓zca, ↓zcb, ↓zcc, ↓zcd, ↓zce, ↓zcf, ↓zcg, ↓zch, ↓zci, ↓zcj, ↓zck, ↓zcl, ↓zcm, ↓zcn, ↓zco, ↓zcp, ↓zcq, ↓zcr, ↓zcs, ↓zct, ↓zcu, ↓zcv, ↓zcw, ↓zcx, ↓zcy, ↓zcz, ↓zda, ↓zdb, ↓zdc, ↓zdd, ↓zde, ↓zdf, ↓zdg, ↓zdh, ↓zdi, ↓zdj, ↓zdk, ↓zdl, ↓zdm, ↓zdn, ↓zdo, ↓zdp, ↓zdq, ↓zdr, ↓zds, ↓zdt, ↓zdu, ↓zdv, ↓zdw, ↓zdx, ↓zdy, ↓zdz, ↓zea, ↓zeb, ↓zec, ↓zed, ↓zee, zef, zeg, zeh, zei, zej, zek, zel, zem, zen, zeo, zep, zeq, zer, zes, zet, zeu, zev, zew, zex, zey, zez, zfa, zfb, zfc, zfd, zfe, zff, zfg, zfh, zfi, zfj, zfk, zfl, zfm, zfn, zfo, zfp, zfq, zfr, zfs, zft, zfu, zfv, zfw, zfx, zfy, zfz, zga, zgb, zgc, zgd, zge, zgf, zgg, zgh, zgi, zgj, zgk, zgl, zgm, zgn, zgo, zgp, zgq, zgr, zgs, zgt, zgu, zgv, zgw, zgx, zgy, zgz, zha, zhb, zhc, zhd, zhe, zhf, zhg, zhh, zhi, zhj, zhk, zhl, zhm, zhn, zho, zhp, zhq, zhr, zhs, zht, zhu, zhv, zhw, zhx, zhy, zhz, zia, zib, zic, zid, zie, zif, zig, zih, zii, zij, zik, zil, zim, zin, zio, zip, ziq, zir, zis, zit, ziu, ziv, ziw, Int.reduceBEq, Int.reduceLT, Int.reduceLE, Int.reduceNeg, Nat.reduceLeDiff, Nat.reduceAdd, Nat.reduceLT, Nat.reduceSub, reduceCtorEq, Wk.frE, ne_eq, reduceIte, ↓zLc, ↓zFor, ↓zWhl, body_eq, B_l_troupe_3]
  refine dr_bind hd (by decide) (by decide) (by omega) fun a a0 a1 => ?_
  simp (disch := first | omega | assumption) only [zaa, zab, zac, zad, ↓zae, ↓zaf, ↓zag, ↓zah, ↓zai, zaj, ↓zak, ↓zal, ↓zam, zan, zao, zap, zaq, ↓zar, ↓zas, ↓zat, ↓zau, ↓zav, ↓zaw, ↓zax, ↓zay, ↓zaz, ↓zba, ↓zbb, ↓zbc, ↓zbd, ↓zbe, ↓zbf, ↓zbg, ↓zbh, ↓zbi, ↓zbj, ↓zbk, ↓zbl, ↓zbm, ↓zbn, ↓zbo, ↓zbp, ↓zbq, ↓zbr, ↓zbs, ↓zbt, ↓zbu, ↓zbv, ↓zbw, ↓zbx, ↓zby, ↓zbz, ↓zca, ↓zcb, ↓zcc, ↓zcd, ↓zce, ↓zcf, ↓zcg, ↓zch, ↓zci, ↓zcj, ↓zck, ↓zcl, ↓zcm, ↓zcn, ↓zco, ↓zcp, ↓zcq, ↓zcr, ↓zcs, ↓zct, ↓zcu, ↓zcv, ↓zcw, ↓zcx, ↓zcy, ↓zcz, ↓zda, ↓zdb, ↓zdc, ↓zdd, ↓zde, ↓zdf, ↓zdg, ↓zdh, ↓zdi, ↓zdj, ↓zdk, ↓zdl, ↓zdm, ↓zdn, ↓zdo, ↓zdp, ↓zdq, ↓zdr, ↓zds, ↓zdt, ↓zdu, ↓zdv, ↓zdw, ↓zdx, ↓zdy, ↓zdz, ↓zea, ↓zeb, ↓zec, ↓zed, ↓zee, zef, zeg, zeh, zei, zej, zek, zel, zem, zen, zeo, zep, zeq, zer, zes, zet, zeu, zev, zew, zex, zey, zez, zfa, zfb, zfc, zfd, zfe, zff, zfg, zfh, zfi, zfj, zfk, zfl, zfm, zfn, zfo, zfp, zfq, zfr, zfs, zft, zfu, zfv, zfw, zfx, zfy, zfz, zga, zgb, zgc, zgd, zge, zgf, zgg, zgh, zgi, zgj, zgk, zgl, zgm, zgn, zgo, zgp, zgq, zgr, zgs, zgt, zgu, zgv, zgw, zgx, zgy, zgz, zha, zhb, zhc, zhd, zhe, zhf, zhg, zhh, zhi, zhj, zhk, zhl, zhm, zhn, zho, zhp, zhq, zhr, zhs, zht, zhu, zhv, zhw, zhx, zhy, zhz, zia, zib, zic, zid, zie, zif, zig, zih, zii, zij, zik, zil, zim, zin, zio, zip, ziq, zir, zis, zit, ziu, ziv, ziw, Int.reduceBEq, Int.reduceLT, Int.reduceLE, Int.reduceNeg, Nat.reduceLeDiff, Nat.reduceAdd, Nat.reduceLT, Nat.reduceSub, reduceCtorEq, Wk.frE, ne_eq, reduceIte, ↓zLc, ↓zFor, ↓zWhl]
  refine dr_bind hd (by decide) (by decide) (by omega) fun b b0 b1 => ?_
  obtain ⟨w, hw⟩ : ∃ w : Int, atI [P.int 12, .int 60, .int 24, .int (1 + a)] b = some (.int w) := by
    rcases (show b = 0 ∨ b = 1 ∨ b = 2 ∨ b = 3 by omega) with rfl | rfl | rfl | rfl
    · exact ⟨12, rfl⟩
    · exact ⟨60, rfl⟩
    · exact ⟨24, rfl⟩
    · exact ⟨1 + a, rfl⟩
  obtain ⟨gs, g1, g2, g3, gE⟩ := gaps3 (F := F) (G := G) (w := w) (a := some (.pen, false))
  simp (disch := first | omega | assumption) only [zaa, zab, zac, zad, ↓zae, ↓zaf, ↓zag, ↓zah, ↓zai, zaj, ↓zak, ↓zal, ↓zam, zan, zao, zap, zaq, ↓zar, ↓zas, ↓zat, ↓zau, ↓zav, ↓zaw, ↓zax, ↓zay, ↓zaz, ↓zba, ↓zbb, ↓zbc, ↓zbd, ↓zbe, ↓zbf, ↓zbg, ↓zbh, ↓zbi, ↓zbj, ↓zbk, ↓zbl, ↓zbm, ↓zbn, ↓zbo, ↓zbp, ↓zbq, ↓zbr, ↓zbs, ↓zbt, ↓zbu, ↓zbv, ↓zbw, ↓zbx, ↓zby, ↓zbz, ↓zca, ↓zcb, ↓zcc, ↓zcd, ↓zce, ↓zcf, ↓zcg, ↓zch, ↓zci, ↓zcj, ↓zck, ↓zcl, ↓zcm, ↓zcn, ↓zco, ↓zcp, ↓zcq, ↓zcr, ↓zcs, ↓zct, ↓zcu, ↓zcv, ↓zcw, ↓zcx, ↓zcy, ↓zcz, ↓zda, ↓zdb, ↓zdc, ↓zdd, ↓zde, ↓zdf, ↓zdg, ↓zdh, ↓zdi, ↓zdj, ↓zdk, ↓zdl, ↓zdm, ↓zdn, ↓zdo, ↓zdp, ↓zdq, ↓zdr, ↓zds, ↓zdt, ↓zdu, ↓zdv, ↓zdw, ↓zdx, ↓zdy, ↓zdz, ↓zea, ↓zeb, ↓zec, ↓zed, ↓zee, zef, zeg, zeh, zei, zej, zek, zel, zem, zen, zeo, zep, zeq, zer, zes, zet, zeu, zev, zew, zex, zey, zez, zfa, zfb, zfc, zfd, zfe, zff, zfg, zfh, zfi, zfj, zfk, zfl, zfm, zfn, zfo, zfp, zfq, zfr, zfs, zft, zfu, zfv, zfw, zfx, zfy, zfz, zga, zgb, zgc, zgd, zge, zgf, zgg, zgh, zgi, zgj, zgk, zgl, zgm, zgn, zgo, zgp, zgq, zgr, zgs, zgt, zgu, zgv, zgw, zgx, zgy, zgz, zha, zhb, zhc, zhd, zhe, zhf, zhg, zhh, zhi, zhj, zhk, zhl, zhm, zhn, zho, zhp, zhq, zhr, zhs, zht, zhu, zhv, zhw, zhx, zhy, zhz, zia, zib, zic, zid, zie, zif, zig, zih, zii, zij, zik, zil, zim, zin, zio, zip, ziq, zir, zis, zit, ziu, ziv, ziw, Int.reduceBEq, Int.reduceLT, Int.reduceLE, Int.reduceNeg, Nat.reduceLeDiff, Nat.reduceAdd, Nat.reduceLT, Nat.reduceSub, reduceCtorEq, Wk.frE, ne_eq, reduceIte, hw, gE]
  refine dr_bind hd (by decide) (by decide) (by omega) fun c c0 c1 => ?_
  simp (disch := first | omega | assumption) only [zaa, zab, zac, zad, ↓zae, ↓zaf, ↓zag, ↓zah, ↓zai, zaj, ↓zak, ↓zal, ↓zam, zan, zao, zap, zaq, ↓zar, ↓zas, ↓zat, ↓zau, ↓zav, ↓zaw, ↓zax, ↓zay, ↓zaz, ↓zba, ↓zbb, ↓zbc, ↓zbd, ↓zbe, ↓zbf, ↓zbg, ↓zbh, ↓zbi, ↓zbj, ↓zbk, ↓zbl, ↓zbm, ↓zbn, ↓zbo, ↓zbp, ↓zbq, ↓zbr, ↓zbs, ↓zbt, ↓zbu, ↓zbv, ↓zbw, ↓zbx, ↓zby, ↓zbz, ↓zca, ↓zcb, ↓zcc, ↓zcd, ↓zce, ↓zcf, ↓zcg, ↓zch, ↓zci, ↓zcj, ↓zck, ↓zcl, ↓zcm, ↓zcn, ↓zco, ↓zcp, ↓zcq, ↓zcr, ↓zcs, ↓zct, ↓zcu, ↓zcv, ↓zcw, ↓zcx, ↓zcy, ↓zcz, ↓zda, ↓zdb, ↓zdc, ↓zdd, ↓zde, ↓zdf, ↓zdg, ↓zdh, ↓zdi, ↓zdj, ↓zdk, ↓zdl, ↓zdm, ↓zdn, ↓zdo, ↓zdp, ↓zdq, ↓zdr, ↓zds, ↓zdt, ↓zdu, ↓zdv, ↓zdw, ↓zdx, ↓zdy, ↓zdz, ↓zea, ↓zeb, ↓zec, ↓zed, ↓zee, zef, zeg, zeh, zei, zej, zek, zel, zem, zen, zeo, zep, zeq, zer, zes, zet, zeu, zev, zew, zex, zey, zez, zfa, zfb, zfc, zfd, zfe, zff, zfg, zfh, zfi, zfj, zfk, zfl, zfm, zfn, zfo, zfp, zfq, zfr, zfs, zft, zfu, zfv, zfw, zfx, zfy, zfz, zga, zgb, zgc, zgd, zge, zgf, zgg, zgh, zgi, zgj, zgk, zgl, zgm, zgn, zgo, zgp, zgq, zgr, zgs, zgt, zgu, zgv, zgw, zgx, zgy, zgz, zha, zhb, zhc, zhd, zhe, zhf, zhg, zhh, zhi, zhj, zhk, zhl, zhm, zhn, zho, zhp, zhq, zhr, zhs, zht, zhu, zhv, zhw, zhx, zhy, zhz, zia, zib, zic, zid, zie, zif, zig, zih, zii, zij, zik, zil, zim, zin, zio, zip, ziq, zir, zis, zit, ziu, ziv, ziw, Int.reduceBEq, Int.reduceLT, Int.reduceLE, Int.reduceNeg, Nat.reduceLeDiff, Nat.reduceAdd, Nat.reduceLT, Nat.reduceSub, reduceCtorEq, Wk.frE, ne_eq, reduceIte]
  refine dr_bind hd (by decide) (by decide) (by omega) fun m m0 m1 => ?_
  simp (disch := first | omega | assumption) only [zaa, zab, zac, zad, ↓zae, ↓zaf, ↓zag, ↓zah, ↓zai, zaj, ↓zak, ↓zal, ↓zam, zan, zao, zap, zaq, ↓zar, ↓zas, ↓zat, ↓zau, ↓zav, ↓zaw, ↓zax, ↓zay, ↓zaz, ↓zba, ↓zbb, ↓zbc, ↓zbd, ↓zbe, ↓zbf, ↓zbg, ↓zbh, ↓zbi, ↓zbj, ↓zbk, ↓zbl, ↓zbm, ↓zbn, ↓zbo, ↓zbp, ↓zbq, ↓zbr, ↓zbs, ↓zbt, ↓zbu, ↓zbv, ↓zbw, ↓zbx, ↓zby, ↓zbz, ↓zca, ↓zcb, ↓zcc, ↓zcd, ↓zce, ↓zcf, ↓zcg, ↓zch, ↓zci, ↓zcj, ↓zck, ↓zcl, ↓zcm, ↓zcn, ↓zco, ↓zcp, ↓zcq, ↓zcr, ↓zcs, ↓zct, ↓zcu, ↓zcv, ↓zcw, ↓zcx, ↓zcy, ↓zcz, ↓zda, ↓zdb, ↓zdc, ↓zdd, ↓zde, ↓zdf, ↓zdg, ↓zdh, ↓zdi, ↓zdj, ↓zdk, ↓zdl, ↓zdm, ↓zdn, ↓zdo, ↓zdp, ↓zdq, ↓zdr, ↓zds, ↓zdt, ↓zdu, ↓zdv, ↓zdw, ↓zdx, ↓zdy, ↓zdz, ↓zea, ↓zeb, ↓zec, ↓zed, ↓zee, zef, zeg, zeh, zei, zej, zek, zel, zem, zen, zeo, zep, zeq, zer, zes, zet, zeu, zev, zew, zex, zey, zez, zfa, zfb, zfc, zfd, zfe, zff, zfg, zfh, zfi, zfj, zfk, zfl, zfm, zfn, zfo, zfp, zfq, zfr, zfs, zft, zfu, zfv, zfw, zfx, zfy, zfz, zga, zgb, zgc, zgd, zge, zgf, zgg, zgh, zgi, zgj, zgk, zgl, zgm, zgn, zgo, zgp, zgq, zgr, zgs, zgt, zgu, zgv, zgw, zgx, zgy, zgz, zha, zhb, zhc, zhd, zhe, zhf, zhg, zhh, zhi, zhj, zhk, zhl, zhm, zhn, zho, zhp, zhq, zhr, zhs, zht, zhu, zhv, zhw, zhx, zhy, zhz, zia, zib, zic, zid, zie, zif, zig, zih, zii, zij, zik, zil, zim, zin, zio, zip, ziq, zir, zis, zit, ziu, ziv, ziw, Int.reduceBEq, Int.reduceLT, Int.reduceLE, Int.reduceNeg, Nat.reduceLeDiff, Nat.reduceAdd, Nat.reduceLT, Nat.reduceSub, reduceCtorEq, Wk.frE, ne_eq, reduceIte, ↓zLc, ↓zFor, ↓zWhl]
  refine dr_bind hd (by decide) (by decide) (by omega) fun n n0 n1 => ?_
  obtain ⟨N, hN⟩ : ∃ N : Nat, 1 + n = (N : Int) := ⟨(1 + n).toNat, by omega⟩
  have hr : rg1P (.int (N : Nat)) = .ret ((List.range N).map fun k => P.int (k : Nat)) := q_rg1 (by omega)
  simp (disch := first | omega | assumption) only [zaa, zab, zac, zad, ↓zae, ↓zaf, ↓zag, ↓zah, ↓zai, zaj, ↓zak, ↓zal, ↓zam, zan, zao, zap, zaq, ↓zar, ↓zas, ↓zat, ↓zau, ↓zav, ↓zaw, ↓zax, ↓zay, ↓zaz, ↓zba, ↓zbb, ↓zbc, ↓zbd, ↓zbe, ↓zbf, ↓zbg, ↓zbh, ↓zbi, ↓zbj, ↓zbk, ↓zbl, ↓zbm, ↓zbn, ↓zbo, ↓zbp, ↓zbq, ↓zbr, ↓zbs, ↓zbt, ↓zbu, ↓zbv, ↓zbw, ↓zbx, ↓zby, ↓zbz, ↓zca, ↓zcb, ↓zcc, ↓zcd, ↓zce, ↓zcf, ↓zcg, ↓zch, ↓zci, ↓zcj, ↓zck, ↓zcl, ↓zcm, ↓zcn, ↓zco, ↓zcp, ↓zcq, ↓zcr, ↓zcs, ↓zct, ↓zcu, ↓zcv, ↓zcw, ↓zcx, ↓zcy, ↓zcz, ↓zda, ↓zdb, ↓zdc, ↓zdd, ↓zde, ↓zdf, ↓zdg, ↓zdh, ↓zdi, ↓zdj, ↓zdk, ↓zdl, ↓zdm, ↓zdn, ↓zdo, ↓zdp, ↓zdq, ↓zdr, ↓zds, ↓zdt, ↓zdu, ↓zdv, ↓zdw, ↓zdx, ↓zdy, ↓zdz, ↓zea, ↓zeb, ↓zec, ↓zed, ↓zee, zef, zeg, zeh, zei, zej, zek, zel, zem, zen, zeo, zep, zeq, zer, zes, zet, zeu, zev, zew, zex, zey, zez, zfa, zfb, zfc, zfd, zfe, zff, zfg, zfh, zfi, zfj, zfk, zfl, zfm, zfn, zfo, zfp, zfq, zfr, zfs, zft, zfu, zfv, zfw, zfx, zfy, zfz, zga, zgb, zgc, zgd, zge, zgf, zgg, zgh, zgi, zgj, zgk, zgl, zgm, zgn, zgo, zgp, zgq, zgr, zgs, zgt, zgu, zgv, zgw, zgx, zgy, zgz, zha, zhb, zhc, zhd, zhe, zhf, zhg, zhh, zhi, zhj, zhk, zhl, zhm, zhn, zho, zhp, zhq, zhr, zhs, zht, zhu, zhv, zhw, zhx, zhy, zhz, zia, zib, zic, zid, zie, zif, zig, zih, zii, zij, zik, zil, zim, zin, zio, zip, ziq, zir, zis, zit, ziu, ziv, ziw, Int.reduceBEq, Int.reduceLT, Int.reduceLE, Int.reduceNeg, Nat.reduceLeDiff, Nat.reduceAdd, Nat.reduceLT, Nat.reduceSub, reduceCtorEq, Wk.frE, ne_eq, reduceIte, ↓zLc, ↓zFor, ↓zWhl, hN, hr]
  rw [ok_bd]
  refine for_ok (fun i env u => u ≤ t + 5 + 3 * i ∧ ∃ T, env = tr3Env w m gs (decide (0 < c)) T ∧ T.length = i ∧ Hands T) ⟨by omega, [], rfl, rfl, fun h hh => nomatch hh⟩ (fun i x env u hx hi => ?_) (fun env u hi => ?_)
  · obtain ⟨hu, T, rfl, hl, hc⟩ := hi
    have hi : i < N := by have := (List.getElem?_eq_some_iff.mp hx).1; simpa using this
    refine ok_mono (tr3_step (fr := fr) (t := u) (x := x) hd g1 g2 g3 (by omega) (by omega)) fun fl u1 q => ?_
    obtain ⟨hu1, g, r, env', q1, q2, rfl, ew⟩ := q
    refine ⟨by omega, _, ew, by rw [List.length_append, hl]; rfl, fun h hh => ?_⟩
    rcases List.mem_append.mp hh with hh | hh
    · exact hc h hh
    · rw [List.mem_singleton.mp hh]; exact ⟨q1, q2⟩
  · obtain ⟨hu, T, rfl, hl, hc⟩ := hi
    rw [List.length_map, List.length_range] at hu hl
    simp (disch := first | omega | assumption) only [zaa, zab, zac, zad, ↓zae, ↓zaf, ↓zag, ↓zah, ↓zai, zaj, ↓zak, ↓zal, ↓zam, zan, zao, zap, zaq, ↓zar, ↓zas, ↓zat, ↓zau, ↓zav, ↓zaw, ↓zax, ↓zay, ↓zaz, ↓zba, ↓zbb, ↓zbc, ↓zbd, ↓zbe, ↓zbf, ↓zbg, ↓zbh, ↓zbi, ↓zbj, ↓zbk, ↓zbl, ↓zbm, ↓zbn, ↓zbo, ↓zbp, ↓zbq, ↓zbr, ↓zbs, ↓zbt, ↓zbu, ↓zbv, ↓zbw, ↓zbx, ↓zby, ↓zbz, ↓zca, ↓zcb, ↓zcc, ↓zcd, ↓zce, ↓zcf, ↓zcg, ↓zch, ↓zci, ↓zcj, ↓zck, ↓zcl, ↓zcm, ↓zcn, ↓zco, ↓zcp, ↓zcq, ↓zcr, ↓zcs, ↓zct, ↓zcu, ↓zcv, ↓zcw, ↓zcx, ↓zcy, ↓zcz, ↓zda, ↓zdb, ↓zdc, ↓zdd, ↓zde, ↓zdf, ↓zdg, ↓zdh, ↓zdi, ↓zdj, ↓zdk, ↓zdl, ↓zdm, ↓zdn, ↓zdo, ↓zdp, ↓zdq, ↓zdr, ↓zds, ↓zdt, ↓zdu, ↓zdv, ↓zdw, ↓zdx, ↓zdy, ↓zdz, ↓zea, ↓zeb, ↓zec, ↓zed, ↓zee, zef, zeg, zeh, zei, zej, zek, zel, zem, zen, zeo, zep, zeq, zer, zes, zet, zeu, zev, zew, zex, zey, zez, zfa, zfb, zfc, zfd, zfe, zff, zfg, zfh, zfi, zfj, zfk, zfl, zfm, zfn, zfo, zfp, zfq, zfr, zfs, zft, zfu, zfv, zfw, zfx, zfy, zfz, zga, zgb, zgc, zgd, zge, zgf, zgg, zgh, zgi, zgj, zgk, zgl, zgm, zgn, zgo, zgp, zgq, zgr, zgs, zgt, zgu, zgv, zgw, zgx, zgy, zgz, zha, zhb, zhc, zhd, zhe, zhf, zhg, zhh, zhi, zhj, zhk, zhl, zhm, zhn, zho, zhp, zhq, zhr, zhs, zht, zhu, zhv, zhw, zhx, zhy, zhz, zia, zib, zic, zid, zie, zif, zig, zih, zii, zij, zik, zil, zim, zin, zio, zip, ziq, zir, zis, zit, ziu, ziv, ziw, Int.reduceBEq, Int.reduceLT, Int.reduceLE, Int.reduceNeg, Nat.reduceLeDiff, Nat.reduceAdd, Nat.reduceLT, Nat.reduceSub, reduceCtorEq, Wk.frE, ne_eq, reduceIte, ↓zLc, ↓zFor, ↓zWhl, tr3Env, ok_ret]
    exact ⟨by omega, T, rfl, by omega, hc⟩
/-! ### mirrors -/
def mir (T : List (Nat × Nat)) (m : Int) : Bool := T.all fun h => (m - 2 * h.2) % h.1 == 0
theorem mirror_ok {T : List (Nat × Nat)} {m : Int} (hT : Hands T) (hl : T.length ≤ 1000) : bodyP F G fr 4 B_is_mirror [trP T, .int m] = .ret (.bl (mir T m)) := by
  have lz := lc_map (body := lcT F G (.tup (.cons (.name 2) (.cons (.name 3) .nil))) .none (.cmp .eq (.bin .mod (.bin .sub (.var 1) (.bin .mul (.int 2) (.var 3))) (.var 2)) (.int 0)) [some (.tup (T.map hdP), false), some (.int m, false), none, none]) (xs := T) (enc := hdP) (f := fun h => P.bl ((m - 2 * h.2) % h.1 == 0)) (fun h hh => by
    have := hT h hh
    have hz : (0 : Int) < (h.1 : Nat) := by omega
    simp (disch := first | omega | assumption) only [zaa, zab, zac, zad, ↓zae, ↓zaf, ↓zag, ↓zah, ↓zai, zaj, ↓zak, ↓zal, ↓zam, zan, zao, zap, zaq, ↓zar, ↓zas, ↓zat, ↓zau, ↓zav, ↓zaw, ↓zax, ↓zay, ↓zaz, ↓zba, ↓zbb, ↓zbc, ↓zbd, ↓zbe, ↓zbf, ↓zbg, ↓zbh, ↓zbi, ↓zbj, ↓zbk, ↓zbl, ↓zbm, ↓zbn, ↓zbo, ↓zbp, ↓zbq, ↓zbr, ↓zbs, ↓zbt, ↓zbu, ↓zbv, ↓zbw, ↓zbx, ↓zby, ↓zbz, ↓zca, ↓zcb, ↓zcc, ↓zcd, ↓zce, ↓zcf, ↓zcg, ↓zch, ↓zci, ↓zcj, ↓zck, ↓zcl, ↓zcm, ↓zcn, ↓zco, ↓zcp, ↓zcq, ↓zcr, ↓zcs, ↓zct, ↓zcu, ↓zcv, ↓zcw, ↓zcx, ↓zcy, ↓zcz, ↓zda, ↓zdb, ↓zdc, ↓zdd, ↓zde, ↓zdf, ↓zdg, ↓zdh, ↓zdi, ↓zdj, ↓zdk, ↓zdl, ↓zdm, ↓zdn, ↓zdo, ↓zdp, ↓zdq, ↓zdr, ↓zds, ↓zdt, ↓zdu, ↓zdv, ↓zdw, ↓zdx, ↓zdy, ↓zdz, ↓zea, ↓zeb, ↓zec, ↓zed, ↓zee, zef, zeg, zeh, zei, zej, zek, zel, zem, zen, zeo, zep, zeq, zer, zes, zet, zeu, zev, zew, zex, zey, zez, zfa, zfb, zfc, zfd, zfe, zff, zfg, zfh, zfi, zfj, zfk, zfl, zfm, zfn, zfo, zfp, zfq, zfr, zfs, zft, zfu, zfv, zfw, zfx, zfy, zfz, zga, zgb, zgc, zgd, zge, zgf, zgg, zgh, zgi, zgj, zgk, zgl, zgm, zgn, zgo, zgp, zgq, zgr, zgs, zgt, zgu, zgv, zgw, zgx, zgy, zgz, zha, zhb, zhc, zhd, zhe, zhf, zhg, zhh, zhi, zhj, zhk, zhl, zhm, zhn, zho, zhp, zhq, zhr, zhs, zht, zhu, zhv, zhw, zhx, zhy, zhz, zia, zib, zic, zid, zie, zif, zig, zih, zii, zij, zik, zil, zim, zin, zio, zip, ziq, zir, zis, zit, ziu, ziv, ziw, Int.reduceBEq, Int.reduceLT, Int.reduceLE, Int.reduceNeg, Nat.reduceLeDiff, Nat.reduceAdd, Nat.reduceLT, Nat.reduceSub, reduceCtorEq, Wk.frE, ne_eq, reduceIte, ↓zLc, ↓zFor, ↓zWhl, lt_eq, hdP]) (Nat.le_trans hl (by decide))
  have al : bltP .all [.lst (T.map fun h => P.bl ((m - 2 * h.2) % h.1 == 0))] = .ret (.bl (mir T m)) := by
    have : allBlsP (T.map fun h => P.bl ((m - 2 * h.2) % h.1 == 0)) = some (T.map fun h => ((m - 2 * h.2) % h.1 == 0)) := by
      clear lz hT hl
      induction T with
      | nil => rfl
      | cons h T ih => rw [List.map_cons, List.map_cons]; show (allBlsP _).map _ = _; rw [ih]; rfl
    show ofP ((allBlsP _).map _) = _
    rw [this]
    show Cm.ret (P.bl (List.all _ id)) = _
    rw [List.all_map]; rfl
  simp (disch := first | omega | assumption) only [zaa, zab, zac, zad, ↓zae, ↓zaf, ↓zag, ↓zah, ↓zai, zaj, ↓zak, ↓zal, ↓zam, zan, zao, zap, zaq, ↓zar, ↓zas, ↓zat, ↓zau, ↓zav, ↓zaw, ↓zax, ↓zay, ↓zaz, ↓zba, ↓zbb, ↓zbc, ↓zbd, ↓zbe, ↓zbf, ↓zbg, ↓zbh, ↓zbi, ↓zbj, ↓zbk, ↓zbl, ↓zbm, ↓zbn, ↓zbo, ↓zbp, ↓zbq, ↓zbr, ↓zbs, ↓zbt, ↓zbu, ↓zbv, ↓zbw, ↓zbx, ↓zby, ↓zbz, ↓zca, ↓zcb, ↓zcc, ↓zcd, ↓zce, ↓zcf, ↓zcg, ↓zch, ↓zci, ↓zcj, ↓zck, ↓zcl, ↓zcm, ↓zcn, ↓zco, ↓zcp, ↓zcq, ↓zcr, ↓zcs, ↓zct, ↓zcu, ↓zcv, ↓zcw, ↓zcx, ↓zcy, ↓zcz, ↓zda, ↓zdb, ↓zdc, ↓zdd, ↓zde, ↓zdf, ↓zdg, ↓zdh, ↓zdi, ↓zdj, ↓zdk, ↓zdl, ↓zdm, ↓zdn, ↓zdo, ↓zdp, ↓zdq, ↓zdr, ↓zds, ↓zdt, ↓zdu, ↓zdv, ↓zdw, ↓zdx, ↓zdy, ↓zdz, ↓zea, ↓zeb, ↓zec, ↓zed, ↓zee, zef, zeg, zeh, zei, zej, zek, zel, zem, zen, zeo, zep, zeq, zer, zes, zet, zeu, zev, zew, zex, zey, zez, zfa, zfb, zfc, zfd, zfe, zff, zfg, zfh, zfi, zfj, zfk, zfl, zfm, zfn, zfo, zfp, zfq, zfr, zfs, zft, zfu, zfv, zfw, zfx, zfy, zfz, zga, zgb, zgc, zgd, zge, zgf, zgg, zgh, zgi, zgj, zgk, zgl, zgm, zgn, zgo, zgp, zgq, zgr, zgs, zgt, zgu, zgv, zgw, zgx, zgy, zgz, zha, zhb, zhc, zhd, zhe, zhf, zhg, zhh, zhi, zhj, zhk, zhl, zhm, zhn, zho, zhp, zhq, zhr, zhs, zht, zhu, zhv, zhw, zhx, zhy, zhz, zia, zib, zic, zid, zie, zif, zig, zih, zii, zij, zik, zil, zim, zin, zio, zip, ziq, zir, zis, zit, ziu, ziv, ziw, Int.reduceBEq, Int.reduceLT, Int.reduceLE, Int.reduceNeg, Nat.reduceLeDiff, Nat.reduceAdd, Nat.reduceLT, Nat.reduceSub, reduceCtorEq, Wk.frE, ne_eq, reduceIte, ↓zLc, ↓zFor, ↓zWhl, body_eq, B_is_mirror, trP, lz, al]
theorem same_mir {m : Int} {g r k : Nat} (c : (m - 2 * r) % g = 0) : (((k : Int) - r) % g == 0) = ((m - k - r) % g == 0) := by
  rw [Bool.eq_iff_iff, beq_iff_eq, beq_iff_eq]
  have c := Int.dvd_of_emod_eq_zero c
  constructor
  · intro h
    have h := Int.dvd_of_emod_eq_zero h
    refine Int.emod_eq_zero_of_dvd ?_
    rw [show m - k - r = (m - 2 * r) - ((k : Int) - r) by omega]
    exact Int.dvd_sub c h
  · intro h
    have h := Int.dvd_of_emod_eq_zero h
    refine Int.emod_eq_zero_of_dvd ?_
    rw [show (k : Int) - r = (m - 2 * r) - (m - k - r) by omega]
    exact Int.dvd_sub c h
theorem dumb_ok {T : List (Nat × Nat)} {m : Int} (hT : Hands T) : bodyP F G fr 5 B_l_is_mirror [trP T, .int m] = .ret (.bl (mir T m)) := by
  have inner : ∀ h ∈ T, forP (foT F G fr (.name 4) B_l_is_mirror_L0) [4] ((List.range h.1).map fun k => P.int (k : Nat)) [some (.tup (T.map hdP), false), some (.int m, false), some (.int h.1, false), some (.int h.2, false), none] = .ret (if ((m - 2 * h.2) % h.1 == 0) = true then .nx [some (.tup (T.map hdP), false), some (.int m, false), some (.int h.1, false), some (.int h.2, false), none] else .rt (.bl false)) := by
    intro h hh
    have hg := hT h hh
    have hz : (0 : Int) < (h.1 : Nat) := by omega
    have step := for_find (turn := foT F G fr (.name 4) B_l_is_mirror_L0) (ws := [4]) (xs := List.range h.1) (enc := fun k : Nat => P.int (k : Nat)) (env := [some (.tup (T.map hdP), false), some (.int m, false), some (.int h.1, false), some (.int h.2, false), none]) (g := fun k : Nat => if (((k : Int) - h.2) % h.1 == 0) == ((m - k - h.2) % h.1 == 0) then none else some (.bl false)) (fun k hk => by
      refine ⟨[some (.tup (T.map hdP), false), some (.int m, false), some (.int h.1, false), some (.int h.2, false), some (.int (k : Nat), false)], ?_, by simp (disch := first | omega | assumption) only [zaa, zab, zac, zad, ↓zae, ↓zaf, ↓zag, ↓zah, ↓zai, zaj, ↓zak, ↓zal, ↓zam, zan, zao, zap, zaq, ↓zar, ↓zas, ↓zat, ↓zau, ↓zav, ↓zaw, ↓zax, ↓zay, ↓zaz, ↓zba, ↓zbb, ↓zbc, ↓zbd, ↓zbe, ↓zbf, ↓zbg, ↓zbh, ↓zbi, ↓zbj, ↓zbk, ↓zbl, ↓zbm, ↓zbn, ↓zbo, ↓zbp, ↓zbq, ↓zbr, ↓zbs, ↓zbt, ↓zbu, ↓zbv, ↓zbw, ↓zbx, ↓zby, ↓zbz, ↓zca, ↓zcb, ↓zcc, ↓zcd, ↓zce, ↓zcf, ↓zcg, ↓zch, ↓zci, ↓zcj, ↓zck, ↓zcl, ↓zcm, ↓zcn, ↓zco, ↓zcp, ↓zcq, ↓zcr, ↓zcs, ↓zct, ↓zcu, ↓zcv, ↓zcw, ↓zcx, ↓zcy, ↓zcz, ↓zda, ↓zdb, ↓zdc, ↓zdd, ↓zde, ↓zdf, ↓zdg, ↓zdh, ↓zdi, ↓zdj, ↓zdk, ↓zdl, ↓zdm, ↓zdn, ↓zdo, ↓zdp, ↓zdq, ↓zdr, ↓zds, ↓zdt, ↓zdu, ↓zdv, ↓zdw, ↓zdx, ↓zdy, ↓zdz, ↓zea, ↓zeb, ↓zec, ↓zed, ↓zee, zef, zeg, zeh, zei, zej, zek, zel, zem, zen, zeo, zep, zeq, zer, zes, zet, zeu, zev, zew, zex, zey, zez, zfa, zfb, zfc, zfd, zfe, zff, zfg, zfh, zfi, zfj, zfk, zfl, zfm, zfn, zfo, zfp, zfq, zfr, zfs, zft, zfu, zfv, zfw, zfx, zfy, zfz, zga, zgb, zgc, zgd, zge, zgf, zgg, zgh, zgi, zgj, zgk, zgl, zgm, zgn, zgo, zgp, zgq, zgr, zgs, zgt, zgu, zgv, zgw, zgx, zgy, zgz, zha, zhb, zhc, zhd, zhe, zhf, zhg, zhh, zhi, zhj, zhk, zhl, zhm, zhn, zho, zhp, zhq, zhr, zhs, zht, zhu, zhv, zhw, zhx, zhy, zhz, zia, zib, zic, zid, zie, zif, zig, zih, zii, zij, zik, zil, zim, zin, zio, zip, ziq, zir, zis, zit, ziu, ziv, ziw, Int.reduceBEq, Int.reduceLT, Int.reduceLE, Int.reduceNeg, Nat.reduceLeDiff, Nat.reduceAdd, Nat.reduceLT, Nat.reduceSub, reduceCtorEq, Wk.frE, ne_eq, reduceIte, ↓zLc, ↓zFor, ↓zWhl]⟩
      cases c1 : (((k : Int) - h.2) % h.1 == 0) <;> cases c2 : ((m - k - h.2) % h.1 == 0) <;> simp (disch := first | omega | assumption) only [zaa, zab, zac, zad, ↓zae, ↓zaf, ↓zag, ↓zah, ↓zai, zaj, ↓zak, ↓zal, ↓zam, zan, zao, zap, zaq, ↓zar, ↓zas, ↓zat, ↓zau, ↓zav, ↓zaw, ↓zax, ↓zay, ↓zaz, ↓zba, ↓zbb, ↓zbc, ↓zbd, ↓zbe, ↓zbf, ↓zbg, ↓zbh, ↓zbi, ↓zbj, ↓zbk, ↓zbl, ↓zbm, ↓zbn, ↓zbo, ↓zbp, ↓zbq, ↓zbr, ↓zbs, ↓zbt, ↓zbu, ↓zbv, ↓zbw, ↓zbx, ↓zby, ↓zbz, ↓zca, ↓zcb, ↓zcc, ↓zcd, ↓zce, ↓zcf, ↓zcg, ↓zch, ↓zci, ↓zcj, ↓zck, ↓zcl, ↓zcm, ↓zcn, ↓zco, ↓zcp, ↓zcq, ↓zcr, ↓zcs, ↓zct, ↓zcu, ↓zcv, ↓zcw, ↓zcx, ↓zcy, ↓zcz, ↓zda, ↓zdb, ↓zdc, ↓zdd, ↓zde, ↓zdf, ↓zdg, ↓zdh, ↓zdi, ↓zdj, ↓zdk, ↓zdl, ↓zdm, ↓zdn, ↓zdo, ↓zdp, ↓zdq, ↓zdr, ↓zds, ↓zdt, ↓zdu, ↓zdv, ↓zdw, ↓zdx, ↓zdy, ↓zdz, ↓zea, ↓zeb, ↓zec, ↓zed, ↓zee, zef, zeg, zeh, zei, zej, zek, zel, zem, zen, zeo, zep, zeq, zer, zes, zet, zeu, zev, zew, zex, zey, zez, zfa, zfb, zfc, zfd, zfe, zff, zfg, zfh, zfi, zfj, zfk, zfl, zfm, zfn, zfo, zfp, zfq, zfr, zfs, zft, zfu, zfv, zfw, zfx, zfy, zfz, zga, zgb, zgc, zgd, zge, zgf, zgg, zgh, zgi, zgj, zgk, zgl, zgm, zgn, zgo, zgp, zgq, zgr, zgs, zgt, zgu, zgv, zgw, zgx, zgy, zgz, zha, zhb, zhc, zhd, zhe, zhf, zhg, zhh, zhi, zhj, zhk, zhl, zhm, zhn, zho, zhp, zhq, zhr, zhs, zht, zhu, zhv, zhw, zhx, zhy, zhz, zia, zib, zic, zid, zie, zif, zig, zih, zii, zij, zik, zil, zim, zin, zio, zip, ziq, zir, zis, zit, ziu, ziv, ziw, Int.reduceBEq, Int.reduceLT, Int.reduceLE, Int.reduceNeg, Nat.reduceLeDiff, Nat.reduceAdd, Nat.reduceLT, Nat.reduceSub, reduceCtorEq, Wk.frE, ne_eq, reduceIte, ↓zLc, ↓zFor, ↓zWhl, fo_eq, B_l_is_mirror_L0, c1, c2] <;> rfl)
    rw [step]
    cases c : ((m - 2 * h.2) % h.1 == 0) with
    | true =>
      have : (List.range h.1).findSome? (fun k : Nat => if (((k : Int) - h.2) % h.1 == 0) == ((m - k - h.2) % h.1 == 0) then none else some (P.bl false)) = none := by
        rw [List.findSome?_eq_none_iff]
        intro k _
        rw [if_pos]
        have c : (m - 2 * h.2) % h.1 = 0 := beq_iff_eq.mp c
        have := same_mir (k := k) c
        rw [this]; exact beq_self_eq_true _
      rw [this]; rfl
    | false =>
      have c : ¬ (m - 2 * h.2) % h.1 = 0 := fun z => by rw [beq_eq_false_iff_ne] at c; exact c z
      have : (List.range h.1).findSome? (fun k : Nat => if (((k : Int) - h.2) % h.1 == 0) == ((m - k - h.2) % h.1 == 0) then none else some (P.bl false)) = some (.bl false) := by
        have hs : ∃ x, (List.range h.1).findSome? (fun k : Nat => if (((k : Int) - h.2) % h.1 == 0) == ((m - k - h.2) % h.1 == 0) then none else some (P.bl false)) = some x := by
          rw [← Option.isSome_iff_exists, List.findSome?_isSome_iff]
          refine ⟨h.2, List.mem_range.mpr hg.1, ?_⟩
          have e1 : (((h.2 : Nat) : Int) - h.2) % h.1 = 0 := by rw [Int.sub_self]; exact Int.zero_emod _
          have e2 : (m - h.2 - h.2) % h.1 ≠ 0 := by rw [show m - h.2 - h.2 = m - 2 * h.2 by omega]; exact c
          rw [if_neg]
          · rfl
          · rw [e1, beq_eq_false_iff_ne.mpr e2]; decide
        obtain ⟨x, hx⟩ := hs
        obtain ⟨k, _, hk⟩ := List.exists_of_findSome?_eq_some hx
        rw [hx]
        split at hk
        · cases hk
        · rw [← hk]
      rw [this]; rfl
  have outer := for_find (turn := foT F G fr (.tup (.cons (.name 2) (.cons (.name 3) .nil))) B_l_is_mirror_L1) (ws := [2, 3, 4]) (xs := T) (enc := hdP) (env := [some (.tup (T.map hdP), false), some (.int m, false), none, none, none]) (g := fun h => if ((m - 2 * h.2) % h.1 == 0) = true then none else some (.bl false)) (fun h hh => by
    have q := inner h hh
    have hg := hT h hh
    have hr : rg1P (.int (h.1 : Nat)) = .ret ((List.range h.1).map fun k => P.int (k : Nat)) := q_rg1 (by omega)
    refine ⟨[some (.tup (T.map hdP), false), some (.int m, false), some (.int h.1, false), some (.int h.2, false), none], ?_, by simp (disch := first | omega | assumption) only [zaa, zab, zac, zad, ↓zae, ↓zaf, ↓zag, ↓zah, ↓zai, zaj, ↓zak, ↓zal, ↓zam, zan, zao, zap, zaq, ↓zar, ↓zas, ↓zat, ↓zau, ↓zav, ↓zaw, ↓zax, ↓zay, ↓zaz, ↓zba, ↓zbb, ↓zbc, ↓zbd, ↓zbe, ↓zbf, ↓zbg, ↓zbh, ↓zbi, ↓zbj, ↓zbk, ↓zbl, ↓zbm, ↓zbn, ↓zbo, ↓zbp, ↓zbq, ↓zbr, ↓zbs, ↓zbt, ↓zbu, ↓zbv, ↓zbw, ↓zbx, ↓zby, ↓zbz, ↓zca, ↓zcb, ↓zcc, ↓zcd, ↓zce, ↓zcf, ↓zcg, ↓zch, ↓zci, ↓zcj, ↓zck, ↓zcl, ↓zcm, ↓zcn, ↓zco, ↓zcp, ↓zcq, ↓zcr, ↓zcs, ↓zct, ↓zcu, ↓zcv, ↓zcw, ↓zcx, ↓zcy, ↓zcz, ↓zda, ↓zdb, ↓zdc, ↓zdd, ↓zde, ↓zdf, ↓zdg, ↓zdh, ↓zdi, ↓zdj, ↓zdk, ↓zdl, ↓zdm, ↓zdn, ↓zdo, ↓zdp, ↓zdq, ↓zdr, ↓zds, ↓zdt, ↓zdu, ↓zdv, ↓zdw, ↓zdx, ↓zdy, ↓zdz, ↓zea, ↓zeb, ↓zec, ↓zed, ↓zee, zef, zeg, zeh, zei, zej, zek, zel, zem, zen, zeo, zep, zeq, zer, zes, zet, zeu, zev, zew, zex, zey, zez, zfa, zfb, zfc, zfd, zfe, zff, zfg, zfh, zfi, zfj, zfk, zfl, zfm, zfn, zfo, zfp, zfq, zfr, zfs, zft, zfu, zfv, zfw, zfx, zfy, zfz, zga, zgb, zgc, zgd, zge, zgf, zgg, zgh, zgi, zgj, zgk, zgl, zgm, zgn, zgo, zgp, zgq, zgr, zgs, zgt, zgu, zgv, zgw, zgx, zgy, zgz, zha, zhb, zhc, zhd, zhe, zhf, zhg, zhh, zhi, zhj, zhk, zhl, zhm, zhn, zho, zhp, zhq, zhr, zhs, zht, zhu, zhv, zhw, zhx, zhy, zhz, zia, zib, zic, zid, zie, zif, zig, zih, zii, zij, zik, zil, zim, zin, zio, zip, ziq, zir, zis, zit, ziu, ziv, ziw, Int.reduceBEq, Int.reduceLT, Int.reduceLE, Int.reduceNeg, Nat.reduceLeDiff, Nat.reduceAdd, Nat.reduceLT, Nat.reduceSub, reduceCtorEq, Wk.frE, ne_eq, reduceIte, ↓zLc, ↓zFor, ↓zWhl]⟩
    cases c : ((m - 2 * h.2) % h.1 == 0) with
    | true => rw [c] at q; simp (disch := first | omega | assumption) only [zaa, zab, zac, zad, ↓zae, ↓zaf, ↓zag, ↓zah, ↓zai, zaj, ↓zak, ↓zal, ↓zam, zan, zao, zap, zaq, ↓zar, ↓zas, ↓zat, ↓zau, ↓zav, ↓zaw, ↓zax, ↓zay, ↓zaz, ↓zba, ↓zbb, ↓zbc, ↓zbd, ↓zbe, ↓zbf, ↓zbg, ↓zbh, ↓zbi, ↓zbj, ↓zbk, ↓zbl, ↓zbm, ↓zbn, ↓zbo, ↓zbp, ↓zbq, ↓zbr, ↓zbs, ↓zbt, ↓zbu, ↓zbv, ↓zbw, ↓zbx, ↓zby, ↓zbz, ↓zca, ↓zcb, ↓zcc, ↓zcd, ↓zce, ↓zcf, ↓zcg, ↓zch, ↓zci, ↓zcj, ↓zck, ↓zcl, ↓zcm, ↓zcn, ↓zco, ↓zcp, ↓zcq, ↓zcr, ↓zcs, ↓zct, ↓zcu, ↓zcv, ↓zcw, ↓zcx, ↓zcy, ↓zcz, ↓zda, ↓zdb, ↓zdc, ↓zdd, ↓zde, ↓zdf, ↓zdg, ↓zdh, ↓zdi, ↓zdj, ↓zdk, ↓zdl, ↓zdm, ↓zdn, ↓zdo, ↓zdp, ↓zdq, ↓zdr, ↓zds, ↓zdt, ↓zdu, ↓zdv, ↓zdw, ↓zdx, ↓zdy, ↓zdz, ↓zea, ↓zeb, ↓zec, ↓zed, ↓zee, zef, zeg, zeh, zei, zej, zek, zel, zem, zen, zeo, zep, zeq, zer, zes, zet, zeu, zev, zew, zex, zey, zez, zfa, zfb, zfc, zfd, zfe, zff, zfg, zfh, zfi, zfj, zfk, zfl, zfm, zfn, zfo, zfp, zfq, zfr, zfs, zft, zfu, zfv, zfw, zfx, zfy, zfz, zga, zgb, zgc, zgd, zge, zgf, zgg, zgh, zgi, zgj, zgk, zgl, zgm, zgn, zgo, zgp, zgq, zgr, zgs, zgt, zgu, zgv, zgw, zgx, zgy, zgz, zha, zhb, zhc, zhd, zhe, zhf, zhg, zhh, zhi, zhj, zhk, zhl, zhm, zhn, zho, zhp, zhq, zhr, zhs, zht, zhu, zhv, zhw, zhx, zhy, zhz, zia, zib, zic, zid, zie, zif, zig, zih, zii, zij, zik, zil, zim, zin, zio, zip, ziq, zir, zis, zit, ziu, ziv, ziw, Int.reduceBEq, Int.reduceLT, Int.reduceLE, Int.reduceNeg, Nat.reduceLeDiff, Nat.reduceAdd, Nat.reduceLT, Nat.reduceSub, reduceCtorEq, Wk.frE, ne_eq, reduceIte, ↓zLc, ↓zFor, ↓zWhl, fo_eq, B_l_is_mirror_L1, hdP, hr, q]
    | false => rw [c] at q; simp (disch := first | omega | assumption) only [zaa, zab, zac, zad, ↓zae, ↓zaf, ↓zag, ↓zah, ↓zai, zaj, ↓zak, ↓zal, ↓zam, zan, zao, zap, zaq, ↓zar, ↓zas, ↓zat, ↓zau, ↓zav, ↓zaw, ↓zax, ↓zay, ↓zaz, ↓zba, ↓zbb, ↓zbc, ↓zbd, ↓zbe, ↓zbf, ↓zbg, ↓zbh, ↓zbi, ↓zbj, ↓zbk, ↓zbl, ↓zbm, ↓zbn, ↓zbo, ↓zbp, ↓zbq, ↓zbr, ↓zbs, ↓zbt, ↓zbu, ↓zbv, ↓zbw, ↓zbx, ↓zby, ↓zbz, ↓zca, ↓zcb, ↓zcc, ↓zcd, ↓zce, ↓zcf, ↓zcg, ↓zch, ↓zci, ↓zcj, ↓zck, ↓zcl, ↓zcm, ↓zcn, ↓zco, ↓zcp, ↓zcq, ↓zcr, ↓zcs, ↓zct, ↓zcu, ↓zcv, ↓zcw, ↓zcx, ↓zcy, ↓zcz, ↓zda, ↓zdb, ↓zdc, ↓zdd, ↓zde, ↓zdf, ↓zdg, ↓zdh, ↓zdi, ↓zdj, ↓zdk, ↓zdl, ↓zdm, ↓zdn, ↓zdo, ↓zdp, ↓zdq, ↓zdr, ↓zds, ↓zdt, ↓zdu, ↓zdv, ↓zdw, ↓zdx, ↓zdy, ↓zdz, ↓zea, ↓zeb, ↓zec, ↓zed, ↓zee, zef, zeg, zeh, zei, zej, zek, zel, zem, zen, zeo, zep, zeq, zer, zes, zet, zeu, zev, zew, zex, zey, zez, zfa, zfb, zfc, zfd, zfe, zff, zfg, zfh, zfi, zfj, zfk, zfl, zfm, zfn, zfo, zfp, zfq, zfr, zfs, zft, zfu, zfv, zfw, zfx, zfy, zfz, zga, zgb, zgc, zgd, zge, zgf, zgg, zgh, zgi, zgj, zgk, zgl, zgm, zgn, zgo, zgp, zgq, zgr, zgs, zgt, zgu, zgv, zgw, zgx, zgy, zgz, zha, zhb, zhc, zhd, zhe, zhf, zhg, zhh, zhi, zhj, zhk, zhl, zhm, zhn, zho, zhp, zhq, zhr, zhs, zht, zhu, zhv, zhw, zhx, zhy, zhz, zia, zib, zic, zid, zie, zif, zig, zih, zii, zij, zik, zil, zim, zin, zio, zip, ziq, zir, zis, zit, ziu, ziv, ziw, Int.reduceBEq, Int.reduceLT, Int.reduceLE, Int.reduceNeg, Nat.reduceLeDiff, Nat.reduceAdd, Nat.reduceLT, Nat.reduceSub, reduceCtorEq, Wk.frE, ne_eq, reduceIte, ↓zLc, ↓zFor, ↓zWhl, fo_eq, B_l_is_mirror_L1, hdP, hr, q])
  have all : T.findSome? (fun h => if ((m - 2 * h.2) % h.1 == 0) = true then none else some (P.bl false)) = if mir T m = true then none else some (.bl false) := by
    unfold mir
    clear outer inner hT
    induction T with
    | nil => rfl
    | cons h T ih =>
      rw [List.findSome?_cons, List.all_cons]
      cases c : ((m - 2 * h.2) % h.1 == 0) with
      | true => rw [Bool.true_and]; simpa using ih
      | false => simp
  rw [all] at outer
  cases c : mir T m with
  | true => rw [c] at outer; simp (disch := first | omega | assumption) only [zaa, zab, zac, zad, ↓zae, ↓zaf, ↓zag, ↓zah, ↓zai, zaj, ↓zak, ↓zal, ↓zam, zan, zao, zap, zaq, ↓zar, ↓zas, ↓zat, ↓zau, ↓zav, ↓zaw, ↓zax, ↓zay, ↓zaz, ↓zba, ↓zbb, ↓zbc, ↓zbd, ↓zbe, ↓zbf, ↓zbg, ↓zbh, ↓zbi, ↓zbj, ↓zbk, ↓zbl, ↓zbm, ↓zbn, ↓zbo, ↓zbp, ↓zbq, ↓zbr, ↓zbs, ↓zbt, ↓zbu, ↓zbv, ↓zbw, ↓zbx, ↓zby, ↓zbz, ↓zca, ↓zcb, ↓zcc, ↓zcd, ↓zce, ↓zcf, ↓zcg, ↓zch, ↓zci, ↓zcj, ↓zck, ↓zcl, ↓zcm, ↓zcn, ↓zco, ↓zcp, ↓zcq, ↓zcr, ↓zcs, ↓zct, ↓zcu, ↓zcv, ↓zcw, ↓zcx, ↓zcy, ↓zcz, ↓zda, ↓zdb, ↓zdc, ↓zdd, ↓zde, ↓zdf, ↓zdg, ↓zdh, ↓zdi, ↓zdj, ↓zdk, ↓zdl, ↓zdm, ↓zdn, ↓zdo, ↓zdp, ↓zdq, ↓zdr, ↓zds, ↓zdt, ↓zdu, ↓zdv, ↓zdw, ↓zdx, ↓zdy, ↓zdz, ↓zea, ↓zeb, ↓zec, ↓zed, ↓zee, zef, zeg, zeh, zei, zej, zek, zel, zem, zen, zeo, zep, zeq, zer, zes, zet, zeu, zev, zew, zex, zey, zez, zfa, zfb, zfc, zfd, zfe, zff, zfg, zfh, zfi, zfj, zfk, zfl, zfm, zfn, zfo, zfp, zfq, zfr, zfs, zft, zfu, zfv, zfw, zfx, zfy, zfz, zga, zgb, zgc, zgd, zge, zgf, zgg, zgh, zgi, zgj, zgk, zgl, zgm, zgn, zgo, zgp, zgq, zgr, zgs, zgt, zgu, zgv, zgw, zgx, zgy, zgz, zha, zhb, zhc, zhd, zhe, zhf, zhg, zhh, zhi, zhj, zhk, zhl, zhm, zhn, zho, zhp, zhq, zhr, zhs, zht, zhu, zhv, zhw, zhx, zhy, zhz, zia, zib, zic, zid, zie, zif, zig, zih, zii, zij, zik, zil, zim, zin, zio, zip, ziq, zir, zis, zit, ziu, ziv, ziw, Int.reduceBEq, Int.reduceLT, Int.reduceLE, Int.reduceNeg, Nat.reduceLeDiff, Nat.reduceAdd, Nat.reduceLT, Nat.reduceSub, reduceCtorEq, Wk.frE, ne_eq, reduceIte, ↓zLc, ↓zFor, ↓zWhl, body_eq, B_l_is_mirror, trP, outer]
  | false => rw [c] at outer; simp (disch := first | omega | assumption) only [zaa, zab, zac, zad, ↓zae, ↓zaf, ↓zag, ↓zah, ↓zai, zaj, ↓zak, ↓zal, ↓zam, zan, zao, zap, zaq, ↓zar, ↓zas, ↓zat, ↓zau, ↓zav, ↓zaw, ↓zax, ↓zay, ↓zaz, ↓zba, ↓zbb, ↓zbc, ↓zbd, ↓zbe, ↓zbf, ↓zbg, ↓zbh, ↓zbi, ↓zbj, ↓zbk, ↓zbl, ↓zbm, ↓zbn, ↓zbo, ↓zbp, ↓zbq, ↓zbr, ↓zbs, ↓zbt, ↓zbu, ↓zbv, ↓zbw, ↓zbx, ↓zby, ↓zbz, ↓zca, ↓zcb, ↓zcc, ↓zcd, ↓zce, ↓zcf, ↓zcg, ↓zch, ↓zci, ↓zcj, ↓zck, ↓zcl, ↓zcm, ↓zcn, ↓zco, ↓zcp, ↓zcq, ↓zcr, ↓zcs, ↓zct, ↓zcu, ↓zcv, ↓zcw, ↓zcx, ↓zcy, ↓zcz, ↓zda, ↓zdb, ↓zdc, ↓zdd, ↓zde, ↓zdf, ↓zdg, ↓zdh, ↓zdi, ↓zdj, ↓zdk, ↓zdl, ↓zdm, ↓zdn, ↓zdo, ↓zdp, ↓zdq, ↓zdr, ↓zds, ↓zdt, ↓zdu, ↓zdv, ↓zdw, ↓zdx, ↓zdy, ↓zdz, ↓zea, ↓zeb, ↓zec, ↓zed, ↓zee, zef, zeg, zeh, zei, zej, zek, zel, zem, zen, zeo, zep, zeq, zer, zes, zet, zeu, zev, zew, zex, zey, zez, zfa, zfb, zfc, zfd, zfe, zff, zfg, zfh, zfi, zfj, zfk, zfl, zfm, zfn, zfo, zfp, zfq, zfr, zfs, zft, zfu, zfv, zfw, zfx, zfy, zfz, zga, zgb, zgc, zgd, zge, zgf, zgg, zgh, zgi, zgj, zgk, zgl, zgm, zgn, zgo, zgp, zgq, zgr, zgs, zgt, zgu, zgv, zgw, zgx, zgy, zgz, zha, zhb, zhc, zhd, zhe, zhf, zhg, zhh, zhi, zhj, zhk, zhl, zhm, zhn, zho, zhp, zhq, zhr, zhs, zht, zhu, zhv, zhw, zhx, zhy, zhz, zia, zib, zic, zid, zie, zif, zig, zih, zii, zij, zik, zil, zim, zin, zio, zip, ziq, zir, zis, zit, ziu, ziv, ziw, Int.reduceBEq, Int.reduceLT, Int.reduceLE, Int.reduceNeg, Nat.reduceLeDiff, Nat.reduceAdd, Nat.reduceLT, Nat.reduceSub, reduceCtorEq, Wk.frE, ne_eq, reduceIte, ↓zLc, ↓zFor, ↓zWhl, body_eq, B_l_is_mirror, trP, outer]
end
end Wk

set_option Elab.async false
set_option linter.all false
set_option maxRecDepth 100000
set_option maxHeartbeats 4000000
namespace Lw
open PySem PySem.Spec PyProof.Rows L2 Wk
def top (i : Nat) : Stmt := PySem.Challenge.pw_waketurns_k20_mirror_numbers_known.main.body.getD i (.Pass ⟨0, 0, 0, 0⟩)
def f0 : Fi := ⟨"is_mirror", top 1, ["troupe", "m", "gap", "rest"], ["troupe", "m"], true, erCs (B_is_mirror)⟩
def d0 : PDf := ⟨4, 2, true, (B_is_mirror)⟩
def f1 : Fi := ⟨"_law_pen", top 3, ["_law_script"], ["_law_script"], true, kindD.pb⟩
def f2 : Fi := ⟨"_law_draw", top 4, ["_law_pen_here", "_law_many", "_law_digit", "_law_at", "_law_cell", "_law_whole", "_law_one", "_law_two"], ["_law_pen_here", "_law_many"], true, kindD.db⟩
def f3 : Fi := ⟨"_law_troupe", top 5, ["_law_pen_here", "_law_whole", "_law_gaps", "_law_mirrored_too", "_law_about", "_law_found", "_law_k", "_law_gap", "_law_rest", "_law_half"], ["_law_pen_here"], true, erCs (B_l_troupe_3 2)⟩
def d3 : PDf := ⟨10, 1, true, (B_l_troupe_3 2)⟩
def f4 : Fi := ⟨"_law_is_mirror", top 6, ["_law_crew", "_law_number", "_law_gap", "_law_rest", "_law_beat"], ["_law_crew", "_law_number"], true, erCs (B_l_is_mirror)⟩
def d4 : PDf := ⟨5, 2, true, (B_l_is_mirror)⟩
def law_L0 : List PC := [
      .asg (.name 6) (.call 4 (.cons (.var 3) (.cons (.var 5) .nil))),
      .ife (.or (.cons (.cmp .ne (.blt .repr (.cons (.call 0 (.cons (.var 3) (.cons (.var 5) .nil))) .nil)) (.blt .repr (.cons (.var 6) .nil))) (.cons (.cmp .ne (.blt .repr (.cons (.callK 0 0 .nil (.cons (.var 5) (.cons (.var 3) .nil))) .nil)) (.blt .repr (.cons (.var 6) .nil))) .nil))) [
        .ret (.bl false)] []]
def law_L1 : List PC := [
    .asg (.name 3) (.call 3 (.cons (.var 1) .nil)),
    .asg (.name 4) (.bin .add (.bin .sub (.call 2 (.cons (.var 1) (.cons (.bin .sub (.bin .mul (.int 2) (.bin .pow (.int 10) (.int 40))) (.int 2000)) .nil))) (.bin .pow (.int 10) (.int 40))) (.int 1000)),
    .for_ [5, 6] (.name 5) (.seq (.bin .add (.lrg2 false (.bin .sub (.int 0) (.int 1)) (.int 25)) (.lst (.cons (.var 4) (.cons (.bin .mul (.bin .fdiv (.var 4) (.int 60)) (.int 60)) (.cons (.bin .mul (.int 60) (.call 2 (.cons (.var 1) (.cons (.int 9) .nil)))) (.cons (.bin .sub (.int 0) (.call 2 (.cons (.var 1) (.cons (.int 999) .nil)))) .nil))))))) law_L0]
def lawR : List PC := [
  .for_ [2, 3, 4, 5, 6] (.name 2) (.rng1 (.int 6)) law_L1,
  .ret (.and (.cons (.call 0 (.cons (.tup (.cons (.tup (.cons (.int 2) (.cons (.int 0) .nil))) (.cons (.tup (.cons (.int 3) (.cons (.int 1) .nil))) .nil))) (.cons (.int 2) .nil))) (.cons (.not (.call 0 (.cons (.tup (.cons (.tup (.cons (.int 2) (.cons (.int 0) .nil))) (.cons (.tup (.cons (.int 3) (.cons (.int 1) .nil))) .nil))) (.cons (.int 3) .nil)))) .nil)))]
def lawB : List PC := .asg (.name 1) (.call 1 (.cons (.var 0) .nil)) :: lawR
def f5 : Fi := ⟨"law", top 7, ["_law_script", "_law_pen_here", "_law_k", "_law_crew", "_law_away", "_law_number", "_law_due"], ["_law_script"], true, erCs lawB⟩
def d5 : PDf := ⟨7, 1, false, lawB⟩
def T : Txt := ⟨[f0, f1, f2, f3, f4, f5], [⟨0, 0, ["m", "troupe"], [.kw 1, .kw 0]⟩], [], []⟩
def tab : Nat → Option PDf := fun i => match i with
  | 0 => some d0
  | 3 => some d3
  | 4 => some d4
  | 5 => some d5
  | _ => none
def fr (i : Nat) : Bool := [true, true, false, true, true, false].getD i false
def pr : Prim := fun i => match i with
  | 2 => some (0, drawP)
  | _ => none
theorem prOk : PrOk kindD T pr 2 := by
  refine ⟨fun f n g e => ?_, ⟨_, rfl, rfl, rfl, rfl⟩⟩
  unfold pr at e
  split at e
  · cases e; exact .inl ⟨rfl, rfl⟩
  · cases e
theorem tabOk : TabOk T tab fr := by
  refine ⟨fun f d e => ?_⟩
  unfold tab at e
  split at e
  · cases e; exact ⟨_, rfl, rfl, rfl, rfl, by decide +kernel⟩
  · cases e; exact ⟨_, rfl, rfl, rfl, rfl, by decide +kernel⟩
  · cases e; exact ⟨_, rfl, rfl, rfl, rfl, by decide +kernel⟩
  · cases e; exact ⟨_, rfl, rfl, rfl, rfl, by decide +kernel⟩
  · cases e
noncomputable abbrev R (k : Nat) : POrc := runP tab pr T.shpP fr k
section
variable {k : Nat} {as : List P}
theorem run0 (h : as.length = 2) : R (k + 1) 0 as = bodyP (R k) T.shpP fr 4 (B_is_mirror) as := run_def (d := d0) rfl rfl h
theorem run2 : R (k + 1) 2 as = drawP as := run_prim rfl (Nat.zero_le _)
theorem run3 (h : as.length = 1) : R (k + 1) 3 as = bodyP (R k) T.shpP fr 10 (B_l_troupe_3 2) as := run_def (d := d3) rfl rfl h
theorem run4 (h : as.length = 2) : R (k + 1) 4 as = bodyP (R k) T.shpP fr 5 (B_l_is_mirror) as := run_def (d := d4) rfl rfl h
end
theorem shp0 {b0 b1 : P} : T.shpP.shp 0 [] [b0, b1] = [b1, b0] := rfl
theorem sc0 : FnScope f0.N f0.ps (defScope f0.st) := ⟨rfl, rfl, rfl, by decide +kernel, rfl, by decide +kernel, by decide +kernel⟩
theorem ck0 : chkCs T ⟨f0.N, defScope f0.st, soOf (defScope f0.st)⟩ f0.body (defBody f0.st) = true := by decide +kernel
theorem sc1 : FnScope f1.N f1.ps (defScope f1.st) := ⟨rfl, rfl, rfl, by decide +kernel, rfl, by decide +kernel, by decide +kernel⟩
theorem ck1 : chkCs T ⟨f1.N, defScope f1.st, soOf (defScope f1.st)⟩ f1.body (defBody f1.st) = true := by decide +kernel
theorem sc2 : FnScope f2.N f2.ps (defScope f2.st) := ⟨rfl, rfl, rfl, by decide +kernel, rfl, by decide +kernel, by decide +kernel⟩
theorem ck2 : chkCs T ⟨f2.N, defScope f2.st, soOf (defScope f2.st)⟩ f2.body (defBody f2.st) = true := by decide +kernel
theorem sc3 : FnScope f3.N f3.ps (defScope f3.st) := ⟨rfl, rfl, rfl, by decide +kernel, rfl, by decide +kernel, by decide +kernel⟩
theorem ck3 : chkCs T ⟨f3.N, defScope f3.st, soOf (defScope f3.st)⟩ f3.body (defBody f3.st) = true := by decide +kernel
theorem sc4 : FnScope f4.N f4.ps (defScope f4.st) := ⟨rfl, rfl, rfl, by decide +kernel, rfl, by decide +kernel, by decide +kernel⟩
theorem ck4 : chkCs T ⟨f4.N, defScope f4.st, soOf (defScope f4.st)⟩ f4.body (defBody f4.st) = true := by decide +kernel
theorem sc5 : FnScope f5.N f5.ps (defScope f5.st) := ⟨rfl, rfl, rfl, by decide +kernel, rfl, by decide +kernel, by decide +kernel⟩
theorem ck5 : chkCs T ⟨f5.N, defScope f5.st, soOf (defScope f5.st)⟩ f5.body (defBody f5.st) = true := by decide +kernel
theorem df0 {K : PySem.W.Frag} {h : Heap} {mg : Str → Option Value} (X : K.In h) (G : h.Ns mainGlobals mg) {f : Addr} {oc : Value} {od an : Option Addr} {sl : Array (Option Value)} {kV0 : Value} {dc pm cd ct : Value}
    (a : PySem.W.nsIn K mainGlobals "is_mirror" = some (some (.ref f))) (l : K.lookup f = some ⟨oc, od, .func (PySem.W.fnOf "is_mirror" "is_mirror" (defArgs (top 1)) (defBody (top 1)) (defScope (top 1)) .none kV0 dc pm an cd ct), sl⟩) (c : PySem.W.codeIn K cd "is_mirror" = true) (kp : PySem.W.keepIn K (.ref f) = true) : ∃ f fd, DefIn T K mg 0 f0 f fd := by
  refine ⟨f, _, PySem.W.mg_of X G a, ⟨oc, od, .none, kV0, dc, pm, an, cd, ct, sl, rfl, l, c⟩, kp, sc0, ck0, fun _ => .all fun us hl => match us, hl with | [_, _], _ => rfl, fun h s e es => ?_⟩
  match h, e with
  | 0, e => cases e; exact ⟨rfl, [], [], .nil, rfl, fun i d v _ _ m => absurd m (by simp), by decide, fun st us ws _ hu hw => match us, hu, ws, hw with | [], _, [_, _], _ => .of_eq rfl⟩
  | h + 1, e => cases e
theorem df1 {K : PySem.W.Frag} {h : Heap} {mg : Str → Option Value} (X : K.In h) (G : h.Ns mainGlobals mg) {f : Addr} {oc : Value} {od an : Option Addr} {sl : Array (Option Value)} {kV1 : Value} {dc pm cd ct : Value}
    (a : PySem.W.nsIn K mainGlobals "_law_pen" = some (some (.ref f))) (l : K.lookup f = some ⟨oc, od, .func (PySem.W.fnOf "_law_pen" "_law_pen" (defArgs (top 3)) (defBody (top 3)) (defScope (top 3)) .none kV1 dc pm an cd ct), sl⟩) (c : PySem.W.codeIn K cd "_law_pen" = true) (kp : PySem.W.keepIn K (.ref f) = true) : ∃ f fd, DefIn T K mg 1 f1 f fd := by
  refine ⟨f, _, PySem.W.mg_of X G a, ⟨oc, od, .none, kV1, dc, pm, an, cd, ct, sl, rfl, l, c⟩, kp, sc1, ck1, fun _ => .all fun us hl => match us, hl with | [_], _ => rfl, fun h s e es => ?_⟩
  match h, e with
  | 0, e => cases e; cases es
  | h + 1, e => cases e
theorem df2 {K : PySem.W.Frag} {h : Heap} {mg : Str → Option Value} (X : K.In h) (G : h.Ns mainGlobals mg) {f : Addr} {oc : Value} {od an : Option Addr} {sl : Array (Option Value)} {kV2 : Value} {dc pm cd ct : Value}
    (a : PySem.W.nsIn K mainGlobals "_law_draw" = some (some (.ref f))) (l : K.lookup f = some ⟨oc, od, .func (PySem.W.fnOf "_law_draw" "_law_draw" (defArgs (top 4)) (defBody (top 4)) (defScope (top 4)) .none kV2 dc pm an cd ct), sl⟩) (c : PySem.W.codeIn K cd "_law_draw" = true) (kp : PySem.W.keepIn K (.ref f) = true) : ∃ f fd, DefIn T K mg 2 f2 f fd := by
  refine ⟨f, _, PySem.W.mg_of X G a, ⟨oc, od, .none, kV2, dc, pm, an, cd, ct, sl, rfl, l, c⟩, kp, sc2, ck2, fun _ => .all fun us hl => match us, hl with | [_, _], _ => rfl, fun h s e es => ?_⟩
  match h, e with
  | 0, e => cases e; cases es
  | h + 1, e => cases e
theorem df3 {K : PySem.W.Frag} {h : Heap} {mg : Str → Option Value} (X : K.In h) (G : h.Ns mainGlobals mg) {f : Addr} {oc : Value} {od an : Option Addr} {sl : Array (Option Value)} {kV3 : Value} {dc pm cd ct : Value}
    (a : PySem.W.nsIn K mainGlobals "_law_troupe" = some (some (.ref f))) (l : K.lookup f = some ⟨oc, od, .func (PySem.W.fnOf "_law_troupe" "_law_troupe" (defArgs (top 5)) (defBody (top 5)) (defScope (top 5)) .none kV3 dc pm an cd ct), sl⟩) (c : PySem.W.codeIn K cd "_law_troupe" = true) (kp : PySem.W.keepIn K (.ref f) = true) : ∃ f fd, DefIn T K mg 3 f3 f fd := by
  refine ⟨f, _, PySem.W.mg_of X G a, ⟨oc, od, .none, kV3, dc, pm, an, cd, ct, sl, rfl, l, c⟩, kp, sc3, ck3, fun _ => .all fun us hl => match us, hl with | [_], _ => rfl, fun h s e es => ?_⟩
  match h, e with
  | 0, e => cases e; cases es
  | h + 1, e => cases e
theorem df4 {K : PySem.W.Frag} {h : Heap} {mg : Str → Option Value} (X : K.In h) (G : h.Ns mainGlobals mg) {f : Addr} {oc : Value} {od an : Option Addr} {sl : Array (Option Value)} {kV4 : Value} {dc pm cd ct : Value}
    (a : PySem.W.nsIn K mainGlobals "_law_is_mirror" = some (some (.ref f))) (l : K.lookup f = some ⟨oc, od, .func (PySem.W.fnOf "_law_is_mirror" "_law_is_mirror" (defArgs (top 6)) (defBody (top 6)) (defScope (top 6)) .none kV4 dc pm an cd ct), sl⟩) (c : PySem.W.codeIn K cd "_law_is_mirror" = true) (kp : PySem.W.keepIn K (.ref f) = true) : ∃ f fd, DefIn T K mg 4 f4 f fd := by
  refine ⟨f, _, PySem.W.mg_of X G a, ⟨oc, od, .none, kV4, dc, pm, an, cd, ct, sl, rfl, l, c⟩, kp, sc4, ck4, fun _ => .all fun us hl => match us, hl with | [_, _], _ => rfl, fun h s e es => ?_⟩
  match h, e with
  | 0, e => cases e; cases es
  | h + 1, e => cases e
theorem df5 {K : PySem.W.Frag} {h : Heap} {mg : Str → Option Value} (X : K.In h) (G : h.Ns mainGlobals mg) {f : Addr} {oc : Value} {od an : Option Addr} {sl : Array (Option Value)} {kV5 : Value} {dc pm cd ct : Value}
    (a : PySem.W.nsIn K mainGlobals "law" = some (some (.ref f))) (l : K.lookup f = some ⟨oc, od, .func (PySem.W.fnOf "law" "law" (defArgs (top 7)) (defBody (top 7)) (defScope (top 7)) .none kV5 dc pm an cd ct), sl⟩) (c : PySem.W.codeIn K cd "law" = true) (kp : PySem.W.keepIn K (.ref f) = true) : ∃ f fd, DefIn T K mg 5 f5 f fd := by
  refine ⟨f, _, PySem.W.mg_of X G a, ⟨oc, od, .none, kV5, dc, pm, an, cd, ct, sl, rfl, l, c⟩, kp, sc5, ck5, fun _ => .all fun us hl => match us, hl with | [_], _ => rfl, fun h s e es => ?_⟩
  match h, e with
  | 0, e => cases e; cases es
  | h + 1, e => cases e
theorem facts {K : PySem.W.Frag} {h : Heap} {mg : Str → Option Value} (X : K.In h) (G : h.Ns mainGlobals mg) {g0 : Addr} {oc0 : Value} {od0 an0 : Option Addr} {sl0 : Array (Option Value)} {kV0 : Value} {dc0 pm0 cd0 ct0 : Value} {g1 : Addr} {oc1 : Value} {od1 an1 : Option Addr} {sl1 : Array (Option Value)} {kV1 : Value} {dc1 pm1 cd1 ct1 : Value} {g2 : Addr} {oc2 : Value} {od2 an2 : Option Addr} {sl2 : Array (Option Value)} {kV2 : Value} {dc2 pm2 cd2 ct2 : Value} {g3 : Addr} {oc3 : Value} {od3 an3 : Option Addr} {sl3 : Array (Option Value)} {kV3 : Value} {dc3 pm3 cd3 ct3 : Value} {g4 : Addr} {oc4 : Value} {od4 an4 : Option Addr} {sl4 : Array (Option Value)} {kV4 : Value} {dc4 pm4 cd4 ct4 : Value} {g5 : Addr} {oc5 : Value} {od5 an5 : Option Addr} {sl5 : Array (Option Value)} {kV5 : Value} {dc5 pm5 cd5 ct5 : Value}
    (a0 : PySem.W.nsIn K mainGlobals "is_mirror" = some (some (.ref g0))) (l0 : K.lookup g0 = some ⟨oc0, od0, .func (PySem.W.fnOf "is_mirror" "is_mirror" (defArgs (top 1)) (defBody (top 1)) (defScope (top 1)) .none kV0 dc0 pm0 an0 cd0 ct0), sl0⟩) (c0 : PySem.W.codeIn K cd0 "is_mirror" = true) (k0 : PySem.W.keepIn K (.ref g0) = true)
    (a1 : PySem.W.nsIn K mainGlobals "_law_pen" = some (some (.ref g1))) (l1 : K.lookup g1 = some ⟨oc1, od1, .func (PySem.W.fnOf "_law_pen" "_law_pen" (defArgs (top 3)) (defBody (top 3)) (defScope (top 3)) .none kV1 dc1 pm1 an1 cd1 ct1), sl1⟩) (c1 : PySem.W.codeIn K cd1 "_law_pen" = true) (k1 : PySem.W.keepIn K (.ref g1) = true)
    (a2 : PySem.W.nsIn K mainGlobals "_law_draw" = some (some (.ref g2))) (l2 : K.lookup g2 = some ⟨oc2, od2, .func (PySem.W.fnOf "_law_draw" "_law_draw" (defArgs (top 4)) (defBody (top 4)) (defScope (top 4)) .none kV2 dc2 pm2 an2 cd2 ct2), sl2⟩) (c2 : PySem.W.codeIn K cd2 "_law_draw" = true) (k2 : PySem.W.keepIn K (.ref g2) = true)
    (a3 : PySem.W.nsIn K mainGlobals "_law_troupe" = some (some (.ref g3))) (l3 : K.lookup g3 = some ⟨oc3, od3, .func (PySem.W.fnOf "_law_troupe" "_law_troupe" (defArgs (top 5)) (defBody (top 5)) (defScope (top 5)) .none kV3 dc3 pm3 an3 cd3 ct3), sl3⟩) (c3 : PySem.W.codeIn K cd3 "_law_troupe" = true) (k3 : PySem.W.keepIn K (.ref g3) = true)
    (a4 : PySem.W.nsIn K mainGlobals "_law_is_mirror" = some (some (.ref g4))) (l4 : K.lookup g4 = some ⟨oc4, od4, .func (PySem.W.fnOf "_law_is_mirror" "_law_is_mirror" (defArgs (top 6)) (defBody (top 6)) (defScope (top 6)) .none kV4 dc4 pm4 an4 cd4 ct4), sl4⟩) (c4 : PySem.W.codeIn K cd4 "_law_is_mirror" = true) (k4 : PySem.W.keepIn K (.ref g4) = true)
    (a5 : PySem.W.nsIn K mainGlobals "law" = some (some (.ref g5))) (l5 : K.lookup g5 = some ⟨oc5, od5, .func (PySem.W.fnOf "law" "law" (defArgs (top 7)) (defBody (top 7)) (defScope (top 7)) .none kV5 dc5 pm5 an5 cd5 ct5), sl5⟩) (c5 : PySem.W.codeIn K cd5 "law" = true) (k5 : PySem.W.keepIn K (.ref g5) = true)
    (z0 : PySem.W.nsIn K mainGlobals "abs" = some none) (z1 : PySem.W.nsIn K mainGlobals "len" = some none) (z2 : PySem.W.nsIn K mainGlobals "int" = some none) (z3 : PySem.W.nsIn K mainGlobals "bool" = some none) (z4 : PySem.W.nsIn K mainGlobals "str" = some none) (z5 : PySem.W.nsIn K mainGlobals "list" = some none) (z6 : PySem.W.nsIn K mainGlobals "tuple" = some none) (z7 : PySem.W.nsIn K mainGlobals "repr" = some none) (z8 : PySem.W.nsIn K mainGlobals "sorted" = some none) (z9 : PySem.W.nsIn K mainGlobals "sum" = some none) (z10 : PySem.W.nsIn K mainGlobals "max" = some none) (z11 : PySem.W.nsIn K mainGlobals "min" = some none) (z12 : PySem.W.nsIn K mainGlobals "all" = some none) (z13 : PySem.W.nsIn K mainGlobals "any" = some none) (z14 : PySem.W.nsIn K mainGlobals "isinstance" = some none) (z15 : PySem.W.nsIn K mainGlobals "range" = some none) (z16 : PySem.W.nsIn K mainGlobals "enumerate" = some none) (z17 : PySem.W.nsIn K mainGlobals "zip" = some none) (z18 : PySem.W.nsIn K mainGlobals "dict" = some none)
     : Names T K mg ∧ DnAll T K mg 0 T.tab := by
  refine ⟨⟨fun f => ?_, PySem.W.mg_none_of X G z14, PySem.W.mg_none_of X G z15, PySem.W.mg_none_of X G z16, PySem.W.mg_none_of X G z17, PySem.W.mg_none_of X G z18, fun i x d e => ?_⟩, df0 X G a0 l0 c0 k0, df1 X G a1 l1 c1 k1, df2 X G a2 l2 c2 k2, df3 X G a3 l3 c3 k3, df4 X G a4 l4 c4 k4, df5 X G a5 l5 c5 k5, trivial⟩
  · cases f with
    | abs => exact PySem.W.mg_none_of X G z0
    | len => exact PySem.W.mg_none_of X G z1
    | int => exact PySem.W.mg_none_of X G z2
    | bool => exact PySem.W.mg_none_of X G z3
    | str => exact PySem.W.mg_none_of X G z4
    | list => exact PySem.W.mg_none_of X G z5
    | tuple => exact PySem.W.mg_none_of X G z6
    | repr => exact PySem.W.mg_none_of X G z7
    | sorted => exact PySem.W.mg_none_of X G z8
    | sum => exact PySem.W.mg_none_of X G z9
    | max2 => exact PySem.W.mg_none_of X G z10
    | min2 => exact PySem.W.mg_none_of X G z11
    | max1 => exact PySem.W.mg_none_of X G z10
    | min1 => exact PySem.W.mg_none_of X G z11
    | all => exact PySem.W.mg_none_of X G z12
    | any => exact PySem.W.mg_none_of X G z13
  · match i, e with
    | i + 0, e => cases e
def lawEnv : PEnv := none :: some (.pen, false) :: List.replicate 5 none
def K : Nat := 10
end Lw

set_option Elab.async false
set_option linter.all false
set_option maxRecDepth 100000
set_option maxHeartbeats 4000000
namespace Lw
open PySem PySem.Spec PyProof.Rows L2 Wk
theorem s0 {T : List (Nat × Nat)} {m : Int} (hT : Hands T) (hl : T.length ≤ 1000) : R 11 0 [trP T, .int m] = .ret (.bl (mir T m)) := by rw [run0 rfl]; exact mirror_ok hT hl
theorem s2 : DrOk (R 11 2) := fun as => run2
theorem s2' : DrOk (R 10 2) := fun as => run2
theorem s3 : Tr3Ok (R 11 3) := fun t h => by rw [run3 rfl]; exact troupe3_ok s2' h
theorem s4 {T : List (Nat × Nat)} {m : Int} (hT : Hands T) : R 11 4 [trP T, .int m] = .ret (.bl (mir T m)) := by rw [run4 rfl]; exact dumb_ok hT
theorem repr_bl {b : Bool} : ∃ s, bltP .repr [.bl b] = .ret (.str s) := by
  obtain ⟨s, hs⟩ := rp_some (gp_bl (n := 12) (b := b)) (by omega) (by omega)
  exact ⟨s, by show ofP ((reprP (.bl b)).map P.str) = _; rw [hs]; rfl⟩
def look (C : List (Nat × Nat)) (x : P) (y : Int) : PEnv := [none, some (.pen, false), some (x, false), some (trP C, false), some (.int y, false), none, none]
theorem one {C : List (Nat × Nat)} {x : P} {y i : Int} {t : Nat} (hT : Hands C) (hl : C.length ≤ 1000) : (foT (R 11) T.shpP fr (.name 5) law_L0 (.int i) (look C x y)).ok t fun fl t1 => t1 ≤ t + 0 ∧ ∃ env', fl = .nx env' ∧ wipeP env' [5, 6] = look C x y := by
  have e0 := s0 (m := i) hT hl
  have e4 := s4 (m := i) hT
  obtain ⟨q, p⟩ := repr_bl (b := mir C i)
  simp (disch := first | omega | assumption) only [zaa, zab, zac, zad, ↓zae, ↓zaf, ↓zag, ↓zah, ↓zai, zaj, ↓zak, ↓zal, ↓zam, zan, zao, zap, zaq, ↓zar, ↓zas, ↓zat, ↓zau, ↓zav, ↓zaw, ↓zax, ↓zay, ↓zaz, ↓zba, ↓zbb, ↓zbc, ↓zbd, ↓zbe, ↓zbf, ↓zbg, ↓zbh, ↓zbi, ↓zbj, ↓zbk, ↓zbl, ↓zbm, ↓zbn, ↓zbo, ↓zbp, ↓zbq, ↓zbr, ↓zbs, ↓zbt, ↓zbu, ↓zbv, ↓zbw, ↓zbx, ↓zby, ↓zbz, ↓zca, ↓zcb, ↓zcc, ↓zcd, ↓zce, ↓zcf, ↓zcg, ↓zch, ↓zci, ↓zcj, ↓zck, ↓zcl, ↓zcm, ↓zcn, ↓zco, ↓zcp, ↓zcq, ↓zcr, ↓zcs, ↓zct, ↓zcu, ↓zcv, ↓zcw, ↓zcx, ↓zcy, ↓zcz, ↓zda, ↓zdb, ↓zdc, ↓zdd, ↓zde, ↓zdf, ↓zdg, ↓zdh, ↓zdi, ↓zdj, ↓zdk, ↓zdl, ↓zdm, ↓zdn, ↓zdo, ↓zdp, ↓zdq, ↓zdr, ↓zds, ↓zdt, ↓zdu, ↓zdv, ↓zdw, ↓zdx, ↓zdy, ↓zdz, ↓zea, ↓zeb, ↓zec, ↓zed, ↓zee, zef, zeg, zeh, zei, zej, zek, zel, zem, zen, zeo, zep, zeq, zer, zes, zet, zeu, zev, zew, zex, zey, zez, zfa, zfb, zfc, zfd, zfe, zff, zfg, zfh, zfi, zfj, zfk, zfl, zfm, zfn, zfo, zfp, zfq, zfr, zfs, zft, zfu, zfv, zfw, zfx, zfy, zfz, zga, zgb, zgc, zgd, zge, zgf, zgg, zgh, zgi, zgj, zgk, zgl, zgm, zgn, zgo, zgp, zgq, zgr, zgs, zgt, zgu, zgv, zgw, zgx, zgy, zgz, zha, zhb, zhc, zhd, zhe, zhf, zhg, zhh, zhi, zhj, zhk, zhl, zhm, zhn, zho, zhp, zhq, zhr, zhs, zht, zhu, zhv, zhw, zhx, zhy, zhz, zia, zib, zic, zid, zie, zif, zig, zih, zii, zij, zik, zil, zim, zin, zio, zip, ziq, zir, zis, zit, ziu, ziv, ziw, Int.reduceBEq, Int.reduceLT, Int.reduceLE, Int.reduceNeg, Nat.reduceLeDiff, Nat.reduceAdd, Nat.reduceLT, Nat.reduceSub, reduceCtorEq, Wk.frE, ne_eq, reduceIte, fo_eq, law_L0, look, e0, e4, p, shp0, ok_ret]
  exact ⟨by omega, _, rfl, by simp (disch := first | omega | assumption) only [zaa, zab, zac, zad, ↓zae, ↓zaf, ↓zag, ↓zah, ↓zai, zaj, ↓zak, ↓zal, ↓zam, zan, zao, zap, zaq, ↓zar, ↓zas, ↓zat, ↓zau, ↓zav, ↓zaw, ↓zax, ↓zay, ↓zaz, ↓zba, ↓zbb, ↓zbc, ↓zbd, ↓zbe, ↓zbf, ↓zbg, ↓zbh, ↓zbi, ↓zbj, ↓zbk, ↓zbl, ↓zbm, ↓zbn, ↓zbo, ↓zbp, ↓zbq, ↓zbr, ↓zbs, ↓zbt, ↓zbu, ↓zbv, ↓zbw, ↓zbx, ↓zby, ↓zbz, ↓zca, ↓zcb, ↓zcc, ↓zcd, ↓zce, ↓zcf, ↓zcg, ↓zch, ↓zci, ↓zcj, ↓zck, ↓zcl, ↓zcm, ↓zcn, ↓zco, ↓zcp, ↓zcq, ↓zcr, ↓zcs, ↓zct, ↓zcu, ↓zcv, ↓zcw, ↓zcx, ↓zcy, ↓zcz, ↓zda, ↓zdb, ↓zdc, ↓zdd, ↓zde, ↓zdf, ↓zdg, ↓zdh, ↓zdi, ↓zdj, ↓zdk, ↓zdl, ↓zdm, ↓zdn, ↓zdo, ↓zdp, ↓zdq, ↓zdr, ↓zds, ↓zdt, ↓zdu, ↓zdv, ↓zdw, ↓zdx, ↓zdy, ↓zdz, ↓zea, ↓zeb, ↓zec, ↓zed, ↓zee, zef, zeg, zeh, zei, zej, zek, zel, zem, zen, zeo, zep, zeq, zer, zes, zet, zeu, zev, zew, zex, zey, zez, zfa, zfb, zfc, zfd, zfe, zff, zfg, zfh, zfi, zfj, zfk, zfl, zfm, zfn, zfo, zfp, zfq, zfr, zfs, zft, zfu, zfv, zfw, zfx, zfy, zfz, zga, zgb, zgc, zgd, zge, zgf, zgg, zgh, zgi, zgj, zgk, zgl, zgm, zgn, zgo, zgp, zgq, zgr, zgs, zgt, zgu, zgv, zgw, zgx, zgy, zgz, zha, zhb, zhc, zhd, zhe, zhf, zhg, zhh, zhi, zhj, zhk, zhl, zhm, zhn, zho, zhp, zhq, zhr, zhs, zht, zhu, zhv, zhw, zhx, zhy, zhz, zia, zib, zic, zid, zie, zif, zig, zih, zii, zij, zik, zil, zim, zin, zio, zip, ziq, zir, zis, zit, ziu, ziv, ziw, Int.reduceBEq, Int.reduceLT, Int.reduceLE, Int.reduceNeg, Nat.reduceLeDiff, Nat.reduceAdd, Nat.reduceLT, Nat.reduceSub, reduceCtorEq, Wk.frE, ne_eq, reduceIte, ↓zLc, ↓zFor, ↓zWhl]⟩
theorem turn {x : P} {t : Nat} (ht : t + 60 ≤ 800000) : (foT (R 11) T.shpP fr (.name 2) law_L1 x lawEnv).ok t fun fl t1 => t1 ≤ t + 60 ∧ ∃ env', fl = .nx env' ∧ wipeP env' [2, 3, 4, 5, 6] = lawEnv := by
  have p40 : (10 : Int) ^ (40 : Int).toNat = 10000000000000000000000000000000000000000 := by decide
  simp (disch := first | omega | assumption) only [zaa, zab, zac, zad, ↓zae, ↓zaf, ↓zag, ↓zah, ↓zai, zaj, ↓zak, ↓zal, ↓zam, zan, zao, zap, zaq, ↓zar, ↓zas, ↓zat, ↓zau, ↓zav, ↓zaw, ↓zax, ↓zay, ↓zaz, ↓zba, ↓zbb, ↓zbc, ↓zbd, ↓zbe, ↓zbf, ↓zbg, ↓zbh, ↓zbi, ↓zbj, ↓zbk, ↓zbl, ↓zbm, ↓zbn, ↓zbo, ↓zbp, ↓zbq, ↓zbr, ↓zbs, ↓zbt, ↓zbu, ↓zbv, ↓zbw, ↓zbx, ↓zby, ↓zbz, ↓zca, ↓zcb, ↓zcc, ↓zcd, ↓zce, ↓zcf, ↓zcg, ↓zch, ↓zci, ↓zcj, ↓zck, ↓zcl, ↓zcm, ↓zcn, ↓zco, ↓zcp, ↓zcq, ↓zcr, ↓zcs, ↓zct, ↓zcu, ↓zcv, ↓zcw, ↓zcx, ↓zcy, ↓zcz, ↓zda, ↓zdb, ↓zdc, ↓zdd, ↓zde, ↓zdf, ↓zdg, ↓zdh, ↓zdi, ↓zdj, ↓zdk, ↓zdl, ↓zdm, ↓zdn, ↓zdo, ↓zdp, ↓zdq, ↓zdr, ↓zds, ↓zdt, ↓zdu, ↓zdv, ↓zdw, ↓zdx, ↓zdy, ↓zdz, ↓zea, ↓zeb, ↓zec, ↓zed, ↓zee, zef, zeg, zeh, zei, zej, zek, zel, zem, zen, zeo, zep, zeq, zer, zes, zet, zeu, zev, zew, zex, zey, zez, zfa, zfb, zfc, zfd, zfe, zff, zfg, zfh, zfi, zfj, zfk, zfl, zfm, zfn, zfo, zfp, zfq, zfr, zfs, zft, zfu, zfv, zfw, zfx, zfy, zfz, zga, zgb, zgc, zgd, zge, zgf, zgg, zgh, zgi, zgj, zgk, zgl, zgm, zgn, zgo, zgp, zgq, zgr, zgs, zgt, zgu, zgv, zgw, zgx, zgy, zgz, zha, zhb, zhc, zhd, zhe, zhf, zhg, zhh, zhi, zhj, zhk, zhl, zhm, zhn, zho, zhp, zhq, zhr, zhs, zht, zhu, zhv, zhw, zhx, zhy, zhz, zia, zib, zic, zid, zie, zif, zig, zih, zii, zij, zik, zil, zim, zin, zio, zip, ziq, zir, zis, zit, ziu, ziv, ziw, Int.reduceBEq, Int.reduceLT, Int.reduceLE, Int.reduceNeg, Nat.reduceLeDiff, Nat.reduceAdd, Nat.reduceLT, Nat.reduceSub, reduceCtorEq, Wk.frE, ne_eq, reduceIte, fo_eq, law_L1, lawEnv]
  rw [ok_bd]
  refine ok_mono (s3 t (by omega)) fun v t1 h => ?_
  obtain ⟨ht1, C, rfl, hl, hT⟩ := h
  simp (disch := first | omega | assumption) only [zaa, zab, zac, zad, ↓zae, ↓zaf, ↓zag, ↓zah, ↓zai, zaj, ↓zak, ↓zal, ↓zam, zan, zao, zap, zaq, ↓zar, ↓zas, ↓zat, ↓zau, ↓zav, ↓zaw, ↓zax, ↓zay, ↓zaz, ↓zba, ↓zbb, ↓zbc, ↓zbd, ↓zbe, ↓zbf, ↓zbg, ↓zbh, ↓zbi, ↓zbj, ↓zbk, ↓zbl, ↓zbm, ↓zbn, ↓zbo, ↓zbp, ↓zbq, ↓zbr, ↓zbs, ↓zbt, ↓zbu, ↓zbv, ↓zbw, ↓zbx, ↓zby, ↓zbz, ↓zca, ↓zcb, ↓zcc, ↓zcd, ↓zce, ↓zcf, ↓zcg, ↓zch, ↓zci, ↓zcj, ↓zck, ↓zcl, ↓zcm, ↓zcn, ↓zco, ↓zcp, ↓zcq, ↓zcr, ↓zcs, ↓zct, ↓zcu, ↓zcv, ↓zcw, ↓zcx, ↓zcy, ↓zcz, ↓zda, ↓zdb, ↓zdc, ↓zdd, ↓zde, ↓zdf, ↓zdg, ↓zdh, ↓zdi, ↓zdj, ↓zdk, ↓zdl, ↓zdm, ↓zdn, ↓zdo, ↓zdp, ↓zdq, ↓zdr, ↓zds, ↓zdt, ↓zdu, ↓zdv, ↓zdw, ↓zdx, ↓zdy, ↓zdz, ↓zea, ↓zeb, ↓zec, ↓zed, ↓zee, zef, zeg, zeh, zei, zej, zek, zel, zem, zen, zeo, zep, zeq, zer, zes, zet, zeu, zev, zew, zex, zey, zez, zfa, zfb, zfc, zfd, zfe, zff, zfg, zfh, zfi, zfj, zfk, zfl, zfm, zfn, zfo, zfp, zfq, zfr, zfs, zft, zfu, zfv, zfw, zfx, zfy, zfz, zga, zgb, zgc, zgd, zge, zgf, zgg, zgh, zgi, zgj, zgk, zgl, zgm, zgn, zgo, zgp, zgq, zgr, zgs, zgt, zgu, zgv, zgw, zgx, zgy, zgz, zha, zhb, zhc, zhd, zhe, zhf, zhg, zhh, zhi, zhj, zhk, zhl, zhm, zhn, zho, zhp, zhq, zhr, zhs, zht, zhu, zhv, zhw, zhx, zhy, zhz, zia, zib, zic, zid, zie, zif, zig, zih, zii, zij, zik, zil, zim, zin, zio, zip, ziq, zir, zis, zit, ziu, ziv, ziw, Int.reduceBEq, Int.reduceLT, Int.reduceLE, Int.reduceNeg, Nat.reduceLeDiff, Nat.reduceAdd, Nat.reduceLT, Nat.reduceSub, reduceCtorEq, Wk.frE, ne_eq, reduceIte, p40]
  refine dr_bind s2 (by decide) (by decide) (by omega) fun a a0 a1 => ?_
  obtain ⟨y, hy⟩ : ∃ y : Int, a - 10000000000000000000000000000000000000000 + 1000 = y := ⟨_, rfl⟩
  have lr : lrgP false (.int (0 - 1)) (.int 25) = .ret (.lst (rgP (0 - 1) 25)) := by
    exact if_pos (by unfold RgOk; decide)
  have rl : (rgP (0 - 1) 25).length = 26 := by unfold rgP; rw [List.length_map, List.length_range]; rfl
  have ri : ∀ x ∈ rgP (0 - 1) 25, ∃ i, x = P.int i := by
    intro x hx
    unfold rgP at hx
    obtain ⟨k, _, rfl⟩ := List.mem_map.mp hx
    exact ⟨_, rfl⟩
  generalize rgP (0 - 1) 25 = L at lr rl ri
  have ad : ∀ a b c d, binP .add (.lst L) (.lst [a, b, c, d]) = .ret (.lst (L ++ [a, b, c, d])) := fun a b c d => by
    show (if _ ≤ sizeLine then _ else _) = _
    rw [if_pos (by rw [rl]; exact (by decide : 30 ≤ sizeLine))]
  simp (disch := first | omega | assumption) only [zaa, zab, zac, zad, ↓zae, ↓zaf, ↓zag, ↓zah, ↓zai, zaj, ↓zak, ↓zal, ↓zam, zan, zao, zap, zaq, ↓zar, ↓zas, ↓zat, ↓zau, ↓zav, ↓zaw, ↓zax, ↓zay, ↓zaz, ↓zba, ↓zbb, ↓zbc, ↓zbd, ↓zbe, ↓zbf, ↓zbg, ↓zbh, ↓zbi, ↓zbj, ↓zbk, ↓zbl, ↓zbm, ↓zbn, ↓zbo, ↓zbp, ↓zbq, ↓zbr, ↓zbs, ↓zbt, ↓zbu, ↓zbv, ↓zbw, ↓zbx, ↓zby, ↓zbz, ↓zca, ↓zcb, ↓zcc, ↓zcd, ↓zce, ↓zcf, ↓zcg, ↓zch, ↓zci, ↓zcj, ↓zck, ↓zcl, ↓zcm, ↓zcn, ↓zco, ↓zcp, ↓zcq, ↓zcr, ↓zcs, ↓zct, ↓zcu, ↓zcv, ↓zcw, ↓zcx, ↓zcy, ↓zcz, ↓zda, ↓zdb, ↓zdc, ↓zdd, ↓zde, ↓zdf, ↓zdg, ↓zdh, ↓zdi, ↓zdj, ↓zdk, ↓zdl, ↓zdm, ↓zdn, ↓zdo, ↓zdp, ↓zdq, ↓zdr, ↓zds, ↓zdt, ↓zdu, ↓zdv, ↓zdw, ↓zdx, ↓zdy, ↓zdz, ↓zea, ↓zeb, ↓zec, ↓zed, ↓zee, zef, zeg, zeh, zei, zej, zek, zel, zem, zen, zeo, zep, zeq, zer, zes, zet, zeu, zev, zew, zex, zey, zez, zfa, zfb, zfc, zfd, zfe, zff, zfg, zfh, zfi, zfj, zfk, zfl, zfm, zfn, zfo, zfp, zfq, zfr, zfs, zft, zfu, zfv, zfw, zfx, zfy, zfz, zga, zgb, zgc, zgd, zge, zgf, zgg, zgh, zgi, zgj, zgk, zgl, zgm, zgn, zgo, zgp, zgq, zgr, zgs, zgt, zgu, zgv, zgw, zgx, zgy, zgz, zha, zhb, zhc, zhd, zhe, zhf, zhg, zhh, zhi, zhj, zhk, zhl, zhm, zhn, zho, zhp, zhq, zhr, zhs, zht, zhu, zhv, zhw, zhx, zhy, zhz, zia, zib, zic, zid, zie, zif, zig, zih, zii, zij, zik, zil, zim, zin, zio, zip, ziq, zir, zis, zit, ziu, ziv, ziw, Int.reduceBEq, Int.reduceLT, Int.reduceLE, Int.reduceNeg, Nat.reduceLeDiff, Nat.reduceAdd, Nat.reduceLT, Nat.reduceSub, reduceCtorEq, Wk.frE, ne_eq, reduceIte, ↓zLc, ↓zFor, ↓zWhl, hy, p40, lr]
  refine dr_bind s2 (by decide) (by decide) (by omega) fun u u0 u1 => ?_
  simp (disch := first | omega | assumption) only [zaa, zab, zac, zad, ↓zae, ↓zaf, ↓zag, ↓zah, ↓zai, zaj, ↓zak, ↓zal, ↓zam, zan, zao, zap, zaq, ↓zar, ↓zas, ↓zat, ↓zau, ↓zav, ↓zaw, ↓zax, ↓zay, ↓zaz, ↓zba, ↓zbb, ↓zbc, ↓zbd, ↓zbe, ↓zbf, ↓zbg, ↓zbh, ↓zbi, ↓zbj, ↓zbk, ↓zbl, ↓zbm, ↓zbn, ↓zbo, ↓zbp, ↓zbq, ↓zbr, ↓zbs, ↓zbt, ↓zbu, ↓zbv, ↓zbw, ↓zbx, ↓zby, ↓zbz, ↓zca, ↓zcb, ↓zcc, ↓zcd, ↓zce, ↓zcf, ↓zcg, ↓zch, ↓zci, ↓zcj, ↓zck, ↓zcl, ↓zcm, ↓zcn, ↓zco, ↓zcp, ↓zcq, ↓zcr, ↓zcs, ↓zct, ↓zcu, ↓zcv, ↓zcw, ↓zcx, ↓zcy, ↓zcz, ↓zda, ↓zdb, ↓zdc, ↓zdd, ↓zde, ↓zdf, ↓zdg, ↓zdh, ↓zdi, ↓zdj, ↓zdk, ↓zdl, ↓zdm, ↓zdn, ↓zdo, ↓zdp, ↓zdq, ↓zdr, ↓zds, ↓zdt, ↓zdu, ↓zdv, ↓zdw, ↓zdx, ↓zdy, ↓zdz, ↓zea, ↓zeb, ↓zec, ↓zed, ↓zee, zef, zeg, zeh, zei, zej, zek, zel, zem, zen, zeo, zep, zeq, zer, zes, zet, zeu, zev, zew, zex, zey, zez, zfa, zfb, zfc, zfd, zfe, zff, zfg, zfh, zfi, zfj, zfk, zfl, zfm, zfn, zfo, zfp, zfq, zfr, zfs, zft, zfu, zfv, zfw, zfx, zfy, zfz, zga, zgb, zgc, zgd, zge, zgf, zgg, zgh, zgi, zgj, zgk, zgl, zgm, zgn, zgo, zgp, zgq, zgr, zgs, zgt, zgu, zgv, zgw, zgx, zgy, zgz, zha, zhb, zhc, zhd, zhe, zhf, zhg, zhh, zhi, zhj, zhk, zhl, zhm, zhn, zho, zhp, zhq, zhr, zhs, zht, zhu, zhv, zhw, zhx, zhy, zhz, zia, zib, zic, zid, zie, zif, zig, zih, zii, zij, zik, zil, zim, zin, zio, zip, ziq, zir, zis, zit, ziu, ziv, ziw, Int.reduceBEq, Int.reduceLT, Int.reduceLE, Int.reduceNeg, Nat.reduceLeDiff, Nat.reduceAdd, Nat.reduceLT, Nat.reduceSub, reduceCtorEq, Wk.frE, ne_eq, reduceIte, ↓zLc, ↓zFor, ↓zWhl]
  refine dr_bind s2 (by decide) (by decide) (by omega) fun v v0 v1 => ?_
  simp (disch := first | omega | assumption) only [zaa, zab, zac, zad, ↓zae, ↓zaf, ↓zag, ↓zah, ↓zai, zaj, ↓zak, ↓zal, ↓zam, zan, zao, zap, zaq, ↓zar, ↓zas, ↓zat, ↓zau, ↓zav, ↓zaw, ↓zax, ↓zay, ↓zaz, ↓zba, ↓zbb, ↓zbc, ↓zbd, ↓zbe, ↓zbf, ↓zbg, ↓zbh, ↓zbi, ↓zbj, ↓zbk, ↓zbl, ↓zbm, ↓zbn, ↓zbo, ↓zbp, ↓zbq, ↓zbr, ↓zbs, ↓zbt, ↓zbu, ↓zbv, ↓zbw, ↓zbx, ↓zby, ↓zbz, ↓zca, ↓zcb, ↓zcc, ↓zcd, ↓zce, ↓zcf, ↓zcg, ↓zch, ↓zci, ↓zcj, ↓zck, ↓zcl, ↓zcm, ↓zcn, ↓zco, ↓zcp, ↓zcq, ↓zcr, ↓zcs, ↓zct, ↓zcu, ↓zcv, ↓zcw, ↓zcx, ↓zcy, ↓zcz, ↓zda, ↓zdb, ↓zdc, ↓zdd, ↓zde, ↓zdf, ↓zdg, ↓zdh, ↓zdi, ↓zdj, ↓zdk, ↓zdl, ↓zdm, ↓zdn, ↓zdo, ↓zdp, ↓zdq, ↓zdr, ↓zds, ↓zdt, ↓zdu, ↓zdv, ↓zdw, ↓zdx, ↓zdy, ↓zdz, ↓zea, ↓zeb, ↓zec, ↓zed, ↓zee, zef, zeg, zeh, zei, zej, zek, zel, zem, zen, zeo, zep, zeq, zer, zes, zet, zeu, zev, zew, zex, zey, zez, zfa, zfb, zfc, zfd, zfe, zff, zfg, zfh, zfi, zfj, zfk, zfl, zfm, zfn, zfo, zfp, zfq, zfr, zfs, zft, zfu, zfv, zfw, zfx, zfy, zfz, zga, zgb, zgc, zgd, zge, zgf, zgg, zgh, zgi, zgj, zgk, zgl, zgm, zgn, zgo, zgp, zgq, zgr, zgs, zgt, zgu, zgv, zgw, zgx, zgy, zgz, zha, zhb, zhc, zhd, zhe, zhf, zhg, zhh, zhi, zhj, zhk, zhl, zhm, zhn, zho, zhp, zhq, zhr, zhs, zht, zhu, zhv, zhw, zhx, zhy, zhz, zia, zib, zic, zid, zie, zif, zig, zih, zii, zij, zik, zil, zim, zin, zio, zip, ziq, zir, zis, zit, ziu, ziv, ziw, Int.reduceBEq, Int.reduceLT, Int.reduceLE, Int.reduceNeg, Nat.reduceLeDiff, Nat.reduceAdd, Nat.reduceLT, Nat.reduceSub, reduceCtorEq, Wk.frE, ne_eq, reduceIte, ad]
  rw [ok_bd]
  refine ok_mono (for_same (c := 0) (m := 800000) (by omega) fun z t zm h => ?_) fun fl t2 q => ?_
  · obtain ⟨i, rfl⟩ : ∃ i, z = P.int i := by
      rcases List.mem_append.mp zm with zm | zm
      · exact ri z zm
      · simp only [List.mem_cons, List.not_mem_nil, or_false] at zm
        rcases zm with rfl | rfl | rfl | rfl <;> exact ⟨_, rfl⟩
    exact one hT (by omega)
  · obtain ⟨rfl, ht2⟩ := q
    simp (disch := first | omega | assumption) only [zaa, zab, zac, zad, ↓zae, ↓zaf, ↓zag, ↓zah, ↓zai, zaj, ↓zak, ↓zal, ↓zam, zan, zao, zap, zaq, ↓zar, ↓zas, ↓zat, ↓zau, ↓zav, ↓zaw, ↓zax, ↓zay, ↓zaz, ↓zba, ↓zbb, ↓zbc, ↓zbd, ↓zbe, ↓zbf, ↓zbg, ↓zbh, ↓zbi, ↓zbj, ↓zbk, ↓zbl, ↓zbm, ↓zbn, ↓zbo, ↓zbp, ↓zbq, ↓zbr, ↓zbs, ↓zbt, ↓zbu, ↓zbv, ↓zbw, ↓zbx, ↓zby, ↓zbz, ↓zca, ↓zcb, ↓zcc, ↓zcd, ↓zce, ↓zcf, ↓zcg, ↓zch, ↓zci, ↓zcj, ↓zck, ↓zcl, ↓zcm, ↓zcn, ↓zco, ↓zcp, ↓zcq, ↓zcr, ↓zcs, ↓zct, ↓zcu, ↓zcv, ↓zcw, ↓zcx, ↓zcy, ↓zcz, ↓zda, ↓zdb, ↓zdc, ↓zdd, ↓zde, ↓zdf, ↓zdg, ↓zdh, ↓zdi, ↓zdj, ↓zdk, ↓zdl, ↓zdm, ↓zdn, ↓zdo, ↓zdp, ↓zdq, ↓zdr, ↓zds, ↓zdt, ↓zdu, ↓zdv, ↓zdw, ↓zdx, ↓zdy, ↓zdz, ↓zea, ↓zeb, ↓zec, ↓zed, ↓zee, zef, zeg, zeh, zei, zej, zek, zel, zem, zen, zeo, zep, zeq, zer, zes, zet, zeu, zev, zew, zex, zey, zez, zfa, zfb, zfc, zfd, zfe, zff, zfg, zfh, zfi, zfj, zfk, zfl, zfm, zfn, zfo, zfp, zfq, zfr, zfs, zft, zfu, zfv, zfw, zfx, zfy, zfz, zga, zgb, zgc, zgd, zge, zgf, zgg, zgh, zgi, zgj, zgk, zgl, zgm, zgn, zgo, zgp, zgq, zgr, zgs, zgt, zgu, zgv, zgw, zgx, zgy, zgz, zha, zhb, zhc, zhd, zhe, zhf, zhg, zhh, zhi, zhj, zhk, zhl, zhm, zhn, zho, zhp, zhq, zhr, zhs, zht, zhu, zhv, zhw, zhx, zhy, zhz, zia, zib, zic, zid, zie, zif, zig, zih, zii, zij, zik, zil, zim, zin, zio, zip, ziq, zir, zis, zit, ziu, ziv, ziw, Int.reduceBEq, Int.reduceLT, Int.reduceLE, Int.reduceNeg, Nat.reduceLeDiff, Nat.reduceAdd, Nat.reduceLT, Nat.reduceSub, reduceCtorEq, Wk.frE, ne_eq, reduceIte, ↓zLc, ↓zFor, ↓zWhl, ok_ret]
    exact ⟨by omega, _, rfl, by simp (disch := first | omega | assumption) only [zaa, zab, zac, zad, ↓zae, ↓zaf, ↓zag, ↓zah, ↓zai, zaj, ↓zak, ↓zal, ↓zam, zan, zao, zap, zaq, ↓zar, ↓zas, ↓zat, ↓zau, ↓zav, ↓zaw, ↓zax, ↓zay, ↓zaz, ↓zba, ↓zbb, ↓zbc, ↓zbd, ↓zbe, ↓zbf, ↓zbg, ↓zbh, ↓zbi, ↓zbj, ↓zbk, ↓zbl, ↓zbm, ↓zbn, ↓zbo, ↓zbp, ↓zbq, ↓zbr, ↓zbs, ↓zbt, ↓zbu, ↓zbv, ↓zbw, ↓zbx, ↓zby, ↓zbz, ↓zca, ↓zcb, ↓zcc, ↓zcd, ↓zce, ↓zcf, ↓zcg, ↓zch, ↓zci, ↓zcj, ↓zck, ↓zcl, ↓zcm, ↓zcn, ↓zco, ↓zcp, ↓zcq, ↓zcr, ↓zcs, ↓zct, ↓zcu, ↓zcv, ↓zcw, ↓zcx, ↓zcy, ↓zcz, ↓zda, ↓zdb, ↓zdc, ↓zdd, ↓zde, ↓zdf, ↓zdg, ↓zdh, ↓zdi, ↓zdj, ↓zdk, ↓zdl, ↓zdm, ↓zdn, ↓zdo, ↓zdp, ↓zdq, ↓zdr, ↓zds, ↓zdt, ↓zdu, ↓zdv, ↓zdw, ↓zdx, ↓zdy, ↓zdz, ↓zea, ↓zeb, ↓zec, ↓zed, ↓zee, zef, zeg, zeh, zei, zej, zek, zel, zem, zen, zeo, zep, zeq, zer, zes, zet, zeu, zev, zew, zex, zey, zez, zfa, zfb, zfc, zfd, zfe, zff, zfg, zfh, zfi, zfj, zfk, zfl, zfm, zfn, zfo, zfp, zfq, zfr, zfs, zft, zfu, zfv, zfw, zfx, zfy, zfz, zga, zgb, zgc, zgd, zge, zgf, zgg, zgh, zgi, zgj, zgk, zgl, zgm, zgn, zgo, zgp, zgq, zgr, zgs, zgt, zgu, zgv, zgw, zgx, zgy, zgz, zha, zhb, zhc, zhd, zhe, zhf, zhg, zhh, zhi, zhj, zhk, zhl, zhm, zhn, zho, zhp, zhq, zhr, zhs, zht, zhu, zhv, zhw, zhx, zhy, zhz, zia, zib, zic, zid, zie, zif, zig, zih, zii, zij, zik, zil, zim, zin, zio, zip, ziq, zir, zis, zit, ziu, ziv, ziw, Int.reduceBEq, Int.reduceLT, Int.reduceLE, Int.reduceNeg, Nat.reduceLeDiff, Nat.reduceAdd, Nat.reduceLT, Nat.reduceSub, reduceCtorEq, Wk.frE, ne_eq, reduceIte, ↓zLc, ↓zFor, ↓zWhl, lawEnv]⟩
theorem goal : (exPs (R 11) T.shpP fr lawR lawEnv).ok 0 fun fl _ => fl = .rt (.bl true) := by
  have hT : Hands [(2, 0), (3, 1)] := fun h hh => by
    simp only [List.mem_cons, List.not_mem_nil, or_false] at hh
    rcases hh with rfl | rfl <;> decide
  have b1 : R 11 0 [.tup [.tup [.int 2, .int 0], .tup [.int 3, .int 1]], .int 2] = .ret (.bl true) := s0 (T := [(2, 0), (3, 1)]) (m := 2) hT (by decide)
  have b2 : R 11 0 [.tup [.tup [.int 2, .int 0], .tup [.int 3, .int 1]], .int 3] = .ret (.bl false) := s0 (T := [(2, 0), (3, 1)]) (m := 3) hT (by decide)
  rw [lawR, xs_cons, ok_bd, x_for, ok_bd]
  simp (disch := first | omega | assumption) only [zaa, zab, zac, zad, ↓zae, ↓zaf, ↓zag, ↓zah, ↓zai, zaj, ↓zak, ↓zal, ↓zam, zan, zao, zap, zaq, ↓zar, ↓zas, ↓zat, ↓zau, ↓zav, ↓zaw, ↓zax, ↓zay, ↓zaz, ↓zba, ↓zbb, ↓zbc, ↓zbd, ↓zbe, ↓zbf, ↓zbg, ↓zbh, ↓zbi, ↓zbj, ↓zbk, ↓zbl, ↓zbm, ↓zbn, ↓zbo, ↓zbp, ↓zbq, ↓zbr, ↓zbs, ↓zbt, ↓zbu, ↓zbv, ↓zbw, ↓zbx, ↓zby, ↓zbz, ↓zca, ↓zcb, ↓zcc, ↓zcd, ↓zce, ↓zcf, ↓zcg, ↓zch, ↓zci, ↓zcj, ↓zck, ↓zcl, ↓zcm, ↓zcn, ↓zco, ↓zcp, ↓zcq, ↓zcr, ↓zcs, ↓zct, ↓zcu, ↓zcv, ↓zcw, ↓zcx, ↓zcy, ↓zcz, ↓zda, ↓zdb, ↓zdc, ↓zdd, ↓zde, ↓zdf, ↓zdg, ↓zdh, ↓zdi, ↓zdj, ↓zdk, ↓zdl, ↓zdm, ↓zdn, ↓zdo, ↓zdp, ↓zdq, ↓zdr, ↓zds, ↓zdt, ↓zdu, ↓zdv, ↓zdw, ↓zdx, ↓zdy, ↓zdz, ↓zea, ↓zeb, ↓zec, ↓zed, ↓zee, zef, zeg, zeh, zei, zej, zek, zel, zem, zen, zeo, zep, zeq, zer, zes, zet, zeu, zev, zew, zex, zey, zez, zfa, zfb, zfc, zfd, zfe, zff, zfg, zfh, zfi, zfj, zfk, zfl, zfm, zfn, zfo, zfp, zfq, zfr, zfs, zft, zfu, zfv, zfw, zfx, zfy, zfz, zga, zgb, zgc, zgd, zge, zgf, zgg, zgh, zgi, zgj, zgk, zgl, zgm, zgn, zgo, zgp, zgq, zgr, zgs, zgt, zgu, zgv, zgw, zgx, zgy, zgz, zha, zhb, zhc, zhd, zhe, zhf, zhg, zhh, zhi, zhj, zhk, zhl, zhm, zhn, zho, zhp, zhq, zhr, zhs, zht, zhu, zhv, zhw, zhx, zhy, zhz, zia, zib, zic, zid, zie, zif, zig, zih, zii, zij, zik, zil, zim, zin, zio, zip, ziq, zir, zis, zit, ziu, ziv, ziw, Int.reduceBEq, Int.reduceLT, Int.reduceLE, Int.reduceNeg, Nat.reduceLeDiff, Nat.reduceAdd, Nat.reduceLT, Nat.reduceSub, reduceCtorEq, Wk.frE, ne_eq, reduceIte, ↓zLc, ↓zFor, ↓zWhl, lawEnv, ok_ret]
  refine ok_mono (for_same (c := 60) (m := 800000) (by simp) fun x t _ h => turn h) fun fl t1 q => ?_
  obtain ⟨rfl, _⟩ := q
  simp (disch := first | omega | assumption) only [zaa, zab, zac, zad, ↓zae, ↓zaf, ↓zag, ↓zah, ↓zai, zaj, ↓zak, ↓zal, ↓zam, zan, zao, zap, zaq, ↓zar, ↓zas, ↓zat, ↓zau, ↓zav, ↓zaw, ↓zax, ↓zay, ↓zaz, ↓zba, ↓zbb, ↓zbc, ↓zbd, ↓zbe, ↓zbf, ↓zbg, ↓zbh, ↓zbi, ↓zbj, ↓zbk, ↓zbl, ↓zbm, ↓zbn, ↓zbo, ↓zbp, ↓zbq, ↓zbr, ↓zbs, ↓zbt, ↓zbu, ↓zbv, ↓zbw, ↓zbx, ↓zby, ↓zbz, ↓zca, ↓zcb, ↓zcc, ↓zcd, ↓zce, ↓zcf, ↓zcg, ↓zch, ↓zci, ↓zcj, ↓zck, ↓zcl, ↓zcm, ↓zcn, ↓zco, ↓zcp, ↓zcq, ↓zcr, ↓zcs, ↓zct, ↓zcu, ↓zcv, ↓zcw, ↓zcx, ↓zcy, ↓zcz, ↓zda, ↓zdb, ↓zdc, ↓zdd, ↓zde, ↓zdf, ↓zdg, ↓zdh, ↓zdi, ↓zdj, ↓zdk, ↓zdl, ↓zdm, ↓zdn, ↓zdo, ↓zdp, ↓zdq, ↓zdr, ↓zds, ↓zdt, ↓zdu, ↓zdv, ↓zdw, ↓zdx, ↓zdy, ↓zdz, ↓zea, ↓zeb, ↓zec, ↓zed, ↓zee, zef, zeg, zeh, zei, zej, zek, zel, zem, zen, zeo, zep, zeq, zer, zes, zet, zeu, zev, zew, zex, zey, zez, zfa, zfb, zfc, zfd, zfe, zff, zfg, zfh, zfi, zfj, zfk, zfl, zfm, zfn, zfo, zfp, zfq, zfr, zfs, zft, zfu, zfv, zfw, zfx, zfy, zfz, zga, zgb, zgc, zgd, zge, zgf, zgg, zgh, zgi, zgj, zgk, zgl, zgm, zgn, zgo, zgp, zgq, zgr, zgs, zgt, zgu, zgv, zgw, zgx, zgy, zgz, zha, zhb, zhc, zhd, zhe, zhf, zhg, zhh, zhi, zhj, zhk, zhl, zhm, zhn, zho, zhp, zhq, zhr, zhs, zht, zhu, zhv, zhw, zhx, zhy, zhz, zia, zib, zic, zid, zie, zif, zig, zih, zii, zij, zik, zil, zim, zin, zio, zip, ziq, zir, zis, zit, ziu, ziv, ziw, Int.reduceBEq, Int.reduceLT, Int.reduceLE, Int.reduceNeg, Nat.reduceLeDiff, Nat.reduceAdd, Nat.reduceLT, Nat.reduceSub, reduceCtorEq, Wk.frE, ne_eq, reduceIte, ↓zLc, ↓zFor, ↓zWhl, lawEnv, b1, b2, ok_ret]
end Lw

namespace Lw
open Wk
theorem law_true (ns : List Int) : (T.run (K + 2) 5 [.loc 0] [.scr (ns.map D.int)]).wp fun v _ => v = .bl true :=
  law_end kindD (li := 5) (df := 2) (pf := 1) (sl := 5) (rest := lawR) prOk tabOk rfl rfl rfl rfl rfl rfl rfl rfl rfl rfl goal ns
end Lw
open PySem PySem.W PyProof.Rows
set_option maxRecDepth 100000 in
set_option maxHeartbeats 0 in
theorem PySem.Challenge.cw_waketurns_k20_mirror_numbers_known_holds : PySem.Challenge.rw_waketurns_k20_mirror_numbers_known.Holds := by
  w_on; o_law; k_head; (case hw => w_witness2)
  k_fill
  refine Wk.walkG (l := PySem.Challenge.rw_waketurns_k20_mirror_numbers_known) (T := Lw.T) (k := Lw.K + 2) (li := 5) (fi := Lw.f5) rfl (by decide) rfl ⟨rfl, by decide, by decide⟩ (fun w h Y => PySem.W.kIn_of Y) rfl rfl rfl rfl ?F (fun ns _ _ => Lw.law_true ns)
  case F =>
    intro w mg h KX G
    refine' Lw.facts KX G ?a0 ?l0 ?c0 ?k0 ?a1 ?l1 ?c1 ?k1 ?a2 ?l2 ?c2 ?k2 ?a3 ?l3 ?c3 ?k3 ?a4 ?l4 ?c4 ?k4 ?a5 ?l5 ?c5 ?k5 ?z0 ?z1 ?z2 ?z3 ?z4 ?z5 ?z6 ?z7 ?z8 ?z9 ?z10 ?z11 ?z12 ?z13 ?z14 ?z15 ?z16 ?z17 ?z18
    (case a0 => k_is); (case l0 => k_is); (case c0 => k_is); (case k0 => k_is); (case a1 => k_is); (case l1 => k_is)
    (case c1 => k_is); (case k1 => k_is); (case a2 => k_is); (case l2 => k_is); (case c2 => k_is); (case k2 => k_is)
    (case a3 => k_is); (case l3 => k_is); (case c3 => k_is); (case k3 => k_is); (case a4 => k_is); (case l4 => k_is)
    (case c4 => k_is); (case k4 => k_is); (case a5 => k_is); (case l5 => k_is); (case c5 => k_is); (case k5 => k_is)
    (case z0 => k_is); (case z1 => k_is); (case z2 => k_is); (case z3 => k_is); (case z4 => k_is); (case z5 => k_is)
    (case z6 => k_is); (case z7 => k_is); (case z8 => k_is); (case z9 => k_is); (case z10 => k_is); (case z11 => k_is)
    (case z12 => k_is); (case z13 => k_is); (case z14 => k_is); (case z15 => k_is); (case z16 => k_is); (case z17 => k_is)
    (case z18 => k_is)
#print axioms PySem.Challenge.cw_waketurns_k20_mirror_numbers_known_holds

