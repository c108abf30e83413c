import PyProof.Rows.All
import HandS.ForMost
import HandS.ForExc
import HandS.TupAny
import HandS.Deep
import HandS.IsInst
import HandS.RaiseMore
import HandS.Rev
import HandS.Zip
import HandS.NoneIn
import HandS.Defaults
import HandS.HeadEnd
import HandS.HeadHook1
import HandS.HeadHook2
import HandS.HeadHook3
import HandS.HeadHook4
import HandS.EndBits
import HandS.Head0
import HandS.Head1
import HandS.Head2
import KE.IntTextLaws
import KE.IntTextText
import HandS.Text
import PySem.Challenge.RW_gapscribe_k82_sums_and_less_read
set_option Elab.async false
set_option linter.all false
/-! GI: a small interpreter over plain values and an explicit store, and a compiler from the model's syntax to its terms. -/
namespace GI
open PySem L2

/-! ### values, store, results -/
inductive PV where
  | non | bl (b : Bool) | int (i : Int) | str (x : List Nat) | tup (xs : List PV) | frl (xs : List PV) | ref (k : Nat)
  deriving Inhabited
inductive Cell where
  | lst (xs : List PV)
  | dct (kvs : List (PV × PV))
  | ins (c : Nat) (fs : List (Nat × PV))
  deriving Inhabited
abbrev Store := List Cell
abbrev Fr := List (Option PV)
structure Ex where
  cls : Nat
  fs : List (Nat × PV)
inductive Res (α : Type) where
  | ok (a : α) (st : Store)
  | exc (x : Ex) (st : Store)
  | bad
def Res.bind {α β : Type} : Res α → (α → Store → Res β) → Res β
  | .ok a st, f => f a st
  | .exc x st, _ => .exc x st
  | .bad, _ => .bad
@[simp] theorem Res.bind_ok {α β : Type} (a : α) (st : Store) (f : α → Store → Res β) : (Res.ok a st).bind f = f a st := rfl
@[simp] theorem Res.bind_exc {α β : Type} (x : Ex) (st : Store) (f : α → Store → Res β) : (Res.exc x st : Res α).bind f = .exc x st := rfl
@[simp] theorem Res.bind_bad {α β : Type} (f : α → Store → Res β) : (Res.bad : Res α).bind f = .bad := rfl

/-! ### terms -/
inductive Bop where
  | add | sub | mul | mod | fdiv | pow
inductive Cop where
  | eq | ne | lt | le | gt | ge | isN | notN | inn | nin
inductive Ty where
  | str | int | bool | tuple | list
inductive Bi where
  | len | int | str | list | tuple | sum | min2 | max2 | isi (t : Ty)
inductive Mt where
  | append | pop | popAt | extend | index | clear
inductive Tg where
  | one (i : Nat)
  | tup (is : List Nat)
mutual
inductive E where
  | var (i : Nat) | glo (g : Nat) | non | bl (b : Bool) | int (i : Int) | str (x : List Nat)
  | bin (op : Bop) (a b : E) | cmp (op : Cop) (a b : E) | chain (o p : Cop) (a b c : E)
  | and (a b : E) | or (a b : E) | not (a : E) | neg (a : E) | ite (c a b : E)
  | idx (a i : E) | slc (a l h : E)
  | tup (es : Es) | lst (es : Es)
  | call (f : Nat) (es : Es) | bi (b : Bi) (es : Es) | mth (m : Mt) (a : E) (es : Es)
  | comp (own : List Nat) (tg : Tg) (it : It) (el : E) | compIf (own : List Nat) (tg : Tg) (it : It) (c el : E)
inductive Es where
  | nil
  | cons (e : E) (r : Es)
inductive It where
  | seq (e : E) | rng1 (a : E) | rng2 (a b : E) | rng3 (a b c : E) | enum (e : E) | zip (a b : E) | rev (e : E)
end
mutual
inductive S where
  | asg (i : Nat) (e : E) | asgT (is : List Nat) (e : E) | setI (e o i : E) | aug (i : Nat) (op : Bop) (e : E)
  | ex (e : E) | ret (e : E) | retN | ife (c : E) (a b : Ss) | forr (tg : Tg) (it : It) (b : Ss) | whl (c : E) (b : Ss)
  | brk | cnt | pass
inductive Ss where
  | nil
  | cons (s : S) (r : Ss)
end

/-! ### operations on values -/
def SL : Nat := sizeLine
/-- what `==` looks at; none: too deep, or no plain data -/
def dataOf (st : Store) : Nat → PV → Option PyData
  | _, .non => some .none
  | _, .bl b => some (.bool b)
  | _, .int i => some (.int i)
  | _, .str x => some (.str ⟨x.toArray⟩)
  | 0, _ => none
  | n + 1, .tup xs => (xs.mapM (dataOf st n)).map .tuple
  | n + 1, .frl xs => (xs.mapM (dataOf st n)).map .list
  | n + 1, .ref k => match st[k]? with
    | some (.lst xs) => (xs.mapM (dataOf st n)).map .list
    | _ => none
def scalP : PV → PV → Bool
  | .non, .non => true
  | .non, .int _ => true
  | .int _, .non => true
  | .non, .bl _ => true
  | .bl _, .non => true
  | .non, .str _ => true
  | .str _, .non => true
  | .int _, .int _ => true
  | .bl _, .bl _ => true
  | .str _, .str _ => true
  | .int _, .str _ => true
  | .str _, .int _ => true
  | .bl _, .str _ => true
  | .str _, .bl _ => true
  | _, _ => false
def sameP : PV → PV → Bool
  | .non, .non => true
  | .int a, .int b => a == b
  | .bl a, .bl b => a == b
  | .str a, .str b => a == b
  | _, _ => false
def eqF (a b : PV) (st : Store) : Option Bool :=
  if scalP a b then some (sameP a b) else
  match dataOf st 190 a, dataOf st 190 b with
  | some d, some e => if d.canLay0 && e.canLay0 then some (PyData.eqv d e) else none
  | _, _ => none
/-- the items of a list or a tuple -/
def items (st : Store) : PV → Option (List PV)
  | .tup xs => some xs
  | .frl xs => some xs
  | .ref k => match st[k]? with
    | some (.lst xs) => some xs
    | _ => none
  | _ => none
def listOf (st : Store) : PV → Option (List PV)
  | .frl xs => some xs
  | .ref k => match st[k]? with
    | some (.lst xs) => some xs
    | _ => none
  | _ => none
def flatP : PV → Bool
  | .non => true
  | .bl _ => true
  | .int _ => true
  | .str _ => true
  | _ => false
def eqP : PV → PV → Bool
  | .non, .non => true
  | .bl a, .bl b => a == b
  | .bl a, .int b => (if a then 1 else 0) == b
  | .int a, .bl b => a == (if b then 1 else 0)
  | .int a, .int b => a == b
  | .str a, .str b => a == b
  | _, _ => false
def seqD : PyData → Option (List PyData)
  | .list xs => some xs
  | .tuple xs => some xs
  | _ => none
def inF (a b : PV) (st : Store) : Option Bool :=
  match a, b with
  | .str [c], .str z => some (decide (c ∈ z))
  | a, b => match items st b with
    | some xs => if flatP a && xs.all flatP then some (xs.any fun y => eqP y a) else
      (match dataOf st 190 a, dataOf st 190 b with
      | some d, some e => (match seqD e with
        | some es => if d.canLay0 && e.canLay0 then some (es.any fun z => PyData.eqv z d) else none
        | none => none)
      | _, _ => none)
    | none => none
def new (st : Store) (c : Cell) : Res PV := .ok (.ref st.length) (st ++ [c])
def binF (op : Bop) (a b : PV) (st : Store) : Res PV :=
  match op, a, b with
  | .add, .int i, .int j => .ok (.int (i + j)) st
  | .add, .str x, .str y => if x.length + y.length ≤ SL then .ok (.str (x ++ y)) st else .bad
  | .add, .tup x, .tup y => if x.length + y.length ≤ SL then .ok (.tup (x ++ y)) st else .bad
  | .add, .ref k, .ref l => match st[k]?, st[l]? with
    | some (.lst x), some (.lst y) => if x.length + y.length ≤ SL then new st (.lst (x ++ y)) else .bad
    | _, _ => .bad
  | .sub, .int i, .int j => .ok (.int (i - j)) st
  | .mul, .int i, .int j => if (-(2 ^ 64) < i ∧ i < 2 ^ 64) ∨ (-(2 ^ 64) < j ∧ j < 2 ^ 64) then .ok (.int (i * j)) st else .bad
  | .mul, .ref k, .int j => match st[k]? with
    | some (.lst x) => if -(2 ^ 63) ≤ j ∧ j < 2 ^ 63 ∧ x.length * j.toNat ≤ SL then new st (.lst (List.replicate j.toNat x).flatten) else .bad
    | _ => .bad
  | .mod, .int i, .int j => if 0 < j then .ok (.int (i % j)) st else .bad
  | .fdiv, .int i, .int j => if 0 < j ∧ j < 1073741824 then .ok (.int (i / j)) st else .bad
  | .pow, .int i, .int j => if 0 ≤ j ∧ j ≤ 1000000 ∧ i.natAbs < 2 ^ 64 then .ok (.int (i ^ j.toNat)) st else .bad
  | _, _, _ => .bad
def ofB (st : Store) : Option Bool → Res PV
  | some b => .ok (.bl b) st
  | none => .bad
def isNon : PV → Bool
  | .non => true
  | _ => false
def ltF : PV → PV → Option Bool
  | .int i, .int j => some (decide (i < j))
  | .str x, .str y => some (decide (x < y))
  | _, _ => none
def cmpF (op : Cop) (a b : PV) (st : Store) : Res PV :=
  match op with
  | .eq => ofB st (eqF a b st)
  | .ne => ofB st ((eqF a b st).map (! ·))
  | .lt => ofB st (ltF a b)
  | .gt => ofB st (ltF b a)
  | .le => ofB st ((ltF b a).map (! ·))
  | .ge => ofB st ((ltF a b).map (! ·))
  | .isN => if isNon b then .ok (.bl (isNon a)) st else .bad
  | .notN => if isNon b then .ok (.bl (!isNon a)) st else .bad
  | .inn => ofB st (inF a b st)
  | .nin => ofB st ((inF a b st).map (! ·))
def idxF (a i : PV) (st : Store) : Res PV :=
  match i with
  | .int i => match a with
    | .str x => if x.length ≤ SL then (match atI x i with
      | some c => .ok (.str [c]) st
      | none => .bad) else .bad
    | a => match items st a with
      | some xs => match atI xs i with
        | some v => .ok v st
        | none => .bad
      | none => .bad
  | _ => .bad
def cutP {α : Type} (xs : List α) (lo hi : Option Int) : List α := (xs.drop (HT.sIx xs.length 0 lo)).take (HT.sIx xs.length xs.length hi - HT.sIx xs.length 0 lo)
/-- a bound of a slice: left out (written as `non`), or a number -/
def partI : E → PV → Option (Option Int)
  | .non, _ => some none
  | _, .int i => some (some i)
  | _, _ => none
def slcF (lo hi : Option Int) (a : PV) (st : Store) : Res PV :=
  match a with
  | .str x => if x.length ≤ SL then .ok (.str (cutP x lo hi)) st else .bad
  | .tup xs => .ok (.tup (cutP xs lo hi)) st
  | a => match listOf st a with
    | some xs => new st (.lst (cutP xs lo hi))
    | none => .bad
def isLst (st : Store) : PV → Bool
  | .ref k => match st[k]? with
    | some (.lst _) => true
    | _ => false
  | _ => false
def tyF (st : Store) (t : Ty) : PV → Option Bool
  | .non => some false
  | .bl _ => some (match t with | .bool => true | .int => true | _ => false)
  | .int _ => some (match t with | .int => true | _ => false)
  | .str _ => some (match t with | .str => true | _ => false)
  | .tup _ => some (match t with | .tuple => true | _ => false)
  | .frl _ => some (match t with | .list => true | _ => false)
  | .ref k => match st[k]? with
    | some (.lst _) => some (match t with | .list => true | _ => false)
    | _ => none
def sumF : List PV → Option Int
  | [] => some 0
  | .int i :: r => (sumF r).map (i + ·)
  | _ => none
def numTxt (i : Int) : List Nat := (toString i).toList.map Char.toNat
def biF (b : Bi) (vs : List PV) (st : Store) : Res PV :=
  match b, vs with
  | .len, [.str x] => if x.length ≤ SL then .ok (.int x.length) st else .bad
  | .len, [a] => match items st a with
    | some xs => .ok (.int xs.length) st
    | none => .bad
  | .int, [.int i] => .ok (.int i) st
  | .int, [.bl b] => .ok (.int (if b then 1 else 0)) st
  | .int, [.str x] => match PySem.intText? ⟨x.toArray⟩ with
    | some n => if x.length ≤ 640 then .ok (.int n) st else .bad
    | none => .bad
  | .str, [.int i] => if i.natAbs.log2 < 1920 then .ok (.str (numTxt i)) st else .bad
  | .str, [.str x] => .ok (.str x) st
  | .list, [a] => match items st a with
    | some xs => new st (.lst xs)
    | none => .bad
  | .tuple, [a] => match items st a with
    | some xs => .ok (.tup xs) st
    | none => .bad
  | .sum, [a] => match listOf st a with
    | some xs => match sumF xs with
      | some n => .ok (.int n) st
      | none => .bad
    | none => .bad
  | .min2, [.int i, .int j] => .ok (.int (if j < i then j else i)) st
  | .max2, [.int i, .int j] => .ok (.int (if j > i then j else i)) st
  | .isi t, [a] => ofB st (tyF st t a)
  | _, _ => .bad
def putC (st : Store) (k : Nat) (c : Cell) : Store := st.set k c
def mtF (m : Mt) (a : PV) (vs : List PV) (st : Store) : Res PV :=
  match a with
  | .ref k => match st[k]? with
    | some (.lst xs) => match m, vs with
      | .append, [y] => if xs.length < SL then .ok .non (putC st k (.lst (xs ++ [y]))) else .bad
      | .pop, [] => match xs[xs.length - 1]? with
        | some y => .ok y (putC st k (.lst xs.dropLast))
        | none => .bad
      | .popAt, [.int i] => if -(2 ^ 63) ≤ i ∧ i < 2 ^ 63 then (match seqIndex? i xs.length with
        | some j => match xs[j]? with
          | some y => .ok y (putC st k (.lst (xs.eraseIdx j)))
          | none => .bad
        | none => .bad) else .bad
      | .extend, [.ref l] => match st[l]? with
        | some (.lst ys) => if xs.length + ys.length ≤ SL then .ok .non (putC st k (.lst (xs ++ ys))) else .bad
        | _ => .bad
      | .index, [y] => if flatP y && xs.all flatP then (match xs.findIdx? fun z => eqP z y with
        | some j => .ok (.int j) st
        | none => .bad) else .bad
      | .clear, [] => .ok .non (putC st k (.lst []))
      | _, _ => .bad
    | _ => .bad
  | _ => .bad
def setF (v o i : PV) (st : Store) : Option Store :=
  match o, i with
  | .ref k, .int i => match st[k]? with
    | some (.lst xs) => match ixN xs.length i with
      | some j => some (putC st k (.lst (xs.set j v)))
      | none => none
    | _ => none
  | _, _ => none

/-! ### targets, loops -/
def bindMany : List Nat → List PV → Fr → Option Fr
  | [], [], env => some env
  | i :: is, v :: vs, env => bindMany is vs (env.set i (some v))
  | _, _, _ => none
def bindTg : Tg → PV → Fr → Option Fr
  | .one i, v, env => some (env.set i (some v))
  | .tup is, .tup vs, env => bindMany is vs env
  | _, _, _ => none
/-- the items that are walked, and the lists that must stand meanwhile -/
structure Walk where
  its : List PV
  stay : List (Nat × List PV)
def stays (st : Store) : List (Nat × List PV) → Prop
  | [] => True
  | (k, xs) :: r => st[k]? = some (.lst xs) ∧ stays st r
def sameCell (c : Option Cell) (xs : List PV) : Prop := c = some (.lst xs)
open Classical in
noncomputable def keeps (w : List (Nat × List PV)) (st : Store) : Bool := decide (stays st w)
inductive Fl where
  | nx | br | ct | rt (v : PV) | xc (x : Ex)
/-- an expression within a statement: what is raised ends the statement -/
def Res.lift {α : Type} : Res α → Fr → (α → Store → Res (Fl × Fr)) → Res (Fl × Fr)
  | .ok a st, _, f => f a st
  | .exc x st, env, _ => .ok (.xc x, env) st
  | .bad, _, _ => .bad
@[simp] theorem Res.lift_ok {α : Type} (a : α) (st : Store) (env : Fr) (f : α → Store → Res (Fl × Fr)) : (Res.ok a st).lift env f = f a st := rfl
@[simp] theorem Res.lift_exc {α : Type} (x : Ex) (st : Store) (env : Fr) (f : α → Store → Res (Fl × Fr)) : (Res.exc x st : Res α).lift env f = .ok (.xc x, env) st := rfl
@[simp] theorem Res.lift_bad {α : Type} (env : Fr) (f : α → Store → Res (Fl × Fr)) : (Res.bad : Res α).lift env f = .bad := rfl
def wipeE (env : Fr) : List Nat → Fr
  | [] => env
  | v :: vs => (wipeE env vs).set v none
noncomputable def compL (w : List (Nat × List PV)) (tg : Tg) (c el : Fr → Store → Res PV) (env : Fr) : List PV → List PV → Store → Res PV
  | [], acc, st => if keeps w st then new st (.lst acc) else .bad
  | x :: r, acc, st => if keeps w st then (match bindTg tg x env with
    | none => .bad
    | some env' => match c env' st with
      | .ok (.bl true) st1 => (match el env' st1 with
        | .ok v st2 => if acc.length < SL then compL w tg c el env r (acc ++ [v]) st2 else .bad
        | _ => .bad)
      | .ok (.bl false) st1 => compL w tg c el env r acc st1
      | _ => .bad) else .bad
noncomputable def forL (w : List (Nat × List PV)) (tg : Tg) (b : Fr → Store → Res (Fl × Fr)) : List PV → Fr → Store → Res (Fl × Fr)
  | [], env, st => if keeps w st then .ok (.nx, env) st else .bad
  | x :: r, env, st => if keeps w st then (match bindTg tg x env with
    | none => .bad
    | some env' => (b env' st).bind fun fe st' => match fe with
      | (.nx, env2) => forL w tg b r env2 st'
      | (.ct, env2) => forL w tg b r env2 st'
      | (.br, env2) => .ok (.nx, env2) st'
      | (f, env2) => .ok (f, env2) st') else .bad
def whlL (c : Fr → Store → Res PV) (b : Fr → Store → Res (Fl × Fr)) : Nat → Fr → Store → Res (Fl × Fr)
  | 0, _, _ => .bad
  | n + 1, env, st => (c env st).lift env fun v st1 => match v with
    | .bl true => (b env st1).bind fun fe st' => match fe with
      | (.nx, env2) => whlL c b n env2 st'
      | (.ct, env2) => whlL c b n env2 st'
      | (.br, env2) => .ok (.nx, env2) st'
      | (f, env2) => .ok (f, env2) st'
    | .bl false => .ok (.nx, env) st1
    | _ => .bad
def enumI : Nat → List PV → List PV
  | _, [] => []
  | n, x :: r => .tup [.int n, x] :: enumI (n + 1) r
def zipI : List PV → List PV → List PV
  | x :: r, y :: s => .tup [x, y] :: zipI r s
  | _, _ => []
def rngI (lo c : Int) (n : Nat) : List PV := (List.range n).map fun (i : Nat) => PV.int (lo + (i : Int) * c)
def stayOf : PV → List PV → List (Nat × List PV)
  | .ref k, xs => [(k, xs)]
  | _, _ => []
def in62 (i : Int) : Bool := decide (-(2 ^ 62) ≤ i ∧ i < 2 ^ 62)
/-- the number of turns of a range -/
def rngN (i j c : Int) : Nat := if 0 < c then ((j - i + c - 1) / c).toNat else ((i - j + (-c) - 1) / (-c)).toNat

structure Ck where
  gl : Nat → Option PV
  cf : Nat → List PV → Store → Res PV
  wf : Nat

/-! ### evaluation -/
mutual
noncomputable def ev (cx : Ck) : E → Fr → Store → Res PV
  | .var i, env, st => match env[i]? with
    | some (some v) => .ok v st
    | _ => .bad
  | .glo g, _, st => match cx.gl g with
    | some v => .ok v st
    | none => .bad
  | .non, _, st => .ok .non st
  | .bl b, _, st => .ok (.bl b) st
  | .int i, _, st => .ok (.int i) st
  | .str x, _, st => .ok (.str x) st
  | .bin op a b, env, st => (ev cx a env st).bind fun x st1 => (ev cx b env st1).bind fun y st2 => binF op x y st2
  | .cmp op a b, env, st => (ev cx a env st).bind fun x st1 => (ev cx b env st1).bind fun y st2 => cmpF op x y st2
  | .chain o p a b c, env, st => (ev cx a env st).bind fun x st1 => (ev cx b env st1).bind fun y st2 => (cmpF o x y st2).bind fun k st3 => match k with
    | .bl true => (ev cx c env st3).bind fun z st4 => cmpF p y z st4
    | .bl false => .ok (.bl false) st3
    | _ => .bad
  | .and a b, env, st => (ev cx a env st).bind fun x st1 => match x with
    | .bl true => ev cx b env st1
    | .bl false => .ok (.bl false) st1
    | _ => .bad
  | .or a b, env, st => (ev cx a env st).bind fun x st1 => match x with
    | .bl true => .ok (.bl true) st1
    | .bl false => ev cx b env st1
    | _ => .bad
  | .not a, env, st => (ev cx a env st).bind fun x st1 => match x with
    | .bl b => .ok (.bl (!b)) st1
    | _ => .bad
  | .neg a, env, st => (ev cx a env st).bind fun x st1 => match x with
    | .int i => .ok (.int (-i)) st1
    | _ => .bad
  | .ite c a b, env, st => (ev cx c env st).bind fun x st1 => match x with
    | .bl true => ev cx a env st1
    | .bl false => ev cx b env st1
    | _ => .bad
  | .idx a i, env, st => (ev cx a env st).bind fun x st1 => (ev cx i env st1).bind fun y st2 => idxF x y st2
  | .slc a l h, env, st => (ev cx a env st).bind fun x st1 => (ev cx l env st1).bind fun y st2 => match partI l y with
    | none => .bad
    | some lo => (ev cx h env st2).bind fun z st3 => match partI h z with
      | none => .bad
      | some hi => slcF lo hi x st3
  | .tup es, env, st => (evs cx es env st).bind fun vs st1 => if vs.length ≤ SL then .ok (.tup vs) st1 else .bad
  | .lst es, env, st => (evs cx es env st).bind fun vs st1 => if vs.length ≤ SL then new st1 (.lst vs) else .bad
  | .call f es, env, st => (evs cx es env st).bind fun vs st1 => cx.cf f vs st1
  | .bi b es, env, st => (evs cx es env st).bind fun vs st1 => biF b vs st1
  | .mth m a es, env, st => (ev cx a env st).bind fun x st1 => if isLst st1 x then (evs cx es env st1).bind fun vs st2 => mtF m x vs st2 else .bad
  | .comp own tg it el, env, st => (evI cx it env st).bind fun w st1 => compL w.stay tg (fun _ st => .ok (.bl true) st) (ev cx el) (wipeE env own) w.its [] st1
  | .compIf own tg it c el, env, st => (evI cx it env st).bind fun w st1 => compL w.stay tg (ev cx c) (ev cx el) (wipeE env own) w.its [] st1
noncomputable def evs (cx : Ck) : Es → Fr → Store → Res (List PV)
  | .nil, _, st => .ok [] st
  | .cons e r, env, st => (ev cx e env st).bind fun v st1 => (evs cx r env st1).bind fun vs st2 => .ok (v :: vs) st2
noncomputable def evI (cx : Ck) : It → Fr → Store → Res Walk
  | .seq e, env, st => (ev cx e env st).bind fun x st1 => match x with
    | .str z => .ok ⟨z.map fun c => .str [c], []⟩ st1
    | x => match items st1 x with
      | some xs => .ok ⟨xs, stayOf x xs⟩ st1
      | none => .bad
  | .rng1 a, env, st => (ev cx a env st).bind fun x st1 => match x with
    | .int j => if in62 j then .ok ⟨rngI 0 1 j.toNat, []⟩ st1 else .bad
    | _ => .bad
  | .rng2 a b, env, st => (ev cx a env st).bind fun x st1 => (ev cx b env st1).bind fun y st2 => match x, y with
    | .int i, .int j => if in62 i && in62 j then .ok ⟨rngI i 1 (j - i).toNat, []⟩ st2 else .bad
    | _, _ => .bad
  | .rng3 a b c, env, st => (ev cx a env st).bind fun x st1 => (ev cx b env st1).bind fun y st2 => (ev cx c env st2).bind fun z st3 => match x, y, z with
    | .int i, .int j, .int c => if in62 i && in62 j && c == -1 then .ok ⟨rngI i c (i - j).toNat, []⟩ st3 else .bad
    | _, _, _ => .bad
  | .enum e, env, st => (ev cx e env st).bind fun x st1 => match listOf st1 x with
    | some xs => .ok ⟨enumI 0 xs, stayOf x xs⟩ st1
    | none => .bad
  | .zip a b, env, st => (ev cx a env st).bind fun x st1 => (ev cx b env st1).bind fun y st2 => match x, y with
    | .tup xs, .tup ys => .ok ⟨zipI xs ys, []⟩ st2
    | x, y => match listOf st2 x, listOf st2 y with
      | some xs, some ys => .ok ⟨zipI xs ys, stayOf x xs ++ stayOf y ys⟩ st2
      | _, _ => .bad
  | .rev e, env, st => (ev cx e env st).bind fun x st1 => match items st1 x with
    | some xs => .ok ⟨xs.reverse, stayOf x xs⟩ st1
    | none => .bad
end
mutual
noncomputable def xS (cx : Ck) : S → Fr → Store → Res (Fl × Fr)
  | .asg i e, env, st => (ev cx e env st).lift env fun v st1 => .ok (.nx, env.set i (some v)) st1
  | .asgT is e, env, st => (ev cx e env st).lift env fun v st1 => match items st1 v with
    | some vs => match bindMany is vs env with
      | some env' => .ok (.nx, env') st1
      | none => .bad
    | none => .bad
  | .setI e o i, env, st => (ev cx e env st).lift env fun v st1 => (ev cx o env st1).lift env fun x st2 => (ev cx i env st2).lift env fun y st3 => match setF v x y st3 with
    | some st4 => .ok (.nx, env) st4
    | none => .bad
  | .aug i op e, env, st => match env[i]? with
    | some (some x) => (ev cx e env st).lift env fun y st1 => match op, x, y with
      | .add, .int a, .int b => .ok (.nx, env.set i (some (.int (a + b)))) st1
      | .sub, .int a, .int b => .ok (.nx, env.set i (some (.int (a - b)))) st1
      | _, _, _ => .bad
    | _ => .bad
  | .ex e, env, st => (ev cx e env st).lift env fun _ st1 => .ok (.nx, env) st1
  | .ret e, env, st => (ev cx e env st).lift env fun v st1 => .ok (.rt v, env) st1
  | .retN, env, st => .ok (.rt .non, env) st
  | .ife c a b, env, st => (ev cx c env st).lift env fun x st1 => match x with
    | .bl true => xSs cx a env st1
    | .bl false => xSs cx b env st1
    | _ => .bad
  | .forr tg it b, env, st => (evI cx it env st).lift env fun w st1 => forL w.stay tg (xSs cx b) w.its env st1
  | .whl c b, env, st => whlL (ev cx c) (xSs cx b) cx.wf env st
  | .brk, env, st => .ok (.br, env) st
  | .cnt, env, st => .ok (.ct, env) st
  | .pass, env, st => .ok (.nx, env) st
noncomputable def xSs (cx : Ck) : Ss → Fr → Store → Res (Fl × Fr)
  | .nil, env, st => .ok (.nx, env) st
  | .cons s r, env, st => (xS cx s env st).bind fun fe st1 => match fe with
    | (.nx, env1) => xSs cx r env1 st1
    | fe => .ok fe st1
end
structure Fn where
  np : Nat
  nl : Nat
  body : Ss
noncomputable def callF (ft : Nat → Option Fn) (gl : Nat → Option PV) (wf : Nat) : Nat → Nat → List PV → Store → Res PV
  | 0, _, _, _ => .bad
  | n + 1, f, args, st => match ft f with
    | none => .bad
    | some fn => if args.length = fn.np then
        (match xSs ⟨gl, callF ft gl wf n, wf⟩ fn.body (args.map some ++ List.replicate (fn.nl - fn.np) none) st with
          | .ok (.rt v, _) st1 => .ok v st1
          | .ok (.nx, _) st1 => .ok .non st1
          | .ok (.xc x, _) st1 => .exc x st1
          | _ => .bad)
      else .bad
end GI
set_option maxRecDepth 10000
/-! GR: how the interpreter's values, store and frames stand in the abstract heap. -/
namespace GI
open PySem L2
section
variable (K : PySem.W.Frag) (p : List Addr) (H : Hp)
mutual
def VR : PV → V → Prop
  | .non, v => v = .non
  | .bl b, v => v = .bl b
  | .int i, v => v = .int i
  | .str x, v => v = .str ⟨x.toArray⟩
  | .tup xs, v => ∃ a vs, v = .ref a ∧ SqT K H a vs ∧ VRs xs vs
  | .frl xs, v => ∃ a vs, v = .ref a ∧ ((∃ o, H a = some (.frz o (.lst vs))) ∨ SqL K (fun _ => none) a vs) ∧ VRs xs vs
  | .ref k, v => ∃ a, p[k]? = some a ∧ v = .ref a
def VRs : List PV → List V → Prop
  | [], vs => vs = []
  | x :: xs, vs => ∃ v r, vs = v :: r ∧ VR x v ∧ VRs xs r
end
def KvR (kv : PV × PV) (w : V × V) : Prop := VR K p H kv.1 w.1 ∧ VR K p H kv.2 w.2
end
theorem VRs.paired {K : PySem.W.Frag} {p : List Addr} {H : Hp} : ∀ {xs : List PV} {vs : List V}, VRs K p H xs vs → Paired (VR K p H) xs vs
  | [], vs, h => by
    unfold VRs at h
    subst h
    exact .nil
  | x :: xs, vs, h => by
    unfold VRs at h
    obtain ⟨v, r, rfl, h1, h2⟩ := h
    exact .cons h1 (VRs.paired h2)
theorem VRs.of {K : PySem.W.Frag} {p : List Addr} {H : Hp} : ∀ {xs : List PV} {vs : List V}, Paired (VR K p H) xs vs → VRs K p H xs vs
  | _, _, .nil => by
    unfold VRs
    rfl
  | _, _, .cons h t => by
    unfold VRs
    exact ⟨_, _, rfl, h, VRs.of t⟩
theorem VRs.iff {K : PySem.W.Frag} {p : List Addr} {H : Hp} {xs : List PV} {vs : List V} : VRs K p H xs vs ↔ Paired (VR K p H) xs vs := ⟨VRs.paired, VRs.of⟩

/-! ### growth -/
structure Gr (p : List Addr) (H : Hp) (p' : List Addr) (H' : Hp) : Prop where
  ext : ∃ q, p' = p ++ q
  tup : ∀ a xs, H a = some (.tup xs) → H' a = some (.tup xs)
  frz : ∀ a o u, H a = some (.frz o u) → H' a = some (.frz o u)
  out : ∀ a o, a ∉ p → H a = some o → H' a = some o
  new : ∀ a, a ∈ p' → a ∉ p → H a = none
theorem Gr.refl (p : List Addr) (H : Hp) : Gr p H p H := ⟨⟨[], by simp⟩, fun _ _ h => h, fun _ _ _ h => h, fun _ _ _ h => h, fun _ h n => absurd h n⟩
theorem Gr.trans {p p1 p2 : List Addr} {H H1 H2 : Hp} (a : Gr p H p1 H1) (b : Gr p1 H1 p2 H2) : Gr p H p2 H2 := by
  obtain ⟨q, e⟩ := a.ext
  obtain ⟨q2, e2⟩ := b.ext
  have sub : ∀ c, c ∈ p → c ∈ p1 := fun c hc => by rw [e]; exact List.mem_append_left _ hc
  have nin : ∀ c o, c ∉ p → H c = some o → c ∉ p1 := fun c o hn hc h1 => by rw [a.new c h1 hn] at hc; cases hc
  refine ⟨⟨q ++ q2, by rw [e2, e, List.append_assoc]⟩, fun c xs h => b.tup _ _ (a.tup _ _ h), fun c o u h => b.frz _ _ _ (a.frz _ _ _ h), fun c o hn h => b.out c o (nin c o hn h) (a.out c o hn h), fun c h hn => ?_⟩
  by_cases h1 : c ∈ p1
  · exact a.new c h1 hn
  · cases q : H c with
    | none => rfl
    | some o =>
      have := a.out c o hn q
      rw [b.new c h h1] at this
      cases this
theorem Gr.get {p p' : List Addr} {H H' : Hp} (g : Gr p H p' H') {k : Nat} {a : Addr} (h : p[k]? = some a) : p'[k]? = some a := by
  obtain ⟨q, e⟩ := g.ext
  obtain ⟨hk, _⟩ := List.getElem?_eq_some_iff.mp h
  rw [e, List.getElem?_append_left hk]
  exact h
theorem SqT.gr {K : PySem.W.Frag} {p p' : List Addr} {H H' : Hp} (g : Gr p H p' H') {a : Addr} {xs : List V} (h : SqT K H a xs) : SqT K H' a xs := by
  rcases h with (h | ⟨o, h⟩) | h
  · exact .inl (.inl (g.tup _ _ h))
  · exact .inl (.inr ⟨o, g.frz _ _ _ h⟩)
  · exact .inr h
mutual
theorem VR.gr {K : PySem.W.Frag} {p p' : List Addr} {H H' : Hp} (g : Gr p H p' H') : ∀ {x : PV} {v : V}, VR K p H x v → VR K p' H' x v
  | .non, _, h => by unfold VR at h ⊢; exact h
  | .bl b, _, h => by unfold VR at h ⊢; exact h
  | .int i, _, h => by unfold VR at h ⊢; exact h
  | .str x, _, h => by unfold VR at h ⊢; exact h
  | .tup xs, _, h => by
    unfold VR at h ⊢
    obtain ⟨a, vs, e, h1, h2⟩ := h
    exact ⟨a, vs, e, SqT.gr g h1, VRs.gr g h2⟩
  | .frl xs, _, h => by
    unfold VR at h ⊢
    obtain ⟨a, vs, e, h1, h2⟩ := h
    refine ⟨a, vs, e, ?_, VRs.gr g h2⟩
    rcases h1 with ⟨o, h1⟩ | h1
    · exact .inl ⟨o, g.frz _ _ _ h1⟩
    · exact .inr h1
  | .ref k, _, h => by
    unfold VR at h ⊢
    obtain ⟨a, h1, e⟩ := h
    exact ⟨a, g.get h1, e⟩
theorem VRs.gr {K : PySem.W.Frag} {p p' : List Addr} {H H' : Hp} (g : Gr p H p' H') : ∀ {xs : List PV} {vs : List V}, VRs K p H xs vs → VRs K p' H' xs vs
  | [], _, h => by unfold VRs at h ⊢; exact h
  | x :: xs, _, h => by
    unfold VRs at h ⊢
    obtain ⟨v, r, e, h1, h2⟩ := h
    exact ⟨v, r, e, VR.gr g h1, VRs.gr g h2⟩
end

/-! ### cells, the store, frames -/
/-- where the classes stand -/
structure Wd where
  K : PySem.W.Frag
  cl : Nat → Option Addr
  fn : Nat → Str
def CellR (wd : Wd) (p : List Addr) (H : Hp) (a : Addr) : Cell → Prop
  | .lst xs => ∃ vs, H a = some (.lst vs) ∧ VRs wd.K p H xs vs
  | .dct kvs => False
  | .ins c fs => ∃ C dx vs, wd.cl c = some C ∧ H a = some (.ins C dx vs) ∧ Paired (fun (x : Nat × PV) (y : Str × V) => y.1 = wd.fn x.1 ∧ VR wd.K p H x.2 y.2) fs vs
structure StR (wd : Wd) (p : List Addr) (H : Hp) (st : Store) : Prop where
  len : p.length = st.length
  nd : p.Nodup
  cell : ∀ (k : Nat) (c : Cell) (a : Addr), st[k]? = some c → p[k]? = some a → CellR wd p H a c
structure FrR (wd : Wd) (p : List Addr) (H : Hp) (env : Fr) (o : St) : Prop where
  len : env.length = o.length
  at_ : ∀ (i : Nat) (x : PV), env[i]? = some (some x) → ∃ v, o[i]? = some (some v) ∧ VR wd.K p H x v
def XR (wd : Wd) (x : Ex) (cls : Value) (d : Option Addr) (H : Hp) : Prop := ∃ C, wd.cl x.cls = some C ∧ cls = .ref C ∧ x.fs = [] ∧ d = none
section
variable {wd : Wd} {p p' : List Addr} {H H' : Hp} {st : Store} {env : Fr} {o : St}
theorem CellR.gr_eq (g : Gr p H p' H') {a : Addr} {c : Cell} (h : CellR wd p H a c) (e : H' a = H a) : CellR wd p' H' a c := by
  cases c with
  | lst xs =>
    obtain ⟨vs, h1, h2⟩ := h
    exact ⟨vs, by rw [e]; exact h1, h2.gr g⟩
  | dct kvs => exact h
  | ins c fs =>
    obtain ⟨C, dx, vs, h0, h1, h2⟩ := h
    exact ⟨C, dx, vs, h0, by rw [e]; exact h1, Paired.mapP h2 fun _ _ z => ⟨z.1, z.2.gr g⟩⟩
theorem FrR.gr (g : Gr p H p' H') (h : FrR wd p H env o) : FrR wd p' H' env o := ⟨h.len, fun i x e => by
  obtain ⟨v, h1, h2⟩ := h.at_ i x e
  exact ⟨v, h1, h2.gr g⟩⟩
theorem FrR.set (h : FrR wd p H env o) {i : Nat} {x : PV} {v : V} (r : VR wd.K p H x v) : FrR wd p H (env.set i (some x)) (o.set i (some v)) := by
  refine ⟨by simpa using h.len, fun j y e => ?_⟩
  by_cases hj : i = j
  · subst hj
    by_cases hl : i < env.length
    · rw [List.getElem?_set_self hl] at e
      cases e
      exact ⟨v, by rw [List.getElem?_set_self (by have := h.len; omega)], r⟩
    · rw [List.getElem?_eq_none (by simpa using hl)] at e
      cases e
  · rw [List.getElem?_set_ne hj] at e ⊢
    exact h.at_ j y e
theorem FrR.wipe (h : FrR wd p H env o) : ∀ vs : List Nat, FrR wd p H (wipeE env vs) (L2.wipe o vs)
  | [] => h
  | v :: vs => by
    have q := FrR.wipe h vs
    unfold wipeE L2.wipe
    refine ⟨by simpa using q.len, fun j y e => ?_⟩
    by_cases hj : v = j
    · subst hj
      by_cases hl : v < (wipeE env vs).length
      · rw [List.getElem?_set_self hl] at e
        cases e
      · rw [List.getElem?_eq_none (by simpa using hl)] at e
        cases e
    · rw [List.getElem?_set_ne hj] at e ⊢
      exact q.at_ j y e
theorem StR.get (h : StR wd p H st) {k : Nat} {c : Cell} (e : st[k]? = some c) : ∃ a, p[k]? = some a ∧ CellR wd p H a c := by
  obtain ⟨hk, _⟩ := List.getElem?_eq_some_iff.mp e
  have hk' : k < p.length := by have := h.len; omega
  exact ⟨p[k], List.getElem?_eq_getElem hk', h.cell k c _ e (List.getElem?_eq_getElem hk')⟩
theorem StR.some_ (h : StR wd p H st) {a : Addr} (ha : a ∈ p) : ∃ o, H a = some o ∧ (∀ xs, o ≠ .tup xs) ∧ ∀ ob u, o ≠ .frz ob u := by
  obtain ⟨k, hk, e⟩ := List.getElem_of_mem ha
  have hk' : k < st.length := by have := h.len; omega
  have q := h.cell k st[k] a (List.getElem?_eq_getElem hk') (by rw [List.getElem?_eq_getElem hk, e])
  cases hc : st[k] with
  | lst xs =>
    rw [hc] at q
    obtain ⟨vs, h1, _⟩ := q
    exact ⟨_, h1, fun _ z => (nomatch z), fun _ _ z => nomatch z⟩
  | dct kvs =>
    rw [hc] at q
    exact q.elim
  | ins c fs =>
    rw [hc] at q
    obtain ⟨C, dx, vs, _, h1, _⟩ := q
    exact ⟨_, h1, fun _ z => (nomatch z), fun _ _ z => nomatch z⟩
/-- a new tracked object that is no cell of the store -/
theorem Gr.upd_out (h : StR wd p H st) {a : Addr} {u : HO} (n : H a = none) : Gr p H p (upd H a u) := by
  refine ⟨⟨[], by simp⟩, fun b xs e => ?_, fun b o x e => ?_, fun b o _ e => ?_, fun b hb hn => absurd hb hn⟩ <;>
    (rw [upd_ne (ne_of_none e n)]; exact e)
theorem StR.upd_out (h : StR wd p H st) {a : Addr} {u : HO} (n : H a = none) : StR wd p (upd H a u) st := by
  refine ⟨h.len, h.nd, fun k c b e1 e2 => ?_⟩
  obtain ⟨o, ho, _⟩ := h.some_ (List.mem_of_getElem? e2)
  exact (h.cell k c b e1 e2).gr_eq (Gr.upd_out h n) (by rw [upd_ne (ne_of_none ho n)])
/-- a tracked object becomes the store's new cell -/
theorem Gr.push (h : StR wd p H st) {a : Addr} (n : a ∉ p) {p0 : List Addr} {H0 : Hp} (g : Gr p0 H0 p H) (n0 : H0 a = none) : Gr p0 H0 (p ++ [a]) H := by
  obtain ⟨q, e⟩ := g.ext
  refine ⟨⟨q ++ [a], by rw [e, List.append_assoc]⟩, g.tup, g.frz, g.out, fun b hb hn => ?_⟩
  rcases List.mem_append.mp hb with hb | hb
  · exact g.new b hb hn
  · have : b = a := by simpa using hb
    subst this
    exact n0
theorem VR.push {a : Addr} {x : PV} {v : V} (h : VR wd.K p H x v) : VR wd.K (p ++ [a]) H x v := by
  have aux : (∀ {x : PV} {v : V}, VR wd.K p H x v → VR wd.K (p ++ [a]) H x v) := by
    refine fun {x v} => ?_
    revert v
    refine PV.rec (motive_1 := fun x => ∀ {v : V}, VR wd.K p H x v → VR wd.K (p ++ [a]) H x v) (motive_2 := fun xs => ∀ {vs : List V}, VRs wd.K p H xs vs → VRs wd.K (p ++ [a]) H xs vs) ?_ ?_ ?_ ?_ ?_ ?_ ?_ ?_ ?_ x
    · intro v h; unfold VR at h ⊢; exact h
    · intro b v h; unfold VR at h ⊢; exact h
    · intro b v h; unfold VR at h ⊢; exact h
    · intro b v h; unfold VR at h ⊢; exact h
    · intro xs ih v h
      unfold VR at h ⊢
      obtain ⟨b, vs, e, h1, h2⟩ := h
      exact ⟨b, vs, e, h1, ih h2⟩
    · intro xs ih v h
      unfold VR at h ⊢
      obtain ⟨b, vs, e, h1, h2⟩ := h
      exact ⟨b, vs, e, h1, ih h2⟩
    · intro k v h
      unfold VR at h ⊢
      obtain ⟨b, h1, e⟩ := h
      obtain ⟨hk, _⟩ := List.getElem?_eq_some_iff.mp h1
      exact ⟨b, by rw [List.getElem?_append_left hk]; exact h1, e⟩
    · intro vs h; unfold VRs at h ⊢; exact h
    · intro x xs i1 i2 vs h
      unfold VRs at h ⊢
      obtain ⟨v, r, e, h1, h2⟩ := h
      exact ⟨v, r, e, i1 h1, i2 h2⟩
  exact aux h
theorem VRs.push {a : Addr} {xs : List PV} {vs : List V} (h : VRs wd.K p H xs vs) : VRs wd.K (p ++ [a]) H xs vs := VRs.of (Paired.mapP h.paired fun _ _ z => VR.push z)
theorem CellR.push {a b : Addr} {c : Cell} (h : CellR wd p H b c) : CellR wd (p ++ [a]) H b c := by
  cases c with
  | lst xs =>
    obtain ⟨vs, h1, h2⟩ := h
    exact ⟨vs, h1, h2.push⟩
  | dct kvs => exact h
  | ins c fs =>
    obtain ⟨C, dx, vs, h0, h1, h2⟩ := h
    exact ⟨C, dx, vs, h0, h1, Paired.mapP h2 fun _ _ z => ⟨z.1, z.2.push⟩⟩
theorem StR.push (h : StR wd p H st) {a : Addr} (n : a ∉ p) {c : Cell} (hc : CellR wd p H a c) : StR wd (p ++ [a]) H (st ++ [c]) := by
  refine ⟨by rw [List.length_append, List.length_append, h.len]; rfl, ?_, fun k c' b e1 e2 => ?_⟩
  · rw [List.nodup_append]
    refine ⟨h.nd, by simp, fun x hx y hy => ?_⟩
    have : y = a := by simpa using hy
    subst this
    exact fun e => n (e ▸ hx)
  · by_cases hk : k < st.length
    · rw [List.getElem?_append_left hk] at e1
      rw [List.getElem?_append_left (by rw [h.len]; exact hk)] at e2
      exact (h.cell k c' b e1 e2).push
    · have hk' : k = st.length := by
        obtain ⟨q, _⟩ := List.getElem?_eq_some_iff.mp e1
        rw [List.length_append] at q
        simp at q
        omega
      subst hk'
      rw [List.getElem?_append_right (Nat.le_refl _)] at e1
      rw [← h.len, List.getElem?_append_right (Nat.le_refl _)] at e2
      simp at e1 e2
      subst e1 e2
      exact hc.push
/-- a new list -/
theorem Gr.new_lst (h : StR wd p H st) {a : Addr} {vs : List V} (n : H a = none) : Gr p H (p ++ [a]) (upd H a (.lst vs)) := by
  have na : a ∉ p := fun hp => by
    obtain ⟨o, ho, _⟩ := h.some_ hp
    rw [n] at ho
    cases ho
  exact Gr.push (st := st) (wd := wd) (h.upd_out n) na (Gr.upd_out h n) n
theorem StR.new_lst (h : StR wd p H st) {a : Addr} {xs : List PV} {vs : List V} (n : H a = none) (r : VRs wd.K p H xs vs) : StR wd (p ++ [a]) (upd H a (.lst vs)) (st ++ [.lst xs]) := by
  have na : a ∉ p := fun hp => by
    obtain ⟨o, ho, _⟩ := h.some_ hp
    rw [n] at ho
    cases ho
  exact StR.push (h.upd_out n) na ⟨vs, upd_same, r.gr (Gr.upd_out h n)⟩
theorem VR.new (h : StR wd p H st) (a : Addr) (H' : Hp) : VR wd.K (p ++ [a]) H' (.ref st.length) (.ref a) := by
  unfold VR
  refine ⟨a, ?_, rfl⟩
  rw [← h.len, List.getElem?_append_right (Nat.le_refl _)]
  simp
theorem new_tup (h : StR wd p H st) {a : Addr} {xs : List PV} {vs : List V} (n : H a = none) (r : VRs wd.K p H xs vs) : VR wd.K p (upd H a (.tup vs)) (.tup xs) (.ref a) := by
  unfold VR
  exact ⟨a, vs, rfl, SqT.of upd_same, r.gr (Gr.upd_out h n)⟩
/-- a list of the store is changed -/
theorem Gr.put (h : StR wd p H st) {k : Nat} {a : Addr} {u : HO} (e : p[k]? = some a) : Gr p H p (upd H a u) := by
  obtain ⟨o, ho, h1, h2⟩ := h.some_ (List.mem_of_getElem? e)
  refine ⟨⟨[], by simp⟩, fun b xs z => ?_, fun b o x z => ?_, fun b o hb z => ?_, fun b hb hn => absurd hb hn⟩
  · rw [upd_ne (fun w => by subst w; rw [ho] at z; exact h1 xs (Option.some.inj z))]
    exact z
  · rw [upd_ne (fun w => by subst w; rw [ho] at z; exact h2 _ _ (Option.some.inj z))]
    exact z
  · rw [upd_ne (fun w => by subst w; exact hb (List.mem_of_getElem? e))]
    exact z
theorem StR.put (h : StR wd p H st) {k : Nat} {a : Addr} {xs : List PV} {vs : List V} (e : p[k]? = some a) (r : VRs wd.K p H xs vs) : StR wd p (upd H a (.lst vs)) (putC st k (.lst xs)) := by
  have g : Gr p H p (upd H a (.lst vs)) := Gr.put h e
  refine ⟨by unfold putC; rw [List.length_set]; exact h.len, h.nd, fun j c b e1 e2 => ?_⟩
  unfold putC at e1
  by_cases hj : k = j
  · subst hj
    rw [e] at e2
    cases e2
    obtain ⟨hk, _⟩ := List.getElem?_eq_some_iff.mp e
    rw [List.getElem?_set_self (by have := h.len; omega)] at e1
    cases e1
    exact ⟨vs, upd_same, r.gr g⟩
  · rw [List.getElem?_set_ne hj] at e1
    refine (h.cell j c b e1 e2).gr_eq g ?_
    rw [upd_ne]
    intro hb
    subst hb
    obtain ⟨hk, hk2⟩ := List.getElem?_eq_some_iff.mp e
    obtain ⟨hj1, hj2⟩ := List.getElem?_eq_some_iff.mp e2
    exact hj ((List.getElem_inj h.nd).mp (hk2.trans hj2.symm))
end

/-! ### paired lists -/
section
variable {α β : Type} {R : α → β → Prop}
theorem Paired.len' : ∀ {xs : List α} {ys : List β}, Paired R xs ys → xs.length = ys.length
  | _, _, .nil => rfl
  | _, _, .cons _ t => by rw [List.length_cons, List.length_cons, Paired.len' t]
theorem Paired.at' : ∀ {xs : List α} {ys : List β} {i : Nat} {x : α}, Paired R xs ys → xs[i]? = some x → ∃ y, ys[i]? = some y ∧ R x y
  | _, _, _, _, .nil, h => by simp at h
  | _, _, 0, _, .cons r _, h => by simp at h; subst h; exact ⟨_, rfl, r⟩
  | _, _, i + 1, x, .cons _ t, h => by
    obtain ⟨y, h1, h2⟩ := Paired.at' (i := i) (x := x) t (by simpa using h)
    exact ⟨y, by simpa using h1, h2⟩
theorem Paired.app' : ∀ {xs xs' : List α} {ys ys' : List β}, Paired R xs ys → Paired R xs' ys' → Paired R (xs ++ xs') (ys ++ ys')
  | _, _, _, _, .nil, h => h
  | _, _, _, _, .cons r t, h => .cons r (Paired.app' t h)
theorem Paired.take' : ∀ {xs : List α} {ys : List β} (n : Nat), Paired R xs ys → Paired R (xs.take n) (ys.take n)
  | _, _, 0, _ => .nil
  | _, _, _ + 1, .nil => .nil
  | _, _, n + 1, .cons r t => .cons r (Paired.take' n t)
theorem Paired.drop' : ∀ {xs : List α} {ys : List β} (n : Nat), Paired R xs ys → Paired R (xs.drop n) (ys.drop n)
  | _, _, 0, h => h
  | _, _, _ + 1, .nil => .nil
  | _, _, n + 1, .cons r t => Paired.drop' n t
theorem Paired.set' {x : α} {y : β} (h : R x y) : ∀ {xs : List α} {ys : List β} (i : Nat), Paired R xs ys → Paired R (xs.set i x) (ys.set i y)
  | _, _, _, .nil => .nil
  | _, _, 0, .cons _ t => .cons h t
  | _, _, i + 1, .cons r t => .cons r (Paired.set' h i t)
theorem Paired.erase' : ∀ {xs : List α} {ys : List β} (i : Nat), Paired R xs ys → Paired R (xs.eraseIdx i) (ys.eraseIdx i)
  | _, _, _, .nil => .nil
  | _, _, 0, .cons _ t => t
  | _, _, i + 1, .cons r t => .cons r (Paired.erase' i t)
theorem Paired.rev' {xs : List α} {ys : List β} (h : Paired R xs ys) : Paired R xs.reverse ys.reverse := by
  induction h with
  | nil => exact .nil
  | cons r t ih =>
    rw [List.reverse_cons, List.reverse_cons]
    exact Paired.app' ih (.cons r .nil)
theorem Paired.rep' {xs : List α} {ys : List β} (h : Paired R xs ys) : ∀ n : Nat, Paired R (List.replicate n xs).flatten (List.replicate n ys).flatten
  | 0 => .nil
  | n + 1 => by
    rw [List.replicate_succ, List.replicate_succ, List.flatten_cons, List.flatten_cons]
    exact Paired.app' h (Paired.rep' h n)
end
section
variable {wd : Wd} {p : List Addr} {H : Hp} {st : Store}
theorem VRs.len {xs : List PV} {vs : List V} (h : VRs wd.K p H xs vs) : xs.length = vs.length := Paired.len' h.paired
theorem VRs.ints : ∀ ns : List Int, VRs wd.K p H (ns.map PV.int) (ns.map V.int)
  | [] => by unfold VRs; rfl
  | n :: ns => by
    unfold VRs
    exact ⟨_, _, rfl, by unfold VR; rfl, VRs.ints ns⟩
/-- what the items of a value are -/
theorem items_ok (h : StR wd p H st) {x : PV} {v : V} {xs : List PV} (r : VR wd.K p H x v) (e : items st x = some xs) : ∃ a vs, v = .ref a ∧ (SqL wd.K H a vs ∨ SqT wd.K H a vs) ∧ VRs wd.K p H xs vs := by
  cases x with
  | tup ys =>
    cases e
    unfold VR at r
    obtain ⟨a, vs, rfl, h1, h2⟩ := r
    exact ⟨a, vs, rfl, .inr h1, h2⟩
  | frl ys =>
    cases e
    unfold VR at r
    obtain ⟨a, vs, rfl, h1, h2⟩ := r
    refine ⟨a, vs, rfl, .inl ?_, h2⟩
    rcases h1 with ⟨o, h1⟩ | (h1 | ⟨o, h1⟩) | h1
    · exact .inl (.inr ⟨o, h1⟩)
    · cases h1
    · cases h1
    · exact .inr h1
  | ref k =>
    simp only [items] at e
    unfold VR at r
    obtain ⟨a, h1, rfl⟩ := r
    split at e
    · rename_i ys hk
      cases e
      obtain ⟨b, hb, vs, hc, hv⟩ := h.get hk
      rw [h1] at hb
      cases hb
      exact ⟨a, vs, rfl, .inl (SqL.of hc), hv⟩
    · cases e
  | _ => cases e
theorem list_ok (h : StR wd p H st) {x : PV} {v : V} {xs : List PV} (r : VR wd.K p H x v) (e : listOf st x = some xs) : ∃ a vs, v = .ref a ∧ SqL wd.K H a vs ∧ VRs wd.K p H xs vs := by
  cases x with
  | frl ys =>
    cases e
    unfold VR at r
    obtain ⟨a, vs, rfl, h1, h2⟩ := r
    refine ⟨a, vs, rfl, ?_, h2⟩
    rcases h1 with ⟨o, h1⟩ | (h1 | ⟨o, h1⟩) | h1
    · exact .inl (.inr ⟨o, h1⟩)
    · cases h1
    · cases h1
    · exact .inr h1
  | ref k =>
    simp only [listOf] at e
    unfold VR at r
    obtain ⟨a, h1, rfl⟩ := r
    split at e
    · rename_i ys hk
      cases e
      obtain ⟨b, hb, vs, hc, hv⟩ := h.get hk
      rw [h1] at hb
      cases hb
      exact ⟨a, vs, rfl, SqL.of hc, hv⟩
    · cases e
  | _ => cases e
/-- a list of the store -/
theorem ref_ok (h : StR wd p H st) {k : Nat} {v : V} {xs : List PV} (r : VR wd.K p H (.ref k) v) (e : st[k]? = some (.lst xs)) : ∃ a vs, v = .ref a ∧ p[k]? = some a ∧ H a = some (.lst vs) ∧ VRs wd.K p H xs vs := by
  unfold VR at r
  obtain ⟨a, h1, rfl⟩ := r
  obtain ⟨b, hb, vs, hc, hv⟩ := h.get e
  rw [h1] at hb
  cases hb
  exact ⟨a, vs, rfl, h1, hc, hv⟩
theorem mapM_some {α β : Type} {f : α → Option β} : ∀ {xs : List α} {ys : List β}, xs.mapM f = some ys → Paired (fun x y => f x = some y) xs ys
  | [], ys, h => by
    simp at h
    subst h
    exact .nil
  | x :: xs, ys, h => by
    rw [List.mapM_cons] at h
    cases h1 : f x with
    | none => rw [h1] at h; simp at h
    | some y =>
      rw [h1] at h
      cases h2 : xs.mapM f with
      | none => rw [h2] at h; simp at h
      | some zs =>
        rw [h2] at h
        simp at h
        subst h
        exact .cons h1 (mapM_some h2)
theorem dp_all {n : Nat} (ih : ∀ {x : PV} {v : V} {d : PyData}, VR wd.K p H x v → dataOf st n x = some d → Dp wd.K H v d) :
    ∀ {xs : List PV} {vs : List V} {ds : List PyData}, Paired (VR wd.K p H) xs vs → Paired (fun x y => dataOf st n x = some y) xs ds → DpAll wd.K H vs ds
  | _, _, _, .nil, .nil => .nil
  | _, _, _, .cons r t, .cons e t2 => .cons (ih r e) (dp_all @ih t t2)
/-- what == sees of a value -/
theorem data_ok (h : StR wd p H st) : ∀ (n : Nat) {x : PV} {v : V} {d : PyData}, VR wd.K p H x v → dataOf st n x = some d → Dp wd.K H v d := by
  intro n
  induction n with
  | zero =>
    intro x v d r e
    cases x with
    | non => unfold dataOf at e; cases e; unfold VR at r; subst r; exact .non
    | bl b => unfold dataOf at e; cases e; unfold VR at r; subst r; exact .bl b
    | int b => unfold dataOf at e; cases e; unfold VR at r; subst r; exact .int b
    | str b => unfold dataOf at e; cases e; unfold VR at r; subst r; exact .str _
    | tup b => unfold dataOf at e; cases e
    | frl b => unfold dataOf at e; cases e
    | ref b => unfold dataOf at e; cases e
  | succ n ih =>
    intro x v d r e
    cases x with
    | non => unfold dataOf at e; cases e; unfold VR at r; subst r; exact .non
    | bl b => unfold dataOf at e; cases e; unfold VR at r; subst r; exact .bl b
    | int b => unfold dataOf at e; cases e; unfold VR at r; subst r; exact .int b
    | str b => unfold dataOf at e; cases e; unfold VR at r; subst r; exact .str _
    | tup xs =>
      unfold dataOf at e
      obtain ⟨ds, h1, rfl⟩ := Option.map_eq_some_iff.mp e
      unfold VR at r
      obtain ⟨a, vs, rfl, hs, hv⟩ := r
      exact .tup hs (dp_all @ih hv.paired (mapM_some h1))
    | frl xs =>
      unfold dataOf at e
      obtain ⟨ds, h1, rfl⟩ := Option.map_eq_some_iff.mp e
      obtain ⟨a, vs, rfl, hs, hv⟩ := list_ok h (x := .frl xs) (xs := xs) r rfl
      exact .lst hs (dp_all @ih hv.paired (mapM_some h1))
    | ref k =>
      unfold dataOf at e
      split at e
      · rename_i xs hk
        obtain ⟨ds, h1, rfl⟩ := Option.map_eq_some_iff.mp e
        obtain ⟨a, vs, rfl, _, hs, hv⟩ := ref_ok h r hk
        exact .lst (SqL.of hs) (dp_all @ih hv.paired (mapM_some h1))
      · cases e
theorem depth_all {n : Nat} (ih : ∀ {x : PV} {d : PyData}, dataOf st n x = some d → d.depth ≤ n) :
    ∀ {xs : List PV} {ds : List PyData}, Paired (fun x y => dataOf st n x = some y) xs ds → PyData.depthAll ds ≤ n
  | _, _, .nil => by simp [PyData.depthAll]
  | _, _, .cons e t => by
    have h1 := ih e
    have h2 := depth_all @ih t
    simp only [PyData.depthAll]
    omega
theorem data_depth : ∀ (n : Nat) {x : PV} {d : PyData}, dataOf st n x = some d → d.depth ≤ n := by
  intro n
  induction n with
  | zero =>
    intro x d e
    cases x <;> (unfold dataOf at e; cases e) <;> simp [PyData.depth]
  | succ n ih =>
    intro x d e
    cases x with
    | tup xs =>
      unfold dataOf at e
      obtain ⟨ds, h1, rfl⟩ := Option.map_eq_some_iff.mp e
      have := depth_all @ih (mapM_some h1)
      simp only [PyData.depth]
      omega
    | frl xs =>
      unfold dataOf at e
      obtain ⟨ds, h1, rfl⟩ := Option.map_eq_some_iff.mp e
      have := depth_all @ih (mapM_some h1)
      simp only [PyData.depth]
      omega
    | ref k =>
      unfold dataOf at e
      split at e
      · rename_i xs hk
        obtain ⟨ds, h1, rfl⟩ := Option.map_eq_some_iff.mp e
        have := depth_all @ih (mapM_some h1)
        simp only [PyData.depth]
        omega
      · cases e
    | _ => (unfold dataOf at e; cases e) <;> simp [PyData.depth]
end
end GI
set_option maxRecDepth 10000
/-! GO: the interpreter's operations are the model's. -/
namespace GI
open PySem L2
/-- where the classes stand, the names of the attributes -/
structure Cl where
  cl : Nat → Option Addr
  fn : Nat → Str
abbrev wdX (X : Cx) (c : Cl) : Wd := ⟨X.K, c.cl, c.fn⟩
/-- an operation's result without an exception -/
def RdO (wd : Wd) (p : List Addr) (H : Hp) (r : Res PV) (Q : VK) : Prop := match r with
  | .ok x st' => ∀ p' H' v, Gr p H p' H' → StR wd p' H' st' → VR wd.K p' H' x v → Q v H'
  | _ => False
def rB (wd : Wd) (f : PV → PV → Store → Res PV) : R2 := fun x y H Q => ∃ p st a b, StR wd p H st ∧ VR wd.K p H a x ∧ VR wd.K p H b y ∧ RdO wd p H (f a b st) Q
theorem RdO.same {wd : Wd} {p : List Addr} {H : Hp} {st : Store} {x : PV} {v : V} {Q : VK} (h : RdO wd p H (.ok x st) Q) (hs : StR wd p H st) (r : VR wd.K p H x v) : Q v H := h p H v (Gr.refl _ _) hs r
theorem RdO.lst {wd : Wd} {p : List Addr} {H : Hp} {st : Store} {xs : List PV} {vs : List V} {Q : VK} (h : RdO wd p H (new st (.lst xs)) Q) (hs : StR wd p H st) (r : VRs wd.K p H xs vs) : ∀ a, H a = none → Q (.ref a) (upd H a (.lst vs)) := fun a n =>
  h _ _ _ (Gr.new_lst hs n) (hs.new_lst n r) (VR.new hs a _)
theorem RdO.tup {wd : Wd} {p : List Addr} {H : Hp} {st : Store} {xs : List PV} {vs : List V} {Q : VK} (h : RdO wd p H (.ok (.tup xs) st) Q) (hs : StR wd p H st) (r : VRs wd.K p H xs vs) : ∀ a, H a = none → Q (.ref a) (upd H a (.tup vs)) := fun a n =>
  h _ _ _ (Gr.upd_out hs n) (hs.upd_out n) (new_tup hs n r)
theorem VR.int' {K : PySem.W.Frag} {p : List Addr} {H : Hp} {i : Int} : VR K p H (.int i) (.int i) := by unfold VR; rfl
theorem VR.bl' {K : PySem.W.Frag} {p : List Addr} {H : Hp} {i : Bool} : VR K p H (.bl i) (.bl i) := by unfold VR; rfl
theorem VR.str' {K : PySem.W.Frag} {p : List Addr} {H : Hp} {x : List Nat} : VR K p H (.str x) (.str ⟨x.toArray⟩) := by unfold VR; rfl
theorem VR.non' {K : PySem.W.Frag} {p : List Addr} {H : Hp} : VR K p H .non .non := by unfold VR; rfl
theorem str_len (x : List Nat) : (⟨x.toArray⟩ : Str).length = x.length := by
  show x.toArray.size = _
  simp
theorem str_app (x y : List Nat) : (⟨x.toArray⟩ : Str) ++ (⟨y.toArray⟩ : Str) = ⟨(x ++ y).toArray⟩ := by
  show (⟨x.toArray ++ y.toArray⟩ : Str) = _
  simp
theorem str_inj {x y : List Nat} (h : (⟨x.toArray⟩ : Str) = ⟨y.toArray⟩) : x = y := by
  have := congrArg (fun s : Str => s.cps.toList) h
  simpa using this
theorem VR.tup_inv {K : PySem.W.Frag} {p : List Addr} {H : Hp} {xs : List PV} {v : V} (h : VR K p H (.tup xs) v) : ∃ a vs, v = .ref a ∧ SqT K H a vs ∧ VRs K p H xs vs := by
  unfold VR at h
  exact h
section
variable {X : Cx} {c : Cl}
theorem op_addP : OpR X (binaryOp .Add) (rB (wdX X c) (binF .add)) := by
  intro pins s o H x y v u Q I rx ry ⟨p, st, a, b, hs, ra, rb, h⟩
  cases a with
  | int i =>
    cases b with
    | int j =>
      unfold VR at ra rb
      subst ra rb
      exact op_add pins s o H _ _ v u Q I rx ry ⟨i, j, rfl, rfl, h.same hs .int'⟩
    | _ => exact h.elim
  | str i =>
    cases b with
    | str j =>
      unfold VR at ra rb
      subst ra rb
      simp only [binF] at h
      split at h
      · rename_i hl
        refine op_add_str pins s o H _ _ v u Q I rx ry ⟨_, _, rfl, rfl, ?_, ?_⟩
        · rw [str_len, str_len]
          exact hl
        · rw [str_app]
          exact h.same hs .str'
      · exact h.elim
    | _ => exact h.elim
  | tup i =>
    cases b with
    | tup j =>
      obtain ⟨a1, vs, rfl, h1, h2⟩ := ra.tup_inv
      obtain ⟨a2, ws, rfl, h3, h4⟩ := rb.tup_inv
      simp only [binF] at h
      split at h
      · rename_i hl
        have l1 := h2.len
        have l2 := h4.len
        refine op_catA pins s o H _ _ v u Q I rx ry ⟨a1, a2, vs, ws, rfl, rfl, h1, h3, by rw [← l1, ← l2]; exact hl, fun e => ?_, fun e1 e => ?_, fun _ _ => ?_⟩
        · subst e
          have e0 : i = [] := List.eq_nil_of_length_eq_zero l1
          subst e0
          exact h.same hs rb
        · subst e
          have e0 : j = [] := List.eq_nil_of_length_eq_zero l2
          subst e0
          rw [List.append_nil] at h
          exact h.same hs ra
        · exact h.tup hs (.of (Paired.app' h2.paired h4.paired))
      · exact h.elim
    | _ => exact h.elim
  | ref k =>
    cases b with
    | ref l =>
      simp only [binF] at h
      split at h
      · rename_i xs ys e1 e2
        split at h
        · rename_i hl
          obtain ⟨a1, vs, rfl, _, h1, h2⟩ := ref_ok hs ra e1
          obtain ⟨a2, ws, rfl, _, h3, h4⟩ := ref_ok hs rb e2
          exact op_cat pins s o H _ _ v u Q I rx ry ⟨a1, a2, vs, ws, rfl, rfl, h1, h3, by rw [← h2.len, ← h4.len]; exact hl, h.lst hs (.of (Paired.app' h2.paired h4.paired))⟩
        · exact h.elim
      · exact h.elim
    | _ => exact h.elim
  | _ => exact h.elim
theorem op_subP : OpR X (binaryOp .Sub) (rB (wdX X c) (binF .sub)) := by
  intro pins s o H x y v u Q I rx ry ⟨p, st, a, b, hs, ra, rb, h⟩
  cases a with
  | int i =>
    cases b with
    | int j =>
      unfold VR at ra rb
      subst ra rb
      exact op_sub pins s o H _ _ v u Q I rx ry ⟨i, j, rfl, rfl, h.same hs .int'⟩
    | _ => exact h.elim
  | _ => exact h.elim
theorem op_mulP : OpR X (binaryOp .Mult) (rB (wdX X c) (binF .mul)) := by
  intro pins s o H x y v u Q I rx ry ⟨p, st, a, b, hs, ra, rb, h⟩
  cases a with
  | int i =>
    cases b with
    | int j =>
      unfold VR at ra rb
      subst ra rb
      simp only [binF] at h
      split at h
      · rename_i hc
        exact op_mul pins s o H _ _ v u Q I rx ry ⟨i, j, rfl, rfl, hc, h.same hs .int'⟩
      · exact h.elim
    | _ => exact h.elim
  | ref k =>
    cases b with
    | int j =>
      simp only [binF] at h
      split at h
      · rename_i xs e1
        split at h
        · rename_i hl
          obtain ⟨a1, vs, rfl, _, h1, h2⟩ := ref_ok hs ra e1
          unfold VR at rb
          subst rb
          exact op_rep pins s o H _ _ v u Q I rx ry ⟨a1, j, vs, rfl, rfl, h1, hl.1, hl.2.1, by rw [← h2.len]; exact hl.2.2, h.lst hs (.of (Paired.rep' h2.paired _))⟩
        · exact h.elim
      · exact h.elim
    | _ => exact h.elim
  | _ => exact h.elim
theorem op_modP : OpR X (binaryOp .Mod) (rB (wdX X c) (binF .mod)) := by
  intro pins s o H x y v u Q I rx ry ⟨p, st, a, b, hs, ra, rb, h⟩
  cases a with
  | int i =>
    cases b with
    | int j =>
      unfold VR at ra rb
      subst ra rb
      simp only [binF] at h
      split at h
      · rename_i hc
        exact op_mod pins s o H _ _ v u Q I rx ry ⟨i, j, rfl, rfl, hc, h.same hs .int'⟩
      · exact h.elim
    | _ => exact h.elim
  | _ => exact h.elim
theorem op_fdivP : OpR X (binaryOp .FloorDiv) (rB (wdX X c) (binF .fdiv)) := by
  intro pins s o H x y v u Q I rx ry ⟨p, st, a, b, hs, ra, rb, h⟩
  cases a with
  | int i =>
    cases b with
    | int j =>
      unfold VR at ra rb
      subst ra rb
      simp only [binF] at h
      split at h
      · rename_i hc
        exact op_fdiv pins s o H _ _ v u Q I rx ry ⟨i, j, rfl, rfl, hc, h.same hs .int'⟩
      · exact h.elim
    | _ => exact h.elim
  | _ => exact h.elim
theorem op_powP : OpR X (binaryOp .Pow) (rB (wdX X c) (binF .pow)) := by
  intro pins s o H x y v u Q I rx ry ⟨p, st, a, b, hs, ra, rb, h⟩
  cases a with
  | int i =>
    cases b with
    | int j =>
      unfold VR at ra rb
      subst ra rb
      simp only [binF] at h
      split at h
      · rename_i hc
        exact op_pow pins s o H _ _ v u Q I rx ry ⟨i, j, rfl, rfl, hc, h.same hs .int'⟩
      · exact h.elim
    | _ => exact h.elim
  | _ => exact h.elim
def bopO : Bop → Operator
  | .add => .Add
  | .sub => .Sub
  | .mul => .Mult
  | .mod => .Mod
  | .fdiv => .FloorDiv
  | .pow => .Pow
theorem op_binP (b : Bop) : OpR X (binaryOp (bopO b)) (rB (wdX X c) (binF b)) := by
  cases b
  · exact op_addP
  · exact op_subP
  · exact op_mulP
  · exact op_modP
  · exact op_fdivP
  · exact op_powP
/-! ### comparisons -/
theorem ofB_of {wd : Wd} {p : List Addr} {H : Hp} {st : Store} {r : Option Bool} {Q : VK} (hs : StR wd p H st) (h : RdO wd p H (ofB st r) Q) : ∃ b, r = some b ∧ Q (.bl b) H := by
  cases r with
  | none => exact h.elim
  | some b => exact ⟨b, rfl, h.same hs .bl'⟩
theorem scal_of {K : PySem.W.Frag} {p : List Addr} {H : Hp} {a b : PV} {x y : V} (ra : VR K p H a x) (rb : VR K p H b y) (h : scalP a b = true) : scal x y = true ∧ decide (x = y) = sameP a b := by
  cases a <;> cases b <;> first
    | (exact absurd (show false = true from h) (by simp))
    | (unfold VR at ra rb
       subst ra rb
       refine ⟨rfl, ?_⟩
       simp [sameP])
  · rename_i i j
    rw [Bool.eq_iff_iff]
    simp
  all_goals first
    | (rename_i i j; rw [Bool.eq_iff_iff]; simp)
    | (rename_i i j; rw [Bool.eq_iff_iff]; simp; exact ⟨fun e => by simpa using e, fun e => by rw [e]⟩)
theorem room200 {A : Around} {n : Nat} {d e : PyData} (hu : A.units + 192 < cLine) (h : d.depth ≤ 190) : A.units + min d.depth e.depth < cLine := by
  have : min d.depth e.depth ≤ d.depth := Nat.min_le_left _ _
  omega
theorem op_eqP (hu : X.A.units + 192 < cLine) : OpR X (compareOp .Eq) (rB (wdX X c) (cmpF .eq)) := by
  intro pins s o H x y v u Q I rx ry ⟨p, st, a, b, hs, ra, rb, h⟩
  obtain ⟨k, e, q⟩ := ofB_of hs h
  unfold eqF at e
  split at e
  · rename_i hc
    cases e
    obtain ⟨h1, h2⟩ := scal_of ra rb hc
    exact op_eq pins s o H x y v u Q I rx ry ⟨h1, by rw [h2]; exact q⟩
  · split at e
    · rename_i d d' e1 e2
      split at e
      · rename_i hc
        cases e
        obtain ⟨c1, c2⟩ := Bool.and_eq_true_iff.mp hc
        obtain ⟨as, r1⟩ := Dp.reads I d x v (data_ok hs 190 ra e1) rx
        obtain ⟨bs, r2⟩ := Dp.reads I d' y u (data_ok hs 190 rb e2) ry
        exact SeqAt.compareEq_reads r1 r2 c1 c2 (room200 (n := 0) hu (data_depth _ e1)) ⟨.bl _, H, I, rfl, q⟩
      · cases e
    · cases e
theorem op_neP (hu : X.A.units + 192 < cLine) : OpR X (compareOp .NotEq) (rB (wdX X c) (cmpF .ne)) := by
  intro pins s o H x y v u Q I rx ry ⟨p, st, a, b, hs, ra, rb, h⟩
  obtain ⟨k, e, q⟩ := ofB_of hs h
  obtain ⟨k', e0, rfl⟩ := Option.map_eq_some_iff.mp e
  clear e
  unfold eqF at e0
  split at e0
  · rename_i hc
    cases e0
    obtain ⟨h1, h2⟩ := scal_of ra rb hc
    exact op_ne pins s o H x y v u Q I rx ry ⟨h1, by rw [h2]; exact q⟩
  · split at e0
    · rename_i d d' e1 e2
      split at e0
      · rename_i hc
        cases e0
        obtain ⟨c1, c2⟩ := Bool.and_eq_true_iff.mp hc
        obtain ⟨as, r1⟩ := Dp.reads I d x v (data_ok hs 190 ra e1) rx
        obtain ⟨bs, r2⟩ := Dp.reads I d' y u (data_ok hs 190 rb e2) ry
        exact SeqAt.compareNe_reads r1 r2 c1 c2 (room200 (n := 0) hu (data_depth _ e1)) ⟨.bl _, H, I, rfl, q⟩
      · cases e0
    · cases e0
theorem op_ltP : OpR X (compareOp .Lt) (rB (wdX X c) (cmpF .lt)) := by
  intro pins s o H x y v u Q I rx ry ⟨p, st, a, b, hs, ra, rb, h⟩
  obtain ⟨k, e, q⟩ := ofB_of hs h
  cases a <;> cases b <;> first
    | (cases e)
    | skip
  all_goals (unfold VR at ra rb; subst ra rb)
  · exact op_lt pins s o H _ _ v u Q I rx ry ⟨_, _, rfl, rfl, q⟩
  · exact op_lt_str pins s o H _ _ v u Q I rx ry ⟨_, _, rfl, rfl, by simpa using q⟩
theorem op_gtP : OpR X (compareOp .Gt) (rB (wdX X c) (cmpF .gt)) := by
  intro pins s o H x y v u Q I rx ry ⟨p, st, a, b, hs, ra, rb, h⟩
  obtain ⟨k, e, q⟩ := ofB_of hs h
  cases a <;> cases b <;> first
    | (cases e)
    | skip
  all_goals (unfold VR at ra rb; subst ra rb)
  · exact op_gt pins s o H _ _ v u Q I rx ry ⟨_, _, rfl, rfl, q⟩
  · exact op_gt_str pins s o H _ _ v u Q I rx ry ⟨_, _, rfl, rfl, by simpa using q⟩
theorem not_lt_dec (i j : Int) : (!decide (j < i)) = decide (i ≤ j) := by
  rw [Bool.eq_iff_iff]
  simp
theorem op_leP : OpR X (compareOp .LtE) (rB (wdX X c) (cmpF .le)) := by
  intro pins s o H x y v u Q I rx ry ⟨p, st, a, b, hs, ra, rb, h⟩
  obtain ⟨k, e, q⟩ := ofB_of hs h
  obtain ⟨k', e0, rfl⟩ := Option.map_eq_some_iff.mp e
  clear e
  cases a <;> cases b <;> first
    | (cases e0)
    | skip
  all_goals (unfold VR at ra rb; subst ra rb)
  · exact op_le pins s o H _ _ v u Q I rx ry ⟨_, _, rfl, rfl, by
    show Q (.bl (decide (_ ≤ _))) H
    rw [← not_lt_dec]
    exact q⟩
  · exact op_le_str pins s o H _ _ v u Q I rx ry ⟨_, _, rfl, rfl, by simpa using q⟩
theorem op_geP : OpR X (compareOp .GtE) (rB (wdX X c) (cmpF .ge)) := by
  intro pins s o H x y v u Q I rx ry ⟨p, st, a, b, hs, ra, rb, h⟩
  obtain ⟨k, e, q⟩ := ofB_of hs h
  obtain ⟨k', e0, rfl⟩ := Option.map_eq_some_iff.mp e
  clear e
  cases a <;> cases b <;> first
    | (cases e0)
    | skip
  all_goals (unfold VR at ra rb; subst ra rb)
  · exact op_ge pins s o H _ _ v u Q I rx ry ⟨_, _, rfl, rfl, by
    show Q (.bl (decide (_ ≤ _))) H
    rw [← not_lt_dec]
    exact q⟩
  · exact op_ge_str pins s o H _ _ v u Q I rx ry ⟨_, _, rfl, rfl, by simpa using q⟩
theorem isNon_of {K : PySem.W.Frag} {p : List Addr} {H : Hp} {a : PV} {x : V} (ra : VR K p H a x) : decide (x = .non) = isNon a := by
  cases a with
  | non => unfold VR at ra; subst ra; rfl
  | bl b => unfold VR at ra; subst ra; rfl
  | int b => unfold VR at ra; subst ra; rfl
  | str b => unfold VR at ra; subst ra; rfl
  | tup b => unfold VR at ra; obtain ⟨_, _, rfl, _⟩ := ra; rfl
  | frl b => unfold VR at ra; obtain ⟨_, _, rfl, _⟩ := ra; rfl
  | ref b => unfold VR at ra; obtain ⟨_, _, rfl⟩ := ra; rfl
theorem op_isP : OpR X (compareOp .Is) (rB (wdX X c) (cmpF .isN)) := by
  intro pins s o H x y v u Q I rx ry ⟨p, st, a, b, hs, ra, rb, h⟩
  simp only [cmpF] at h
  split at h
  · rename_i hn
    have := isNon_of rb
    rw [hn] at this
    exact op_isN pins s o H x y v u Q I rx ry ⟨of_decide_eq_true this, by rw [isNon_of ra]; exact h.same hs .bl'⟩
  · exact h.elim
theorem op_isnotP : OpR X (compareOp .IsNot) (rB (wdX X c) (cmpF .notN)) := by
  intro pins s o H x y v u Q I rx ry ⟨p, st, a, b, hs, ra, rb, h⟩
  simp only [cmpF] at h
  split at h
  · rename_i hn
    have := isNon_of rb
    rw [hn] at this
    exact op_notN pins s o H x y v u Q I rx ry ⟨of_decide_eq_true this, by rw [isNon_of ra]; exact h.same hs .bl'⟩
  · exact h.elim
theorem flat_of {K : PySem.W.Frag} {p : List Addr} {H : Hp} {a : PV} {x : V} (ra : VR K p H a x) (h : flatP a = true) : flatV x = true := by
  cases a <;> first
    | (exact absurd (show false = true from h) (by simp))
    | (unfold VR at ra; subst ra; rfl)
theorem eqP_of {K : PySem.W.Frag} {p : List Addr} {H : Hp} {a b : PV} {x y : V} (ra : VR K p H a x) (rb : VR K p H b y) (ha : flatP a = true) (hb : flatP b = true) : eqV x y = eqP a b := by
  cases a <;> cases b <;> first
    | (exact absurd (show false = true from ha) (by simp))
    | (exact absurd (show false = true from hb) (by simp))
    | (unfold VR at ra rb; subst ra rb; rfl)
    | skip
  rename_i i j
  unfold VR at ra rb
  subst ra rb
  show ((⟨i.toArray⟩ : Str) == ⟨j.toArray⟩) = (i == j)
  rw [Bool.eq_iff_iff]
  simp
theorem inV_of {K : PySem.W.Frag} {p : List Addr} {H : Hp} {a : PV} {x : V} (ra : VR K p H a x) (ha : flatP a = true) : ∀ {xs : List PV} {vs : List V}, Paired (VR K p H) xs vs → xs.all flatP = true → vs.all flatV = true ∧ inV x vs = xs.any fun y => eqP y a
  | _, _, .nil, _ => ⟨rfl, rfl⟩
  | _, _, .cons r t, h => by
    rw [List.all_cons, Bool.and_eq_true] at h
    obtain ⟨h1, h2⟩ := inV_of ra ha t h.2
    refine ⟨by rw [List.all_cons, flat_of r h.1, h1]; rfl, ?_⟩
    unfold inV at h2 ⊢
    rw [List.any_cons, List.any_cons, h2, eqP_of r ra h.1 ha]
theorem one_sign {K : PySem.W.Frag} {p : List Addr} {H : Hp} {k : Nat} {x : V} (ra : VR K p H (.str [k]) x) : x = .str ⟨#[k]⟩ := by
  unfold VR at ra
  exact ra
theorem inF_cases {a b : PV} {st : Store} {r : Bool} (h : inF a b st = some r) : (∃ k z, a = .str [k] ∧ b = .str z ∧ r = decide (k ∈ z)) ∨
    ∃ xs, items st b = some xs ∧ ((flatP a = true ∧ xs.all flatP = true ∧ r = xs.any fun y => eqP y a) ∨ ∃ d e es, dataOf st 190 a = some d ∧ dataOf st 190 b = some e ∧ seqD e = some es ∧ d.canLay0 = true ∧ e.canLay0 = true ∧ r = es.any fun z => PyData.eqv z d) := by
  unfold inF at h
  split at h
  · cases h
    exact .inl ⟨_, _, rfl, rfl, rfl⟩
  · split at h
    · rename_i xs hx
      split at h
      · rename_i hc
        cases h
        obtain ⟨c1, c2⟩ := Bool.and_eq_true_iff.mp hc
        exact .inr ⟨xs, hx, .inl ⟨c1, c2, rfl⟩⟩
      · split at h
        · rename_i d e e1 e2
          split at h
          · rename_i es e3
            split at h
            · rename_i hc
              cases h
              obtain ⟨c1, c2⟩ := Bool.and_eq_true_iff.mp hc
              exact .inr ⟨xs, hx, .inr ⟨d, e, es, e1, e2, e3, c1, c2, rfl⟩⟩
            · cases h
          · cases h
        · cases h
    · cases h
theorem depth_seq {A : Around} {d : PyData} {es : List PyData} (hu : A.units + 192 < cLine) (h : d.depth ≤ 190) : A.units + 1 + min (PyData.depthAll es) d.depth < cLine := by
  have : min (PyData.depthAll es) d.depth ≤ d.depth := Nat.min_le_right _ _
  omega
theorem op_inP (hu : X.A.units + 192 < cLine) : OpR X (compareOp .In) (rB (wdX X c) (cmpF .inn)) := by
  intro pins s o H x y v u Q I rx ry ⟨p, st, a, b, hs, ra, rb, h⟩
  obtain ⟨k, e, q⟩ := ofB_of hs h
  rcases inF_cases e with ⟨n, z, rfl, rfl, rfl⟩ | ⟨xs, hx, ⟨h1, h2, rfl⟩ | ⟨d, e', es, e1, e2, e3, c1, c2, rfl⟩⟩
  · have := one_sign ra
    subst this
    unfold VR at rb
    subst rb
    exact op_in_sign pins s o H _ _ v u Q I rx ry ⟨n, _, rfl, rfl, by simpa using q⟩
  · obtain ⟨l, vs, rfl, hq, hv⟩ := items_ok hs rb hx
    obtain ⟨g1, g2⟩ := inV_of ra h1 hv.paired h2
    exact op_in_seq pins s o H _ _ v u Q I rx ry ⟨l, vs, rfl, hq, flat_of ra h1, g1, by
      show Q (.bl (inV x vs)) H
      rw [g2]
      exact q⟩
  · obtain ⟨as, r1⟩ := Dp.reads I d x v (data_ok hs 190 ra e1) rx
    obtain ⟨bs, r2⟩ := Dp.reads I e' y u (data_ok hs 190 rb e2) ry
    cases e' with
    | list ds =>
      cases e3
      exact SeqAt.in_list_reads r2 r1 (by simpa [PyData.canLay0] using c2) c1 (depth_seq hu (data_depth _ e1)) ⟨.bl _, H, I, rfl, q⟩
    | tuple ds =>
      cases e3
      exact SeqAt.in_tuple_reads r2 r1 (by simpa [PyData.canLay0] using c2) c1 (depth_seq hu (data_depth _ e1)) ⟨.bl _, H, I, rfl, q⟩
    | _ => cases e3
theorem op_ninP (hu : X.A.units + 192 < cLine) : OpR X (compareOp .NotIn) (rB (wdX X c) (cmpF .nin)) := by
  intro pins s o H x y v u Q I rx ry ⟨p, st, a, b, hs, ra, rb, h⟩
  obtain ⟨k, e, q⟩ := ofB_of hs h
  obtain ⟨k', e0, rfl⟩ := Option.map_eq_some_iff.mp e
  clear e
  rcases inF_cases e0 with ⟨n, z, rfl, rfl, rfl⟩ | ⟨xs, hx, ⟨h1, h2, rfl⟩ | ⟨d, e', es, e1, e2, e3, c1, c2, rfl⟩⟩
  · have := one_sign ra
    subst this
    unfold VR at rb
    subst rb
    exact op_notIn_sign pins s o H _ _ v u Q I rx ry ⟨n, _, rfl, rfl, by simpa using q⟩
  · obtain ⟨l, vs, rfl, hq, hv⟩ := items_ok hs rb hx
    obtain ⟨g1, g2⟩ := inV_of ra h1 hv.paired h2
    exact op_notIn_seq pins s o H _ _ v u Q I rx ry ⟨l, vs, rfl, hq, flat_of ra h1, g1, by
      show Q (.bl (!inV x vs)) H
      rw [g2]
      exact q⟩
  · obtain ⟨as, r1⟩ := Dp.reads I d x v (data_ok hs 190 ra e1) rx
    obtain ⟨bs, r2⟩ := Dp.reads I e' y u (data_ok hs 190 rb e2) ry
    cases e' with
    | list ds =>
      cases e3
      exact SeqAt.notIn_list_reads r2 r1 (by simpa [PyData.canLay0] using c2) c1 (depth_seq hu (data_depth _ e1)) ⟨.bl _, H, I, rfl, q⟩
    | tuple ds =>
      cases e3
      exact SeqAt.notIn_tuple_reads r2 r1 (by simpa [PyData.canLay0] using c2) c1 (depth_seq hu (data_depth _ e1)) ⟨.bl _, H, I, rfl, q⟩
    | _ => cases e3
def copO : Cop → CmpOp
  | .eq => .Eq
  | .ne => .NotEq
  | .lt => .Lt
  | .le => .LtE
  | .gt => .Gt
  | .ge => .GtE
  | .isN => .Is
  | .notN => .IsNot
  | .inn => .In
  | .nin => .NotIn
theorem op_cmpP (hu : X.A.units + 192 < cLine) (b : Cop) : OpR X (compareOp (copO b)) (rB (wdX X c) (cmpF b)) := by
  cases b
  · exact op_eqP hu
  · exact op_neP hu
  · exact op_ltP
  · exact op_leP
  · exact op_gtP
  · exact op_geP
  · exact op_isP
  · exact op_isnotP
  · exact op_inP hu
  · exact op_ninP hu
end
end GI
set_option maxRecDepth 10000
/-! GO2: subscripts, slices, built-in functions and methods. -/
namespace GI
open PySem L2
section
variable {X : Cx} {c : Cl}
theorem atI_of {K : PySem.W.Frag} {p : List Addr} {H : Hp} {xs : List PV} {vs : List V} {i : Int} {x : PV} (h : VRs K p H xs vs) (e : atI xs i = some x) : ∃ v, atI vs i = some v ∧ VR K p H x v := by
  unfold atI at e ⊢
  obtain ⟨j, h1, h2⟩ := Option.bind_eq_some_iff.mp e
  obtain ⟨v, h3, h4⟩ := Paired.at' h.paired h2
  refine ⟨v, ?_, h4⟩
  rw [← Paired.len' h.paired, h1]
  exact h3
theorem ix_P : IxR X (rB (wdX X c) idxF) := by
  intro value slice pins s o H x y v u Q I rx ry ⟨p, st, a, b, hs, ra, rb, h⟩ hq
  unfold idxF at h
  split at h
  · rename_i i
    unfold VR at rb
    subst rb
    split at h
    · rename_i z
      split at h
      · rename_i hl
        split at h
        · rename_i n hn
          unfold VR at ra
          subst ra
          exact ix_str value slice pins s o H _ _ v u Q I rx ry ⟨_, i, n, rfl, rfl, by rw [str_len]; exact hl, by simpa using hn, h.same hs .str'⟩ hq
        · exact h.elim
      · exact h.elim
    · split at h
      · rename_i xs hx
        split at h
        · rename_i z hz
          obtain ⟨l, vs, rfl, hq2, hv⟩ := items_ok hs ra hx
          obtain ⟨w, hw, rw_⟩ := atI_of hv hz
          rcases hq2 with hq2 | hq2
          · exact ix_list value slice pins s o H _ _ v u Q I rx ry ⟨l, vs, i, w, rfl, rfl, hq2, hw, h.same hs rw_⟩ hq
          · exact ix_tup value slice pins s o H _ _ v u Q I rx ry ⟨l, vs, i, w, rfl, rfl, hq2, hw, h.same hs rw_⟩ hq
        · exact h.elim
      · exact h.elim
  · exact h.elim
def rSlc (wd : Wd) : V → Option Int → Option Int → Hp → VK → Prop := fun x lo hi H Q => ∃ p st a, StR wd p H st ∧ VR wd.K p H a x ∧ RdO wd p H (slcF lo hi a st) Q
theorem cut_of {K : PySem.W.Frag} {p : List Addr} {H : Hp} {xs : List PV} {vs : List V} (lo hi : Option Int) (h : VRs K p H xs vs) : VRs K p H (cutP xs lo hi) (cutV vs lo hi) := by
  unfold cutP cutV
  rw [Paired.len' h.paired]
  exact .of (Paired.take' _ (Paired.drop' _ h.paired))
theorem cutS_of (z : List Nat) (lo hi : Option Int) : cutS ⟨z.toArray⟩ lo hi = ⟨(cutP z lo hi).toArray⟩ := by
  unfold cutS cutP
  rw [str_len]
theorem sl_P : SlR X (rSlc (wdX X c)) := by
  intro pins s o H x v vl vu lo hi sl Q I rx hsl pl pu ⟨p, st, a, hs, ra, h⟩
  unfold slcF at h
  split at h
  · rename_i z
    split at h
    · rename_i hl
      unfold VR at ra
      subst ra
      refine sl_str pins s o H _ v vl vu lo hi sl Q I rx hsl pl pu ⟨_, rfl, by rw [str_len]; exact hl, ?_⟩
      rw [cutS_of]
      exact h.same hs .str'
    · exact h.elim
  · rename_i xs
    obtain ⟨l, vs, rfl, hq, hv⟩ := ra.tup_inv
    refine sl_tupA pins s o H _ v vl vu lo hi sl Q I rx hsl pl pu ⟨l, vs, rfl, hq, fun e => ?_, fun _ => h.tup hs (cut_of lo hi hv)⟩
    have e2 : cutP xs lo hi = xs := by
      unfold cutP
      rw [hv.len, e.1, e.2, List.drop_zero, Nat.sub_zero, ← hv.len, List.take_length]
    rw [e2] at h
    exact h.same hs ra
  · split at h
    · rename_i xs hx
      obtain ⟨l, vs, rfl, hq, hv⟩ := list_ok hs ra hx
      exact sl_list pins s o H _ v vl vu lo hi sl Q I rx hsl pl pu ⟨l, vs, rfl, hq, h.lst hs (cut_of lo hi hv)⟩
    · exact h.elim

/-! ### built-in functions -/
def rC (wd : Wd) (f : List PV → Store → Res PV) : List V → Hp → VK → Prop := fun vs H Q => ∃ p st xs, StR wd p H st ∧ VRs wd.K p H xs vs ∧ RdO wd p H (f xs st) Q
theorem VRs.one {K : PySem.W.Frag} {p : List Addr} {H : Hp} {x : PV} {vs : List V} (h : VRs K p H [x] vs) : ∃ v, vs = [v] ∧ VR K p H x v := by
  unfold VRs at h
  obtain ⟨v, r, rfl, h1, h2⟩ := h
  unfold VRs at h2
  subst h2
  exact ⟨v, rfl, h1⟩
theorem VRs.two {K : PySem.W.Frag} {p : List Addr} {H : Hp} {x y : PV} {vs : List V} (h : VRs K p H [x, y] vs) : ∃ v w, vs = [v, w] ∧ VR K p H x v ∧ VR K p H y w := by
  unfold VRs at h
  obtain ⟨v, r, rfl, h1, h2⟩ := h
  obtain ⟨w, rfl, h3⟩ := VRs.one h2
  exact ⟨v, w, rfl, h1, h3⟩
theorem VRs.nil {K : PySem.W.Frag} {p : List Addr} {H : Hp} {vs : List V} (h : VRs K p H [] vs) : vs = [] := by
  unfold VRs at h
  exact h
theorem cl_len : CallR X (.builtin "len") (rC (wdX X c) (biF .len)) := by
  intro pins s o H vs us Q I r ⟨p, st, xs, hs, rs, h⟩
  unfold biF at h
  split at h <;> first | (rename_i e; cases e; done) | skip
  · rename_i z _
    obtain ⟨v, rfl, rv⟩ := rs.one
    unfold VR at rv
    subst rv
    split at h
    · rename_i hl
      exact call_len pins s o H _ us Q I r ⟨_, z.length, rfl, ⟨by rw [str_len]; exact hl, by rw [str_len]⟩, h.same hs .int'⟩
    · exact h.elim
  · rename_i a _ _
    obtain ⟨v, rfl, rv⟩ := rs.one
    split at h
    · rename_i ys hy
      obtain ⟨l, ws, rfl, hq, hv⟩ := items_ok hs rv hy
      refine call_len pins s o H _ us Q I r ⟨_, ys.length, rfl, ?_, h.same hs .int'⟩
      rcases hq with hq | hq
      · exact .inl ⟨ws, hq, hv.len⟩
      · exact .inr ⟨ws, hq, hv.len⟩
    · exact h.elim
  all_goals first | exact h.elim | (rename_i e _; cases e)

theorem str_of_string (t : String) : Str.ofString t = ⟨(t.toList.map Char.toNat).toArray⟩ := by
  show (⟨(cpsOfBytes 0 0 t.toByteArray.data.toList).toArray⟩ : Str) = _
  rw [cpsOfBytes_string]
theorem cl_int : CallR X (.type "int") (rC (wdX X c) (biF .int)) := by
  intro pins s o H vs us Q I r ⟨p, st, xs, hs, rs, h⟩
  unfold biF at h
  split at h <;> first | (rename_i e; cases e; done) | skip
  · obtain ⟨v, rfl, rv⟩ := rs.one
    unfold VR at rv
    subst rv
    exact call_int1 pins s o H _ us Q I r (.inl ⟨_, rfl, h.same hs .int'⟩)
  · obtain ⟨v, rfl, rv⟩ := rs.one
    unfold VR at rv
    subst rv
    exact call_int1 pins s o H _ us Q I r (.inr ⟨_, rfl, h.same hs .int'⟩)
  · obtain ⟨v, rfl, rv⟩ := rs.one
    unfold VR at rv
    subst rv
    split at h
    · rename_i n hn
      split at h
      · rename_i hl
        exact call_int_str pins s o H _ us Q I r ⟨_, n, rfl, hn, by rw [str_len]; exact hl, h.same hs .int'⟩
      · exact h.elim
    · exact h.elim
  all_goals exact h.elim
theorem cl_str : CallR X (.type "str") (rC (wdX X c) (biF .str)) := by
  intro pins s o H vs us Q I r ⟨p, st, xs, hs, rs, h⟩
  unfold biF at h
  split at h <;> first | (rename_i e; cases e; done) | skip
  · rename_i i _
    obtain ⟨v, rfl, rv⟩ := rs.one
    unfold VR at rv
    subst rv
    split at h
    · rename_i hl
      refine call_str_int pins s o H _ us Q I r ⟨_, rfl, hl, ?_⟩
      rw [show ((toString i : String) : Str) = ⟨(numTxt i).toArray⟩ from str_of_string _]
      exact h.same hs .str'
    · exact h.elim
  · obtain ⟨v, rfl, rv⟩ := rs.one
    unfold VR at rv
    subst rv
    exact SkE.call_str_str pins s o H _ us Q I r ⟨_, rfl, h.same hs .str'⟩
  all_goals exact h.elim
theorem cl_list : CallR X (.type "list") (rC (wdX X c) (biF .list)) := by
  intro pins s o H vs us Q I r ⟨p, st, xs, hs, rs, h⟩
  unfold biF at h
  split at h <;> first | (rename_i e; cases e; done) | skip
  · rename_i a
    obtain ⟨v, rfl, rv⟩ := rs.one
    split at h
    · rename_i ys hy
      obtain ⟨l, ws, rfl, hq, hv⟩ := items_ok hs rv hy
      exact call_list_of pins s o H _ us Q I r ⟨l, ws, rfl, hq, h.lst hs hv⟩
    · exact h.elim
  all_goals exact h.elim
theorem items_tup {wd : Wd} {p : List Addr} {H : Hp} {st : Store} (h : StR wd p H st) {x : PV} {v : V} {xs : List PV} (r : VR wd.K p H x v) (e : items st x = some xs) :
    ∃ a vs, v = .ref a ∧ (SqL wd.K H a vs ∨ (SqT wd.K H a vs ∧ x = .tup xs)) ∧ VRs wd.K p H xs vs := by
  cases x with
  | tup ys =>
    cases e
    obtain ⟨a, vs, rfl, h1, h2⟩ := r.tup_inv
    exact ⟨a, vs, rfl, .inr ⟨h1, rfl⟩, h2⟩
  | frl ys =>
    obtain ⟨a, vs, rfl, h1, h2⟩ := list_ok h (x := .frl ys) (xs := xs) r e
    exact ⟨a, vs, rfl, .inl h1, h2⟩
  | ref k =>
    obtain ⟨a, vs, rfl, h1, h2⟩ := list_ok h (x := .ref k) (xs := xs) r e
    exact ⟨a, vs, rfl, .inl h1, h2⟩
  | _ => cases e
theorem cl_tuple : CallR X (.type "tuple") (rC (wdX X c) (biF .tuple)) := by
  intro pins s o H vs us Q I r ⟨p, st, xs, hs, rs, h⟩
  unfold biF at h
  split at h <;> first | (rename_i e; cases e; done) | skip
  · rename_i a
    obtain ⟨v, rfl, rv⟩ := rs.one
    split at h
    · rename_i ys hy
      obtain ⟨l, ws, rfl, hq, hv⟩ := items_tup hs rv hy
      rcases hq with hq | ⟨hq, rfl⟩
      · exact call_tuple_of pins s o H _ us Q I r ⟨l, ws, rfl, .inl ⟨hq, h.tup hs hv⟩⟩
      · exact call_tuple_of pins s o H _ us Q I r ⟨l, ws, rfl, .inr ⟨hq, h.same hs rv⟩⟩
    · exact h.elim
  all_goals exact h.elim
theorem sum_of {K : PySem.W.Frag} {p : List Addr} {H : Hp} : ∀ {xs : List PV} {vs : List V} {n : Int}, Paired (VR K p H) xs vs → sumF xs = some n → ∃ ns : List Int, vs = ns.map V.int ∧ ns.sum = n
  | _, _, n, .nil, h => by
    cases h
    exact ⟨[], rfl, rfl⟩
  | _, _, n, .cons (a := x) r t, h => by
    cases x with
    | int i =>
      unfold sumF at h
      obtain ⟨m, h1, h2⟩ := Option.map_eq_some_iff.mp h
      obtain ⟨ns, e1, e2⟩ := sum_of t h1
      unfold VR at r
      subst r
      exact ⟨i :: ns, by rw [e1]; rfl, by rw [List.sum_cons, e2]; exact h2⟩
    | _ => cases h
theorem cl_sum (hc : X.calm = true) : CallR X (.builtin "sum") (rC (wdX X c) (biF .sum)) := by
  intro pins s o H vs us Q I r ⟨p, st, xs, hs, rs, h⟩
  unfold biF at h
  split at h <;> first | (rename_i e; cases e; done) | skip
  · rename_i a
    obtain ⟨v, rfl, rv⟩ := rs.one
    split at h
    · rename_i ys hy
      split at h
      · rename_i n hn
        obtain ⟨l, ws, rfl, hq, hv⟩ := list_ok hs rv hy
        obtain ⟨ns, rfl, e⟩ := sum_of hv.paired hn
        exact cr_sum hc pins s o H _ us Q I r ⟨l, ns, rfl, hq, by rw [e]; exact h.same hs .int'⟩
      · exact h.elim
    · exact h.elim
  all_goals exact h.elim
theorem cl_min (hc : X.calm = true) : CallR X (.builtin "min") (rC (wdX X c) (biF .min2)) := by
  intro pins s o H vs us Q I r ⟨p, st, xs, hs, rs, h⟩
  unfold biF at h
  split at h <;> first | (rename_i e; cases e; done) | skip
  · obtain ⟨v, w, rfl, rv, rw_⟩ := rs.two
    unfold VR at rv rw_
    subst rv rw_
    exact call_min2 hc pins s o H _ us Q I r ⟨_, _, rfl, h.same hs .int'⟩
  all_goals exact h.elim
theorem cl_max (hc : X.calm = true) : CallR X (.builtin "max") (rC (wdX X c) (biF .max2)) := by
  intro pins s o H vs us Q I r ⟨p, st, xs, hs, rs, h⟩
  unfold biF at h
  split at h <;> first | (rename_i e; cases e; done) | skip
  · obtain ⟨v, w, rfl, rv, rw_⟩ := rs.two
    unfold VR at rv rw_
    subst rv rw_
    exact call_max2 hc pins s o H _ us Q I r ⟨_, _, rfl, h.same hs .int'⟩
  all_goals exact h.elim
def tyN : Ty → String
  | .str => "str"
  | .int => "int"
  | .bool => "bool"
  | .tuple => "tuple"
  | .list => "list"
theorem ty_of {wd : Wd} {p : List Addr} {H : Hp} {st : Store} (hs : StR wd p H st) {a : PV} {x : V} (r : VR wd.K p H a x) {t : Ty} {b : Bool} (e : tyF st t a = some b) :
    ∃ n : String, TyX wd.K H x (.type n) ∧ PySem.W.kitOne wd.K (.type n) (.type (tyN t)) = some b := by
  have lst : ∀ {l : Addr} {vs : List V}, SqL wd.K H l vs → TyX wd.K H (.ref l) (.type "list") := fun {l vs} h => by
    rcases h with (h | ⟨ob, h⟩) | ⟨ob, _, _, h, hc, _⟩
    · exact .base (.lst h)
    · exact .base (.frz h)
    · exact .kList h hc
  cases a with
  | non =>
    unfold VR at r
    subst r
    cases e
    exact ⟨_, .base .non, by cases t <;> exact kit_ty (by decide +kernel)⟩
  | bl k =>
    unfold VR at r
    subst r
    cases e
    exact ⟨_, .base (.bl k), by cases t <;> exact kit_ty (by decide +kernel)⟩
  | int k =>
    unfold VR at r
    subst r
    cases e
    exact ⟨_, .base (.int k), by cases t <;> exact kit_ty (by decide +kernel)⟩
  | str k =>
    unfold VR at r
    subst r
    cases e
    exact ⟨_, .base (.str _), by cases t <;> exact kit_ty (by decide +kernel)⟩
  | tup k =>
    obtain ⟨l, vs, rfl, hq, _⟩ := r.tup_inv
    cases e
    refine ⟨"tuple", ?_, by cases t <;> exact kit_ty (by decide +kernel)⟩
    rcases hq with (h | ⟨ob, h⟩) | ⟨ob, _, _, h, hc, _⟩
    · exact .base (.tup h)
    · exact .fTuple h
    · exact .kTuple h hc
  | frl k =>
    obtain ⟨l, vs, rfl, hq, _⟩ := list_ok hs (x := .frl k) (xs := k) r rfl
    cases e
    exact ⟨"list", lst hq, by cases t <;> exact kit_ty (by decide +kernel)⟩
  | ref k =>
    simp only [tyF] at e
    split at e
    · rename_i xs hk
      obtain ⟨l, vs, rfl, _, hq, _⟩ := ref_ok hs r hk
      cases e
      exact ⟨"list", lst (SqL.of hq), by cases t <;> exact kit_ty (by decide +kernel)⟩
    · cases e
def rIsT (wd : Wd) (t : Ty) : List V → Hp → VK → Prop := fun vs H Q => ∃ x, vs = [x, .ty (tyN t)] ∧ ∃ p st a, StR wd p H st ∧ VR wd.K p H a x ∧ RdO wd p H (biF (.isi t) [a] st) Q
theorem cl_isi (t : Ty) : CallR X (.builtin "isinstance") (rIsT (wdX X c) t) := by
  intro pins s o H vs us Q I r ⟨x, e, p, st, a, hs, ra, h⟩
  subst e
  obtain ⟨b, e, q⟩ := ofB_of hs (r := tyF st t a) h
  obtain ⟨n, h1, h2⟩ := ty_of hs ra e
  exact call_isi pins s o H _ us Q I r ⟨x, .ty (tyN t), .type n, .type (tyN t), b, rfl, .ty _, h1, h2, q⟩

/-! ### methods of lists -/
def rM (wd : Wd) (m : Mt) : V → List V → Hp → VK → Prop := fun x vs H Q => ∃ p st a xs, StR wd p H st ∧ VR wd.K p H a x ∧ VRs wd.K p H xs vs ∧ RdO wd p H (mtF m a xs st) Q
theorem RdO.put {wd : Wd} {p : List Addr} {H : Hp} {st : Store} {x : PV} {v : V} {k : Nat} {a : Addr} {xs : List PV} {vs : List V} {Q : VK} (h : RdO wd p H (.ok x (putC st k (.lst xs))) Q) (hs : StR wd p H st) (e : p[k]? = some a) (r : VRs wd.K p H xs vs) (rv : VR wd.K p H x v) :
    Q v (upd H a (.lst vs)) := h p _ v (Gr.put hs e) (hs.put e r) (rv.gr (Gr.put hs e))
theorem mt_appendP : MtM X "list.append" (rM (wdX X c) .append) := by
  intro pins s o H x vs v us Q I rx rv ⟨p, st, a, xs, hs, ra, rs, h⟩
  unfold mtF at h
  split at h <;> try exact h.elim
  split at h <;> try exact h.elim
  rename_i k ys hk
  split at h <;> first | (rename_i e; cases e; done) | skip
  · obtain ⟨w, rfl, rw_⟩ := rs.one
    split at h
    · rename_i hl
      obtain ⟨l, ws, rfl, hp, hq, hv⟩ := ref_ok hs ra hk
      exact mt_append pins s o H _ _ v us Q I rx rv ⟨l, ws, w, rfl, rfl, hq, by rw [← hv.len]; exact hl, h.put hs hp (.of (Paired.app' hv.paired (.cons rw_ .nil))) .non'⟩
    · exact h.elim
  all_goals exact h.elim
theorem mt_popP : MtM X "list.pop" (rM (wdX X c) .pop) := by
  intro pins s o H x vs v us Q I rx rv ⟨p, st, a, xs, hs, ra, rs, h⟩
  unfold mtF at h
  split at h <;> try exact h.elim
  split at h <;> try exact h.elim
  rename_i k ys hk
  split at h <;> first | (rename_i e; cases e; done) | skip
  · have := rs.nil
    subst this
    split at h
    · rename_i y hy
      obtain ⟨l, ws, rfl, hp, hq, hv⟩ := ref_ok hs ra hk
      obtain ⟨w, hw, rw_⟩ := Paired.at' hv.paired hy
      rw [hv.len] at hw
      refine mt_pop pins s o H _ _ v us Q I rx rv ⟨l, ws, w, rfl, rfl, hq, hw, h.put hs hp ?_ rw_⟩
      rw [List.dropLast_eq_take, List.dropLast_eq_take, ← hv.len]
      exact .of (Paired.take' _ hv.paired)
    · exact h.elim
  all_goals exact h.elim
theorem mt_popAtP : MtM X "list.pop" (rM (wdX X c) .popAt) := by
  intro pins s o H x vs v us Q I rx rv ⟨p, st, a, xs, hs, ra, rs, h⟩
  unfold mtF at h
  split at h <;> try exact h.elim
  split at h <;> try exact h.elim
  rename_i k ys hk
  split at h <;> first | (rename_i e; cases e; done) | skip
  · obtain ⟨w0, rfl, rw0⟩ := rs.one
    unfold VR at rw0
    subst rw0
    split at h
    · rename_i hb
      split at h
      · rename_i j hj
        split at h
        · rename_i y hy
          obtain ⟨l, ws, rfl, hp, hq, hv⟩ := ref_ok hs ra hk
          obtain ⟨w, hw, rw_⟩ := Paired.at' hv.paired hy
          exact mt_popAt pins s o H _ _ v us Q I rx rv ⟨l, ws, _, j, w, rfl, rfl, hq, hb.1, hb.2, by rw [← hv.len]; exact hj, hw, h.put hs hp (.of (Paired.erase' _ hv.paired)) rw_⟩
        · exact h.elim
      · exact h.elim
    · exact h.elim
  all_goals exact h.elim
theorem mt_extendP : MtM X "list.extend" (rM (wdX X c) .extend) := by
  intro pins s o H x vs v us Q I rx rv ⟨p, st, a, xs, hs, ra, rs, h⟩
  unfold mtF at h
  split at h <;> try exact h.elim
  split at h <;> try exact h.elim
  rename_i k ys hk
  split at h <;> first | (rename_i e; cases e; done) | skip
  · obtain ⟨w0, rfl, rw0⟩ := rs.one
    split at h
    · rename_i zs hz
      split at h
      · rename_i hl
        obtain ⟨l, ws, rfl, hp, hq, hv⟩ := ref_ok hs ra hk
        obtain ⟨l2, ws2, rfl, hp2, hq2, hv2⟩ := ref_ok hs rw0 hz
        exact mt_extend pins s o H _ _ v us Q I rx rv ⟨l, l2, ws, ws2, rfl, rfl, hq, hq2, by rw [← hv.len, ← hv2.len]; exact hl, h.put hs hp (.of (Paired.app' hv.paired hv2.paired)) .non'⟩
      · exact h.elim
    · exact h.elim
  all_goals exact h.elim
theorem mt_clearP : MtM X "list.clear" (rM (wdX X c) .clear) := by
  intro pins s o H x vs v us Q I rx rv ⟨p, st, a, xs, hs, ra, rs, h⟩
  unfold mtF at h
  split at h <;> try exact h.elim
  split at h <;> try exact h.elim
  rename_i k ys hk
  split at h <;> first | (rename_i e; cases e; done) | skip
  · have := rs.nil
    subst this
    obtain ⟨l, ws, rfl, hp, hq, hv⟩ := ref_ok hs ra hk
    exact mt_clear pins s o H _ _ v us Q I rx rv ⟨l, ws, rfl, rfl, hq, h.put hs hp (.of .nil) .non'⟩
  all_goals exact h.elim
theorem mt_indexP : MtR X "list.index" (rM (wdX X c) .index) := by
  intro pins s o H x vs v us Q I rx rv ⟨p, st, a, xs, hs, ra, rs, h⟩
  unfold mtF at h
  split at h <;> try exact h.elim
  split at h <;> try exact h.elim
  rename_i k ys hk
  split at h <;> first | (rename_i e; cases e; done) | skip
  · rename_i y _
    obtain ⟨w, rfl, rw_⟩ := rs.one
    split at h
    · rename_i hf
      obtain ⟨f1, f2⟩ := Bool.and_eq_true_iff.mp hf
      split at h
      · rename_i j hj
        obtain ⟨l, ws, rfl, hp, hq, hv⟩ := ref_ok hs ra hk
        obtain ⟨g1, _⟩ := inV_of rw_ f1 hv.paired f2
        obtain ⟨hjl, hj1, hj2⟩ := List.findIdx?_eq_some_iff_getElem.mp hj
        obtain ⟨z, hz, rz⟩ := Paired.at' hv.paired (List.getElem?_eq_getElem hjl)
        have fl : ∀ m (hm : m < ys.length), flatP ys[m] = true := fun m hm => List.all_eq_true.mp f2 _ (List.getElem_mem hm)
        refine mt_index pins s o H _ _ v us Q I rx rv ⟨l, ws, w, j, z, rfl, rfl, SqL.of hq, flat_of rw_ f1, g1, hz, ?_, fun m z' hm hz' => ?_, h.same hs .int'⟩
        · rw [eqP_of rz rw_ (fl j hjl) f1]
          exact hj1
        · have hml : m < ys.length := by omega
          obtain ⟨z2, hz2, rz2⟩ := Paired.at' hv.paired (List.getElem?_eq_getElem hml)
          rw [hz'] at hz2
          cases hz2
          rw [eqP_of rz2 rw_ (fl m hml) f1]
          have := hj2 m hm
          simpa using this
      · exact h.elim
    · exact h.elim
  all_goals exact h.elim
theorem isLst_ty {wd : Wd} {p : List Addr} {H : Hp} {st : Store} (hs : StR wd p H st) {a : PV} {x : V} (r : VR wd.K p H a x) (e : isLst st a = true) : tyV wd.K "list" x H := by
  unfold isLst at e
  split at e
  · split at e
    · rename_i xs hk
      obtain ⟨l, ws, rfl, hp, hq, hv⟩ := ref_ok hs r hk
      exact .inl ⟨rfl, ws, SqL.of hq⟩
    · cases e
  · cases e
/-- o[i] = v -/
def rSet (wd : Wd) : V → V → V → Hp → (Hp → Prop) → Prop := fun o i v H Q => ∃ p st a b x st', StR wd p H st ∧ VR wd.K p H a o ∧ VR wd.K p H b i ∧ VR wd.K p H x v ∧ setF x a b st = some st' ∧ ∀ p' H', Gr p H p' H' → StR wd p' H' st' → Q H'
theorem set_P : PSet X (rSet (wdX X c)) := by
  intro pins s o H ob i v ov iv u Q I ro ri rv ⟨p, st, a, b, x, st', hs, ra, rb, rx, e, h⟩
  unfold setF at e
  split at e
  · split at e
    · rename_i xs hk
      split at e
      · rename_i j hj
        cases e
        obtain ⟨l, ws, rfl, hp, hq, hv⟩ := ref_ok hs ra hk
        unfold VR at rb
        subst rb
        exact set_list pins s o H _ _ v ov iv u Q I ro ri rv ⟨l, ws, _, j, rfl, rfl, hq, by rw [← hv.len]; exact hj, h p _ (Gr.put hs hp) (hs.put hp (.of (Paired.set' rx _ hv.paired)))⟩
      · cases e
    · cases e
  · cases e
end
end GI
set_option maxRecDepth 10000
/-! GC: from the model's syntax to terms. -/
namespace GI
open PySem L2
structure CC where
  fns : List (Str × Nat)
  gls : List (Str × Nat)
def okName (x : Str) : Bool := !(x == ("__debug__" : Str)) && !(x == ("__classdict__" : Str)) && !(x == ("__name__" : Str))
def visK : Option NameKind → Bool
  | some .local => true
  | some .cell => true
  | some .free => true
  | _ => false
def locK : Option NameKind → Bool
  | some .local => true
  | some .cell => true
  | _ => false
def slot (N : List Str) (x : Str) : Option Nat := N.findIdx? (· == x)
def cVar (sc : Scope) (N : List Str) (x : Str) : Option Nat := if okName x && visK (sc.names.lookup x) then slot N x else none
def cTgt (sc : Scope) (N : List Str) (x : Str) : Option Nat := if okName x && locK (sc.names.lookup x) then slot N x else none
def isGlob (sc : Scope) (x : Str) : Bool := okName x && (sc.names.lookup x == some .globalImplicit)
def bopOf : Operator → Option Bop
  | .Add => some .add
  | .Sub => some .sub
  | .Mult => some .mul
  | .Mod => some .mod
  | .FloorDiv => some .fdiv
  | .Pow => some .pow
  | _ => none
def copOf : CmpOp → Option Cop
  | .Eq => some .eq
  | .NotEq => some .ne
  | .Lt => some .lt
  | .LtE => some .le
  | .Gt => some .gt
  | .GtE => some .ge
  | .Is => some .isN
  | .IsNot => some .notN
  | .In => some .inn
  | .NotIn => some .nin
def tyOf (x : Str) : Option Ty :=
  if x == ("str" : Str) then some .str else if x == ("int" : Str) then some .int else if x == ("bool" : Str) then some .bool else if x == ("tuple" : Str) then some .tuple else if x == ("list" : Str) then some .list else none
def biOf (x : Str) (n : Nat) : Option Bi :=
  if x == ("len" : Str) && n == 1 then some .len else if x == ("int" : Str) && n == 1 then some .int else if x == ("str" : Str) && n == 1 then some .str
  else if x == ("list" : Str) && n == 1 then some .list else if x == ("tuple" : Str) && n == 1 then some .tuple else if x == ("sum" : Str) && n == 1 then some .sum
  else if x == ("min" : Str) && n == 2 then some .min2 else if x == ("max" : Str) && n == 2 then some .max2 else none
def mtOf (x : Str) (n : Nat) : Option Mt :=
  if x == ("append" : Str) && n == 1 then some .append else if x == ("pop" : Str) && n == 0 then some .pop else if x == ("pop" : Str) && n == 1 then some .popAt
  else if x == ("extend" : Str) && n == 1 then some .extend else if x == ("index" : Str) && n == 1 then some .index else if x == ("clear" : Str) && n == 0 then some .clear else none
/-- the names of a target, with their places -/
def cNames (sc : Scope) (N : List Str) : List Expr → Option (List (Str × Nat))
  | [] => some []
  | .Name x _ :: r => match cTgt sc N x, cNames sc N r with
    | some i, some l => some ((x, i) :: l)
    | _, _ => none
  | _ => none
def cTg (sc : Scope) (N : List Str) : Expr → Option (Tg × List (Str × Nat))
  | .Name x _ => (cTgt sc N x).map fun i => (.one i, [(x, i)])
  | .Tuple es _ _ => (cNames sc N es).map fun l => (.tup (l.map (·.2)), l)
  | _ => none
def isTupE : Expr → Bool
  | .Tuple _ _ _ => true
  | _ => false
def notSuper : Expr → Bool
  | .Call (.Name id _) [] [] _ => !(id == ("super" : Str))
  | _ => true
mutual
def cE (cc : CC) (N : List Str) : Nat → Scope → Expr → Option E
  | 0, _, _ => none
  | k + 1, sc, .Name x _ => match cVar sc N x with
    | some i => some (.var i)
    | none => if isGlob sc x then (cc.gls.lookup x).map .glo else none
  | k + 1, sc, .Constant .none _ _ => some .non
  | k + 1, sc, .Constant (.bool b) _ _ => some (.bl b)
  | k + 1, sc, .Constant (.int i) _ _ => some (.int i)
  | k + 1, sc, .Constant (.str s) _ _ => some (.str s.cps.toList)
  | k + 1, sc, .BinOp a op b _ => match bopOf op, cE cc N k sc a, cE cc N k sc b with
    | some o, some x, some y => some (.bin o x y)
    | _, _, _ => none
  | k + 1, sc, .UnaryOp .Not a _ => (cE cc N k sc a).map .not
  | k + 1, sc, .UnaryOp .USub a _ => (cE cc N k sc a).map .neg
  | k + 1, sc, .BoolOp op (a :: b :: r) pos => match cE cc N k sc a, (match r with
      | [] => cE cc N k sc b
      | _ => cE cc N k sc (.BoolOp op (b :: r) pos)) with
    | some x, some y => some (match op with
      | .And => .and x y
      | .Or => .or x y)
    | _, _ => none
  | k + 1, sc, .Compare a [op] [b] _ => match copOf op, cE cc N k sc a, cE cc N k sc b with
    | some o, some x, some y => some (.cmp o x y)
    | _, _, _ => none
  | k + 1, sc, .Compare a [o1, o2] [b, c] _ => match copOf o1, copOf o2, cE cc N k sc a, cE cc N k sc b, cE cc N k sc c with
    | some p, some q, some x, some y, some z => some (.chain p q x y z)
    | _, _, _, _, _ => none
  | k + 1, sc, .IfExp t a b _ => match cT cc N k sc t, cE cc N k sc a, cE cc N k sc b with
    | some c, some x, some y => some (.ite c x y)
    | _, _, _ => none
  | k + 1, sc, .Subscript a (.Slice lo hi none _) _ => match cE cc N k sc a, cO cc N k sc lo, cO cc N k sc hi with
    | some x, some l, some h => some (.slc x l h)
    | _, _, _ => none
  | k + 1, sc, .Subscript a i _ => match cE cc N k sc a, cE cc N k sc i with
    | some x, some y => some (.idx x y)
    | _, _ => none
  | k + 1, sc, .Tuple es _ _ => (cEs cc N k sc es).map .tup
  | k + 1, sc, .List es _ => (cEs cc N k sc es).map .lst
  | k + 1, sc, .Call (.Name f _) args [] _ => if isGlob sc f then (match cc.fns.lookup f with
    | some id => (cEs cc N k sc args).map (.call id)
    | none => if f == ("isinstance" : Str) then (match args with
        | [a, .Name t _] => if isGlob sc t then (match tyOf t, cE cc N k sc a with
          | some ty, some x => some (.bi (.isi ty) (.cons x .nil))
          | _, _ => none) else none
        | _ => none)
      else (match biOf f args.length, cEs cc N k sc args with
        | some b, some es => some (.bi b es)
        | _, _ => none)) else none
  | k + 1, sc, .Call (.Attribute o m apos) args [] cpos => if (apos.endLine == cpos.line) && notSuper o then (match mtOf m args.length, cE cc N k sc o, cEs cc N k sc args with
    | some mt, some x, some es => some (.mth mt x es)
    | _, _, _ => none) else none
  | k + 1, sc, .ListComp elt [⟨tg, iter, ifs, 0⟩] scope _ => match cTg scope N tg, cI cc N k sc (isTupE tg) iter, cE cc N k scope elt with
    | some (t, own), some it, some el => if blkC N sc scope own then (match ifs with
      | [] => some (.comp (own.map (·.2)) t it el)
      | [c] => (cT cc N k scope c).map fun x => .compIf (own.map (·.2)) t it x el
      | _ => none) else none
    | _, _, _ => none
  | _, _, _ => none
/-- in a test's place -/
def cT (cc : CC) (N : List Str) : Nat → Scope → Expr → Option E
  | 0, _, _ => none
  | k + 1, sc, .UnaryOp .Not a _ => (cT cc N k sc a).map .not
  | k + 1, sc, .BoolOp op (a :: b :: r) pos => match cT cc N k sc a, (match r with
      | [] => cT cc N k sc b
      | _ => cT cc N k sc (.BoolOp op (b :: r) pos)) with
    | some x, some y => some (match op with
      | .And => .and x y
      | .Or => .or x y)
    | _, _ => none
  | k + 1, sc, .IfExp _ _ _ _ => none
  | k + 1, sc, e => cE cc N k sc e
def cO (cc : CC) (N : List Str) : Nat → Scope → Option Expr → Option E
  | _, _, none => some .non
  | 0, _, _ => none
  | k + 1, sc, some e => match cE cc N k sc e with
    | some .non => none
    | r => r
def cEs (cc : CC) (N : List Str) : Nat → Scope → List Expr → Option Es
  | _, _, [] => some .nil
  | 0, _, _ => none
  | k + 1, sc, e :: r => match cE cc N k sc e, cEs cc N k sc r with
    | some x, some es => some (.cons x es)
    | _, _ => none
def cI (cc : CC) (N : List Str) : Nat → Scope → Bool → Expr → Option It
  | 0, _, _, _ => none
  | k + 1, sc, tt, .Call (.Name f q) args [] pos =>
    if isGlob sc f && (cc.fns.lookup f).isNone && (f == ("range" : Str) || f == ("enumerate" : Str) || f == ("zip" : Str) || f == ("reversed" : Str)) then
      (match cEs cc N k sc args with
      | some (.cons a .nil) => if f == ("range" : Str) then some (.rng1 a) else if f == ("enumerate" : Str) && tt then some (.enum a) else if f == ("reversed" : Str) then some (.rev a) else none
      | some (.cons a (.cons b .nil)) => if f == ("range" : Str) then some (.rng2 a b) else if f == ("zip" : Str) && tt then some (.zip a b) else none
      | some (.cons a (.cons b (.cons c .nil))) => if f == ("range" : Str) then some (.rng3 a b c) else none
      | _ => none)
    else (cE cc N k sc (.Call (.Name f q) args [] pos)).map .seq
  | k + 1, sc, _, e => (cE cc N k sc e).map .seq
end
/-- is `name = [..]` stored from within the comprehension's frame? -/
def sw (sc : Scope) (x : Str) (py : Pos) : Expr → Bool
  | .ListComp _ _ scope pos => (sc.names.lookup x == some .local) && (py.line == pos.line) && !(scope.names.any fun (n, k) => n == x && (k == .local || k == .cell))
  | _ => false
def plainE : Expr → Bool
  | .ListComp _ _ _ _ => false
  | .Tuple _ _ _ => false
  | _ => true
mutual
def cS (cc : CC) (N : List Str) : Nat → Scope → Stmt → Option S
  | 0, _, _ => none
  | k + 1, sc, .Assign [.Name x _] e _ => match cTgt sc N x, cE cc N k sc e with
    | some i, some v => some (.asg i v)
    | _, _ => none
  | k + 1, sc, .Assign [.Tuple ts _ _] e _ => if plainE e then (match cNames sc N ts, cE cc N k sc e with
    | some l, some v => some (.asgT (l.map (·.2)) v)
    | _, _ => none) else none
  | k + 1, sc, .Assign [.Subscript o i _] e _ => if plainE e then (match cE cc N k sc e, cE cc N k sc o, cE cc N k sc i with
    | some v, some x, some y => some (.setI v x y)
    | _, _, _ => none) else none
  | k + 1, sc, .AugAssign (.Name x _) op e _ => match cTgt sc N x, op, cE cc N k sc e with
    | some i, .Add, some v => some (.aug i .add v)
    | some i, .Sub, some v => some (.aug i .sub v)
    | _, _, _ => none
  | k + 1, sc, .Return (some e) _ => (cE cc N k sc e).map .ret
  | k + 1, sc, .Return none _ => some .retN
  | k + 1, sc, .Expr e _ => if plainE e then (cE cc N k sc e).map .ex else none
  | k + 1, sc, .If c a b _ => match cT cc N k sc c, cSs cc N k sc a, cSs cc N k sc b with
    | some x, some y, some z => some (.ife x y z)
    | _, _, _ => none
  | k + 1, sc, .For tg it b [] _ => match cTg sc N tg, cI cc N k sc (isTupE tg) it, cSs cc N k sc b with
    | some (t, _), some w, some y => some (.forr t w y)
    | _, _, _ => none
  | k + 1, sc, .While c b [] _ => match cT cc N k sc c, cSs cc N k sc b with
    | some x, some y => some (.whl x y)
    | _, _ => none
  | k + 1, sc, .Pass _ => some .pass
  | k + 1, sc, .Break _ => some .brk
  | k + 1, sc, .Continue _ => some .cnt
  | _, _, _ => none
def cSs (cc : CC) (N : List Str) : Nat → Scope → List Stmt → Option Ss
  | _, _, [] => some .nil
  | 0, _, _ => none
  | k + 1, sc, s :: r => match cS cc N k sc s, cSs cc N k sc r with
    | some x, some y => some (.cons x y)
    | _, _ => none
end
end GI
set_option maxRecDepth 10000
/-! GS: the readings of terms. -/
namespace GI
open PySem L2
/-! ### what a result promises -/
def Rd {α β : Type} (wd : Wd) (W : WX) (o : St) (p : List Addr) (H : Hp) (rel : List Addr → Hp → α → β → Prop) (r : Res α) (Q : β → Hp → Prop) : Prop := match r with
  | .ok x st' => ∀ p' H' v, Gr p H p' H' → StR wd p' H' st' → rel p' H' x v → Q v H'
  | .exc x st' => ∀ p' H' cls d, Gr p H p' H' → StR wd p' H' st' → XR wd x cls d H' → W cls d o H'
  | .bad => False
theorem Rd.mono {α β : Type} {wd : Wd} {W : WX} {o : St} {p p' : List Addr} {H H' : Hp} {rel : List Addr → Hp → α → β → Prop} {r : Res α} {Q : β → Hp → Prop} (h : Rd wd W o p H rel r Q) (g : Gr p H p' H') : Rd wd W o p' H' rel r Q := by
  cases r with
  | ok x st => exact fun p2 H2 v g2 => h p2 H2 v (g.trans g2)
  | exc x st => exact fun p2 H2 cls d g2 => h p2 H2 cls d (g.trans g2)
  | bad => exact h.elim
theorem Rd.bind {α β γ δ : Type} {wd : Wd} {W : WX} {o : St} {p : List Addr} {H : Hp} {rel : List Addr → Hp → α → β → Prop} {rel2 : List Addr → Hp → γ → δ → Prop} {r : Res α} {f : α → Store → Res γ} {Q : δ → Hp → Prop} {R : β → Hp → Prop}
    (h : Rd wd W o p H rel2 (r.bind f) Q) (k : ∀ x st' p' H' v, Gr p H p' H' → StR wd p' H' st' → rel p' H' x v → Rd wd W o p' H' rel2 (f x st') Q → R v H') : Rd wd W o p H rel r R := by
  cases r with
  | ok x st => exact fun p' H' v g hs hr => k x st p' H' v g hs hr (Rd.mono h g)
  | exc x st => exact h
  | bad => exact h.elim
def RdS (wd : Wd) (W : WX) (p : List Addr) (H : Hp) (r : Res (Fl × Fr)) (D : Ends) : Prop := match r with
  | .ok (fl, env') st' => ∀ p' H' o', Gr p H p' H' → StR wd p' H' st' → FrR wd p' H' env' o' → (match fl with
    | .nx => D.nx o' H'
    | .br => D.bk o' H'
    | .ct => D.ct o' H'
    | .rt x => ∀ v, VR wd.K p' H' x v → D.rt v H'
    | .xc x => ∀ cls d, XR wd x cls d H' → W cls d o' H')
  | _ => False
theorem RdS.mono {wd : Wd} {W : WX} {p p' : List Addr} {H H' : Hp} {r : Res (Fl × Fr)} {D : Ends} (h : RdS wd W p H r D) (g : Gr p H p' H') : RdS wd W p' H' r D := by
  cases r with
  | ok x st =>
    obtain ⟨fl, env⟩ := x
    exact fun p2 H2 o2 g2 => h p2 H2 o2 (g.trans g2)
  | exc x st => exact h.elim
  | bad => exact h.elim
theorem RdS.lift {α β : Type} {wd : Wd} {W : WX} {o : St} {env : Fr} {p : List Addr} {H : Hp} {rel : List Addr → Hp → α → β → Prop} {r : Res α} {f : α → Store → Res (Fl × Fr)} {D : Ends} {R : β → Hp → Prop}
    (h : RdS wd W p H (r.lift env f) D) (hf : FrR wd p H env o) (k : ∀ x st' p' H' v, Gr p H p' H' → StR wd p' H' st' → rel p' H' x v → RdS wd W p' H' (f x st') D → R v H') : Rd wd W o p H rel r R := by
  cases r with
  | ok x st => exact fun p' H' v g hs hr => k x st p' H' v g hs hr (RdS.mono h g)
  | exc x st => exact fun p' H' cls d g hs hx => h p' H' o g hs (hf.gr g) cls d hx
  | bad => exact h.elim
abbrev vr (wd : Wd) : List Addr → Hp → PV → V → Prop := fun p H x v => VR wd.K p H x v
abbrev vrs (wd : Wd) : List Addr → Hp → List PV → List V → Prop := fun p H x v => VRs wd.K p H x v
abbrev br : List Addr → Hp → Bool → Bool → Prop := fun _ _ x b => x = b
/-- a result looked at as a truth -/
def toB : Res PV → Res Bool
  | .ok (.bl b) st => .ok b st
  | .ok _ _ => .bad
  | .exc x st => .exc x st
  | .bad => .bad
theorem toB_bind {α : Type} {r : Res PV} {f : PV → Store → Res α} (hf : ∀ x st, (∀ b, x ≠ .bl b) → f x st = .bad) : r.bind f = (toB r).bind fun b st => f (.bl b) st := by
  cases r with
  | ok x st => cases x <;> first
    | rfl
    | exact hf _ st (fun b z => by cases z)
  | exc x st => rfl
  | bad => rfl
theorem toB_lift {r : Res PV} {env : Fr} {f : PV → Store → Res (Fl × Fr)} (hf : ∀ x st, (∀ b, x ≠ .bl b) → f x st = .bad) : r.lift env f = (toB r).lift env fun b st => f (.bl b) st := by
  cases r with
  | ok x st => cases x <;> first
    | rfl
    | exact hf _ st (fun b z => by cases z)
  | exc x st => rfl
  | bad => rfl
theorem toB_push {α : Type} (r : Res α) (f : α → Store → Res PV) : toB (r.bind f) = r.bind fun x st => toB (f x st) := by
  cases r <;> rfl
theorem RdO.of {wd : Wd} {W : WX} {o : St} {p : List Addr} {H : Hp} {r : Res PV} {Q : VK} (h : Rd wd W o p H (vr wd) r Q) (n : ∀ x st, r ≠ .exc x st) : RdO wd p H r Q := by
  cases r with
  | ok x st => exact h
  | exc x st => exact absurd rfl (n x st)
  | bad => exact h
/-- an iterator that walks these items while the lists stand -/
structure Wk (wd : Wd) (w : Walk) (p : List Addr) (H : Hp) (J : L2.It) : Prop where
  go : ∀ i x p' H' st', w.its[i]? = some x → Gr p H p' H' → StR wd p' H' st' → stays st' w.stay → J.go i H' ∧ ∀ v H2, J.yld i H' v H2 → Gr p' H' p' H2 ∧ StR wd p' H2 st' ∧ VR wd.K p' H2 x v
  stop : ∀ i p' H' st', w.its.length ≤ i → Gr p H p' H' → StR wd p' H' st' → stays st' w.stay → J.stop i H'
theorem Wk.mono {wd : Wd} {w : Walk} {p p' : List Addr} {H H' : Hp} {J : L2.It} (h : Wk wd w p H J) (g : Gr p H p' H') : Wk wd w p' H' J :=
  ⟨fun i x p2 H2 st e g2 => h.go i x p2 H2 st e (g.trans g2), fun i p2 H2 st e g2 => h.stop i p2 H2 st e (g.trans g2)⟩
section
variable (wd : Wd) (W : WX)
def tE (m : Fr → Store → Res PV) : TE := fun o H Q => ∃ env p st, FrR wd p H env o ∧ StR wd p H st ∧ Rd wd W o p H (vr wd) (m env st) Q
def tT (m : Fr → Store → Res PV) : TT := fun o H Q => ∃ env p st, FrR wd p H env o ∧ StR wd p H st ∧ Rd wd W o p H br (toB (m env st)) Q
def tA (m : Fr → Store → Res (List PV)) : TA := fun o H Q => ∃ env p st, FrR wd p H env o ∧ StR wd p H st ∧ Rd wd W o p H (vrs wd) (m env st) Q
def tI (m : Fr → Store → Res Walk) : TI := fun o H R => ∃ env p st, FrR wd p H env o ∧ StR wd p H st ∧ Rd wd W o p H (fun p' H' w J => Wk wd w p' H' J) (m env st) R
def tO (l : E) (m : Fr → Store → Res PV) : TO := fun o H Q => ∃ env p st, FrR wd p H env o ∧ StR wd p H st ∧ Rd wd W o p H (fun _ _ x r => partI l x = some r) (m env st) Q ∧ ∀ x st', m env st = .ok x st' → ∃ r, partI l x = some r
def tS (m : Fr → Store → Res (Fl × Fr)) : TS := fun D o H => ∃ env p st, FrR wd p H env o ∧ StR wd p H st ∧ RdS wd W p H (m env st) D
end
/-! ### weakening -/
theorem _root_.L2.PE.imp {X : Cx} {e : Expr} {t t' : TE} (h : PE X e t) (k : ∀ o H Q, t' o H Q → t o H Q) : PE X e t' := ⟨fun pins s o H Q I q => h.run pins s o H Q I (k _ _ _ q)⟩
theorem _root_.L2.PT.imp {X : Cx} {e : Expr} {t t' : TT} (h : PT X e t) (k : ∀ o H Q, t' o H Q → t o H Q) : PT X e t' := ⟨fun pins s o H Q I q => h.run pins s o H Q I (k _ _ _ q)⟩
theorem _root_.L2.PW.imp {X : Cx} {e : Expr} {t t' : TT} (h : PW X e t) (k : ∀ o H Q, t' o H Q → t o H Q) : PW X e t' := ⟨fun w pins s o H Q I q => h.run w pins s o H Q I (k _ _ _ q)⟩
theorem _root_.L2.PA.imp {X : Cx} {e : List Expr} {t t' : TA} (h : PA X e t) (k : ∀ o H Q, t' o H Q → t o H Q) : PA X e t' := ⟨fun pos pins s o H Q I q => h.run pos pins s o H Q I (k _ _ _ q)⟩
theorem _root_.L2.PI.imp {X : Cx} {tg e : Expr} {t t' : TI} (h : PI X tg e t) (k : ∀ o H Q, t' o H Q → t o H Q) : PI X tg e t' := ⟨fun pins s o H Q I q => h.run pins s o H Q I (k _ _ _ q)⟩
theorem _root_.L2.PO.imp {X : Cx} {e : Option Expr} {t t' : TO} (h : PO X e t) (k : ∀ o H Q, t' o H Q → t o H Q) : PO X e t' := ⟨fun pins s o H Q I q => h.run pins s o H Q I (k _ _ _ q)⟩
theorem _root_.L2.PS.imp {X : Cx} {e : Stmt} {t t' : TS} (h : PS X e t) (k : ∀ D o H, t' D o H → t D o H) : PS X e t' := ⟨fun pins s o H D I q => h.run pins s o H D I (k _ _ _ q)⟩
theorem _root_.L2.PSs.imp {X : Cx} {e : List Stmt} {t t' : TS} (h : PSs X e t) (k : ∀ D o H, t' D o H → t D o H) : PSs X e t' := ⟨fun pins s o H D I q => h.run pins s o H D I (k _ _ _ q)⟩
theorem _root_.L2.PG.imp {X : Cx} {e : Expr} {t t' : TG} (h : PG X e t) (k : ∀ v o H Q, t' v o H Q → t v o H Q) : PG X e t' := ⟨fun pins s o H v u Q I r q => h.run pins s o H v u Q I r (k _ _ _ _ q)⟩
/-! ### one part after another -/
section
variable {wd : Wd} {W : WX} {o : St} {H : Hp} {env : Fr} {p : List Addr} {st : Store}
theorem tE.go {α β : Type} {rel : List Addr → Hp → α → β → Prop} {m : Fr → Store → Res PV} {f : PV → Store → Res α} {Q : β → Hp → Prop} {R : V → Hp → Prop} (hf : FrR wd p H env o) (hs : StR wd p H st)
    (h : Rd wd W o p H rel ((m env st).bind f) Q) (k : ∀ x st' p' H' v, FrR wd p' H' env o → StR wd p' H' st' → VR wd.K p' H' x v → Gr p H p' H' → Rd wd W o p' H' rel (f x st') Q → R v H') : tE wd W m o H R :=
  ⟨env, p, st, hf, hs, Rd.bind (rel := vr wd) h fun x st' p' H' v g s r q => k x st' p' H' v (hf.gr g) s r g q⟩
theorem tA.go {α β : Type} {rel : List Addr → Hp → α → β → Prop} {m : Fr → Store → Res (List PV)} {f : List PV → Store → Res α} {Q : β → Hp → Prop} {R : List V → Hp → Prop} (hf : FrR wd p H env o) (hs : StR wd p H st)
    (h : Rd wd W o p H rel ((m env st).bind f) Q) (k : ∀ x st' p' H' v, FrR wd p' H' env o → StR wd p' H' st' → VRs wd.K p' H' x v → Gr p H p' H' → Rd wd W o p' H' rel (f x st') Q → R v H') : tA wd W m o H R :=
  ⟨env, p, st, hf, hs, Rd.bind (rel := vrs wd) h fun x st' p' H' v g s r q => k x st' p' H' v (hf.gr g) s r g q⟩
theorem tI.go {α β : Type} {rel : List Addr → Hp → α → β → Prop} {m : Fr → Store → Res Walk} {f : Walk → Store → Res α} {Q : β → Hp → Prop} {R : L2.It → Hp → Prop} (hf : FrR wd p H env o) (hs : StR wd p H st)
    (h : Rd wd W o p H rel ((m env st).bind f) Q) (k : ∀ x st' p' H' v, FrR wd p' H' env o → StR wd p' H' st' → Wk wd x p' H' v → Gr p H p' H' → Rd wd W o p' H' rel (f x st') Q → R v H') : tI wd W m o H R :=
  ⟨env, p, st, hf, hs, Rd.bind (rel := fun p' H' w J => Wk wd w p' H' J) h fun x st' p' H' v g s r q => k x st' p' H' v (hf.gr g) s r g q⟩
/-- a test within an expression -/
theorem tT.go {α β : Type} {rel : List Addr → Hp → α → β → Prop} {m : Fr → Store → Res PV} {f : PV → Store → Res α} {Q : β → Hp → Prop} {R : Bool → Hp → Prop} (hf : FrR wd p H env o) (hs : StR wd p H st) (hb : ∀ x st, (∀ b, x ≠ .bl b) → f x st = .bad)
    (h : Rd wd W o p H rel ((m env st).bind f) Q) (k : ∀ b st' p' H', FrR wd p' H' env o → StR wd p' H' st' → Gr p H p' H' → Rd wd W o p' H' rel (f (.bl b) st') Q → R b H') : tT wd W m o H R := by
  rw [toB_bind hb] at h
  refine ⟨env, p, st, hf, hs, Rd.bind (rel := br) h fun x st' p' H' v g s r q => ?_⟩
  cases r
  exact k x st' p' H' (hf.gr g) s g q
end
theorem binF_noexc (op : Bop) (a b : PV) (st : Store) : ∀ x s, binF op a b st ≠ .exc x s := by
  intro x s h
  unfold binF at h
  split at h <;> first
    | (cases h; done)
    | (split at h <;> first | (cases h; done) | (split at h <;> cases h))
theorem ofB_noexc (st : Store) (r : Option Bool) : ∀ x s, ofB st r ≠ .exc x s := by
  intro x s h
  cases r <;> cases h
theorem cmpF_noexc (op : Cop) (a b : PV) (st : Store) : ∀ x s, cmpF op a b st ≠ .exc x s := by
  intro x s h
  cases op <;> simp only [cmpF] at h <;> first
    | (exact ofB_noexc _ _ _ _ h)
    | (split at h <;> cases h)
theorem idxF_noexc (a b : PV) (st : Store) : ∀ x s, idxF a b st ≠ .exc x s := by
  intro x s h
  unfold idxF at h
  repeat' (first | (cases h; done) | split at h)
theorem slcF_noexc (lo hi : Option Int) (a : PV) (st : Store) : ∀ x s, slcF lo hi a st ≠ .exc x s := by
  intro x s h
  unfold slcF new at h
  repeat' (first | (cases h; done) | split at h)
theorem biF_noexc (b : Bi) (vs : List PV) (st : Store) : ∀ x s, biF b vs st ≠ .exc x s := by
  intro x s h
  unfold biF new at h
  split at h
  all_goals first
    | (cases h; done)
    | (exact ofB_noexc _ _ _ _ h)
    | (repeat' (first | (cases h; done) | split at h))
theorem mtF_noexc (m : Mt) (a : PV) (vs : List PV) (st : Store) : ∀ x s, mtF m a vs st ≠ .exc x s := by
  intro x s h
  unfold mtF at h
  repeat' (first | (cases h; done) | split at h)
end GI
set_option maxRecDepth 10000
/-! GX: calls, and every expression's reading. -/
namespace GI
open PySem L2
/-! ### room and the calls of defs -/
structure RoomF (k : Nat) (A : Around) : Prop where
  hd : A.handled = none
  dp : A.depth + k + 8 < recursionLimit
  un : A.units + 3 * k + 400 < cLine
theorem RoomF.deeper {k : Nat} {A : Around} (r : RoomF (k + 1) A) (env : Env) : RoomF k (A.deeper env) :=
  ⟨r.hd, by have := r.dp; show A.depth + 1 + k + 8 < _; omega, by have := r.un; show A.units + 3 + 3 * k + 400 < _; omega⟩
theorem RoomF.u192 {k : Nat} {A : Around} (r : RoomF k A) : A.units + 192 < cLine := by have := r.un; omega
structure FnI (P : Program) (w : World) (K : PySem.W.Frag) (mg : Str → Option Value) (base : Heap) (c : Cl) (k : Nat) (cf : List PV → Store → Res PV) (x : Str) : Prop where
  ex : ∃ (f : Addr) (fd : FuncData) (ps : List Str), mg x = some (.ref f) ∧ PySem.W.keepIn K (.ref f) = true ∧ Binds K fd ps [] ∧ (∀ as st, as.length ≠ ps.length → cf as st = .bad) ∧
    ∀ (A : Around) (outer : List Env) (s : Shared) (H : Hp) (args : Args) (us : List Value) (vs : List V) (p : List Addr) (st : Store) (as : List PV) (Q : VK) (E : XK), RoomF k A → Env0 P w K mg base A outer s H → BindsTo s fd args (ps.zip us) → Vals vs us →
      StR ⟨K, c.cl, c.fn⟩ p H st → VRs K p H as vs → Rd ⟨K, c.cl, c.fn⟩ (fun cls d _ H' => E cls d H') [] p H (vr ⟨K, c.cl, c.fn⟩) (cf as st) Q →
      codeAny (model P w) A (.call (.ref f) args) (CR (L2.CX P w) outer P w H s Q E) s
theorem Rd.wish {α β : Type} {wd : Wd} {W : WX} {o : St} {p : List Addr} {H : Hp} {rel : List Addr → Hp → α → β → Prop} {r : Res α} {Q : β → Hp → Prop} (h : Rd wd W o p H rel r Q) : Rd wd (fun cls d _ H' => W cls d o H') [] p H rel r Q := by
  cases r <;> exact h
section
variable {X : Cx} {c : Cl} {W : WX} {k : Nat} {cf : List PV → Store → Res PV} {x : Str}
theorem FnI.go (F : FnI X.prog X.w X.K X.mg X.base c k cf x) (hr : RoomF k X.A) (tk : Takes X W) {f : Addr} {fd : FuncData} {ps : List Str} (hb : Binds X.K fd ps []) (hl : ∀ as st, as.length ≠ ps.length → cf as st = .bad)
    (run : ∀ (A : Around) (outer : List Env) (s : Shared) (H : Hp) (args : Args) (us : List Value) (vs : List V) (p : List Addr) (st : Store) (as : List PV) (Q : VK) (E : XK), RoomF k A → Env0 X.prog X.w X.K X.mg X.base A outer s H → BindsTo s fd args (ps.zip us) → Vals vs us →
      StR ⟨X.K, c.cl, c.fn⟩ p H st → VRs X.K p H as vs → Rd ⟨X.K, c.cl, c.fn⟩ (fun cls d _ H' => E cls d H') [] p H (vr ⟨X.K, c.cl, c.fn⟩) (cf as st) Q →
      codeAny (model X.prog X.w) A (.call (.ref f) args) (CR (L2.CX X.prog X.w) outer X.prog X.w H s Q E) s)
    {pins : List (Addr × Obj)} {s : Shared} {o : St} {H : Hp} {Q : VK} {us : List Value} {vs : List V} {p : List Addr} {st : Store} {as : List PV} (I : L2.Inv X pins o H s) (r : Vals vs us) (hs : StR (wdX X c) p H st) (ra : VRs X.K p H as vs) (q : Rd (wdX X c) W o p H (vr (wdX X c)) (cf as st) Q) :
    wpAny (model X.prog X.w) X.A (call (.ref f) us) (EP X pins o Q) X.xe s := by
  have e1 : us.length = ps.length := by
    by_cases e : as.length = ps.length
    · rw [← e, Paired.len' ra.paired, r.length]
    · rw [hl as st e] at q
      exact q.elim
  have b := hb s us I.kIn (by rw [List.append_nil]; exact e1)
  rw [List.append_nil] at b
  refine wpAny_call (codeAny_mono (run X.A X.stack s H ⟨us, []⟩ us vs p st as Q (fun cls d H' => W cls d o H') hr I.env0 b r hs ra (Rd.wish q)) fun res s' hq => ?_)
  cases res with
  | error e => exact passAt tk o pins H s e s' I hq
  | ok fl =>
    cases fl with
    | ret u => exact I.after hq
    | next => exact hq.elim
    | brk => exact hq.elim
    | cont => exact hq.elim
theorem FnI.call (F : FnI X.prog X.w X.K X.mg X.base c k cf x) (hr : RoomF k X.A) (tk : Takes X W) (hg : Gl X x) (hd : (x == ("__debug__" : Str)) = false) {e : Expr} {args : List Expr} {ms : Fr → Store → Res (List PV)} {p0 pos : Pos} (ha : PA X (e :: args) (tA (wdX X c) W ms))
    (h1 : starEach (e :: args) X.env = (false, eval e X.env) :: starEach args X.env) (h2 : (backTo pos (starEach args X.env)).any (·.1) = false) :
    PE X (.Call (.Name x p0) (e :: args) [] pos) (tE (wdX X c) W fun env st => (ms env st).bind cf) := by
  obtain ⟨f, fd, ps, hm, hk, hb, hl, run⟩ := F.ex
  refine ⟨fun pins s o H Q I ⟨env, p, st, hf, hs, h⟩ => ?_⟩
  have hA : tA (wdX X c) W ms o H (fun vs H1 => ∃ p1 st1 as, StR (wdX X c) p1 H1 st1 ∧ VRs X.K p1 H1 as vs ∧ Rd (wdX X c) W o p1 H1 (vr (wdX X c)) (cf as st1) Q) :=
    tA.go hf hs h fun x st' p' H' v _ s' r _ q => ⟨p', st', x, s', r, q⟩
  refine wpAny_Call_Name_kw (ld_glob I hg hm ?_ hd)
  refine PySem.W.callWith_K (h₀ := X.base) I.ok.mod.kin hk (thn (ha.run pos pins s o H _ I hA) fun us s1 ⟨vs, H1, I1, r1, p1, st1, as, hs1, hv, q1⟩ => ⟨I1.kIn, ?_⟩) h1 h2
  exact FnI.go F hr tk hb hl run I1 r1 hs1 hv q1
theorem FnI.call0 (F : FnI X.prog X.w X.K X.mg X.base c k cf x) (hr : RoomF k X.A) (tk : Takes X W) (hg : Gl X x) (hd : (x == ("__debug__" : Str)) = false) {p0 pos : Pos} :
    PE X (.Call (.Name x p0) [] [] pos) (tE (wdX X c) W fun _ st => cf [] st) := by
  obtain ⟨f, fd, ps, hm, hk, hb, hl, run⟩ := F.ex
  refine ⟨fun pins s o H Q I ⟨env, p, st, hf, hs, h⟩ => ?_⟩
  refine wpAny_Call_Name_kw (ld_glob I hg hm ?_ hd)
  exact PySem.W.callWith_K0 I.kIn hk (FnI.go (us := []) F hr tk hb hl run I .nil hs (by unfold VRs; rfl) h)
end

/-! ### what the compiler accepts -/
section
variable {cc : CC} {N : List Str} {k : Nat} {sc : Scope}
theorem cE_star {e : Expr} {ir : E} (h : cE cc N k sc e = some ir) (es : List Expr) (env : Env) : starEach (e :: es) env = (false, eval e env) :: starEach es env := by
  cases e <;> first
    | rfl
    | (cases k <;> simp [cE] at h)
theorem cEs_plain : ∀ {k : Nat} {es : List Expr} {ir : Es}, cEs cc N k sc es = some ir → ∀ (pos : Pos) (env : Env), (backTo pos (starEach es env)).any (·.1) = false
  | _, [], _, _, _, _ => rfl
  | 0, _ :: _, _, h, _, _ => by simp [cEs] at h
  | k + 1, e :: r, ir, h, pos, env => by
    unfold cEs at h
    split at h
    · rename_i x es h1 h2
      rw [cE_star h1]
      unfold backTo
      rw [List.map_cons, List.any_cons]
      exact cEs_plain (k := k) h2 pos env
    · cases h
theorem cE_plainIx {e : Expr} {ir : E} (h : cE cc N k sc e = some ir) : PlainIx e := by
  cases e <;> first
    | (intro o i; rfl)
    | (cases k <;> simp [cE] at h)
theorem cE_marks {e : Expr} {ir : E} (h : cE cc N k sc e = some ir) (op : CmpOp) : behindInMarks op e = false := by
  cases e <;> first
    | rfl
    | (cases k <;> simp [cE] at h)
theorem cE_base {e : Expr} {ir : E} (h : cE cc N k sc e = some ir) (m : Str) (hm : ∀ id p q, e ≠ .Call (.Name id p) [] [] q ∨ id ≠ "super") (env : Env) : attributeBase e m env (eval e env) = eval e env := by
  unfold attributeBase
  split
  · rename_i id p q
    rcases hm id p q with z | z
    · exact absurd rfl z
    · have : (id != ("super" : Str)) = true := by simpa using z
      rw [this]
      rfl
  · rfl
theorem cE_folded {e : Expr} {ir : E} (h : cE cc N k sc e = some ir) (env : Env) : ∀ x, foldedSetIterable e env x = pure x := by
  intro x
  cases e <;> first
    | rfl
    | (cases k <;> simp [cE] at h)
end
end GI
set_option maxRecDepth 10000
set_option maxHeartbeats 4000000
/-! GY: every expression that the compiler accepts does what its term says. -/
namespace GI
open PySem L2
def bNames : List Str := ["len", "int", "str", "list", "tuple", "sum", "min", "max", "isinstance", "range", "enumerate", "zip", "reversed", "bool"]
structure Fit (c : Cl) (cc : CC) (cx : Ck) (n : Nat) (N : List Str) (X : Cx) (sc : Scope) (W : WX) : Prop where
  N_ : X.N = N
  nd : N.Nodup
  lk : ∀ x k, sc.names.lookup x = some k → X.env.scope.names.lookup x = some k ∨ (k = .free ∧ X.env.scope.names.lookup x = some .cell)
  calm : X.calm = true
  room : RoomF n X.A
  tk : Takes X W
  fnc : ∀ x, sc.names.lookup x = some .cell → X.fn x = true
  nb : ∀ x ∈ bNames, X.mg x = none
  gl : ∀ x g, cc.gls.lookup x = some g → ∀ v, cx.gl g = some v → ∃ u w, X.mg x = some u ∧ RelV w u ∧ ∀ p H, VR X.K p H v w
  fns : ∀ x id, cc.fns.lookup x = some id → FnI X.prog X.w X.K X.mg X.base c n (cx.cf id) x
structure Snd (c : Cl) (cc : CC) (cx : Ck) (n : Nat) (N : List Str) (k : Nat) : Prop where
  E : ∀ {sc e ir X W}, cE cc N k sc e = some ir → Fit c cc cx n N X sc W → PE X e (tE (wdX X c) W (ev cx ir))
  T : ∀ {sc e ir X W}, cT cc N k sc e = some ir → Fit c cc cx n N X sc W → PT X e (tT (wdX X c) W (ev cx ir))
  B : ∀ {sc op vs pos ir X W}, cT cc N k sc (.BoolOp op vs pos) = some ir → Fit c cc cx n N X sc W → PW X (.BoolOp op vs pos) (tT (wdX X c) W (ev cx ir))
  O : ∀ {sc e ir X W}, cO cc N k sc e = some ir → Fit c cc cx n N X sc W → PO X e (tO (wdX X c) W ir (ev cx ir))
  A : ∀ {sc e ir X W}, cEs cc N k sc e = some ir → Fit c cc cx n N X sc W → PA X e (tA (wdX X c) W (evs cx ir))
  I : ∀ {sc tg e ir X W}, cI cc N k sc (isTupE tg) e = some ir → Fit c cc cx n N X sc W → PI X tg e (tI (wdX X c) W (evI cx ir)) ∧ ∀ x, foldedSetIterable e X.env x = pure x
theorem okName_d {x : Str} (h : okName x = true) : (x == ("__debug__" : Str)) = false ∧ (x == ("__classdict__" : Str)) = false ∧ x ≠ "__name__" := by
  unfold okName at h
  simp only [Bool.and_eq_true, Bool.not_eq_true'] at h
  exact ⟨h.1.1, h.1.2, by simpa using h.2⟩
theorem slot_some {N : List Str} {x : Str} {i : Nat} (h : slot N x = some i) : N[i]? = some x := by
  unfold slot at h
  obtain ⟨hl, h1, _⟩ := List.findIdx?_eq_some_iff_getElem.mp h
  rw [List.getElem?_eq_getElem hl]
  have : N[i] = x := by simpa using h1
  rw [this]
theorem vis_of {k : Option NameKind} (h : visK k = true) : k = some .local ∨ k = some .cell ∨ k = some .free := by
  cases k with
  | none => cases h
  | some v => cases v <;> first | exact .inl rfl | exact .inr (.inl rfl) | exact .inr (.inr rfl) | cases h
theorem loc_of {k : Option NameKind} (h : locK k = true) : k = some .local ∨ k = some .cell := by
  cases k with
  | none => cases h
  | some v => cases v <;> first | exact .inl rfl | exact .inr rfl | cases h
section
variable {c : Cl} {cc : CC} {cx : Ck} {n : Nat} {N : List Str} {X : Cx} {sc : Scope} {W : WX}
theorem Fit.lk' (F : Fit c cc cx n N X sc W) {x : Str} {k : NameKind} (h : sc.names.lookup x = some k) (hk : k ≠ .free) : X.env.scope.names.lookup x = some k := by
  rcases F.lk x k h with z | ⟨z, _⟩
  · exact z
  · exact absurd z hk
theorem Fit.var (F : Fit c cc cx n N X sc W) {x : Str} {i : Nat} {pos : Pos} (h : cVar sc N x = some i) : PE X (.Name x pos) (tVar i) := by
  unfold cVar at h
  split at h
  · rename_i hc
    obtain ⟨h1, h2⟩ := Bool.and_eq_true_iff.mp hc
    obtain ⟨d1, d2, _⟩ := okName_d h1
    refine pe_var (by rw [F.N_]; exact slot_some h) ?_ d1 d2
    rcases vis_of h2 with z | z | z
    · exact .inl ((F.lk' z (by simp)))
    · exact .inr (.inl (F.lk' z (by simp)))
    · rcases F.lk _ _ z with q | ⟨_, q⟩
      · exact .inr (.inr q)
      · exact .inr (.inl q)
  · cases h
theorem Fit.gl' (F : Fit c cc cx n N X sc W) {x : Str} (h : isGlob sc x = true) : Gl X x ∧ (x == ("__debug__" : Str)) = false ∧ x ≠ "__name__" := by
  unfold isGlob at h
  obtain ⟨h1, h2⟩ := Bool.and_eq_true_iff.mp h
  obtain ⟨d1, _, d3⟩ := okName_d h1
  refine ⟨?_, d1, d3⟩
  show X.env.scope.names.lookup x = _
  exact F.lk' (by simpa using h2) (by simp)
theorem ev_var {i : Nat} {o : St} {H : Hp} {Q : VK} {wd : Wd} (h : tE wd W (ev cx (.var i)) o H Q) : tVar i o H Q := by
  obtain ⟨env, p, st, hf, hs, h⟩ := h
  rw [ev] at h
  split at h
  · rename_i v e
    obtain ⟨w, h1, h2⟩ := hf.at_ i v e
    exact ⟨w, h1, h p H w (Gr.refl _ _) hs h2⟩
  · exact h.elim
theorem ev_const {ir : E} {v : PV} {w : V} {o : St} {H : Hp} {Q : VK} {wd : Wd} (e : ∀ env st, ev cx ir env st = .ok v st) (r : ∀ p H, VR wd.K p H v w) (h : tE wd W (ev cx ir) o H Q) : tC w o H Q := by
  obtain ⟨env, p, st, hf, hs, h⟩ := h
  rw [e] at h
  exact h p H w (Gr.refl _ _) hs (r p H)
theorem E_Name (F : Fit c cc cx n N X sc W) {k : Nat} {x : Str} {pos : Pos} {ir : E} (h : cE cc N (k + 1) sc (.Name x pos) = some ir) : PE X (.Name x pos) (tE (wdX X c) W (ev cx ir)) := by
  simp only [cE] at h
  split at h
  · rename_i i hi
    cases h
    exact (F.var hi).imp fun o H Q q => ev_var q
  · split at h
    · rename_i hg
      obtain ⟨g, h1, rfl⟩ := Option.map_eq_some_iff.mp h
      obtain ⟨g1, g2, g3⟩ := F.gl' hg
      cases hv : cx.gl g with
      | none =>
        refine ⟨fun pins s o H Q I ⟨env, p, st, _, _, q⟩ => ?_⟩
        rw [ev, hv] at q
        exact q.elim
      | some v =>
        obtain ⟨u, w, e1, e2, e3⟩ := F.gl x g h1 v hv
        exact (pe_glob g1 e1 e2 g2).imp fun o H Q q => ev_const (fun env st => by rw [ev, hv]) (fun p H => e3 p H) q
    · cases h
theorem E_Const (F : Fit c cc cx n N X sc W) {k j : Nat} {x : Const} {pos : Pos} {ir : E} (h : cE cc N (k + 1) sc (.Constant x j pos) = some ir) : PE X (.Constant x j pos) (tE (wdX X c) W (ev cx ir)) := by
  cases x <;> simp only [cE] at h <;> first
    | (cases h; done)
    | cases h
  · exact pe_non.imp fun o H Q q => ev_const (v := .non) (fun env st => by rw [ev]) (fun p H => .non') q
  · exact pe_bl.imp fun o H Q q => ev_const (v := .bl _) (fun env st => by rw [ev]) (fun p H => .bl') q
  · exact pe_int.imp fun o H Q q => ev_const (v := .int _) (fun env st => by rw [ev]) (fun p H => .int') q
  · rename_i x
    refine pe_str.imp fun o H Q q => ev_const (v := .str _) (fun env st => by rw [ev]) (fun p H => ?_) q
    unfold VR
    simp
/-- two parts, then an operation on values -/
theorem two_go {ma mb : Fr → Store → Res PV} {f : PV → PV → Store → Res PV} (nx : ∀ a b st x s, f a b st ≠ .exc x s) {wd : Wd} {o : St} {H : Hp} {Q : VK} (h : tE wd W (fun env st => (ma env st).bind fun x st1 => (mb env st1).bind fun y st2 => f x y st2) o H Q) :
    tOp (rB wd f) (tE wd W ma) (tE wd W mb) o H Q := by
  obtain ⟨env, p, st, hf, hs, h⟩ := h
  refine tE.go hf hs h fun x st1 p1 H1 v hf1 hs1 r1 g1 h1 => ?_
  refine tE.go hf1 hs1 h1 fun y st2 p2 H2 w hf2 hs2 r2 g2 h2 => ?_
  exact ⟨p2, st2, x, y, hs2, r1.gr g2, r2, RdO.of h2 (nx _ _ _)⟩
theorem bop_of {op : Operator} {o : Bop} (h : bopOf op = some o) : op = bopO o := by
  cases op <;> cases h <;> rfl
theorem cop_of {op : CmpOp} {o : Cop} (h : copOf op = some o) : op = copO o := by
  cases op <;> cases h <;> rfl
theorem E_BinOp {k : Nat} (S : Snd c cc cx n N k) (F : Fit c cc cx n N X sc W) {a b : Expr} {op : Operator} {pos : Pos} {ir : E} (h : cE cc N (k + 1) sc (.BinOp a op b pos) = some ir) : PE X (.BinOp a op b pos) (tE (wdX X c) W (ev cx ir)) := by
  simp only [cE] at h
  split at h
  · rename_i q x y h1 h2 h3
    cases h
    rw [bop_of h1]
    refine (pe_op (op_binP (c := c) q) (S.E h2 F) (S.E h3 F)).imp fun o H Q q' => two_go (binF_noexc q) ?_
    simpa only [ev] using q'
  · cases h
theorem E_cmp {k : Nat} (S : Snd c cc cx n N k) (F : Fit c cc cx n N X sc W) {a b : Expr} {op : CmpOp} {pos : Pos} {ir : E} (h : cE cc N (k + 1) sc (.Compare a [op] [b] pos) = some ir) :
    PE X (.Compare a [op] [b] pos) (tE (wdX X c) W (ev cx ir)) ∧ PT X (.Compare a [op] [b] pos) (tT (wdX X c) W (ev cx ir)) := by
  simp only [cE] at h
  split at h
  · rename_i q x y h1 h2 h3
    cases h
    rw [cop_of h1]
    refine ⟨(pe_cmpR (op_cmpP (c := c) F.room.u192 q) (S.E h2 F) (S.E h3 F) (cE_marks h3 _)).imp fun o H Q q' => two_go (cmpF_noexc q) ?_, (pt_cmpR (op_cmpP (c := c) F.room.u192 q) (S.E h2 F) (S.E h3 F) (cE_marks h3 _)).imp fun o H Q q' => ?_⟩
    · simpa only [ev] using q'
    · obtain ⟨env, p, st, hf, hs, h⟩ := q'
      rw [ev, toB_push] at h
      refine tE.go hf hs h fun x1 st1 p1 H1 v hf1 hs1 r1 g1 h1 => ?_
      rw [toB_push] at h1
      refine tE.go hf1 hs1 h1 fun y1 st2 p2 H2 w hf2 hs2 r2 g2 h2 => ?_
      refine ⟨p2, st2, x1, y1, hs2, r1.gr g2, r2, ?_⟩
      have nx := cmpF_noexc q x1 y1 st2
      cases hr : cmpF q x1 y1 st2 with
      | ok z st3 =>
        rw [hr] at h2
        cases z with
        | bl b =>
          intro p' H' v' g' s' r'
          unfold VR at r'
          subst r'
          exact ⟨b, rfl, h2 p' H' b g' s' rfl⟩
        | _ => exact h2.elim
      | exc z st3 => exact absurd hr (nx z st3)
      | bad =>
        rw [hr] at h2
        exact h2.elim
  · cases h
theorem cmpF_bl {q : Cop} {a b z : PV} {st st' : Store} (hr : cmpF q a b st = .ok z st') : ∃ k, z = .bl k := by
  cases q <;> simp only [cmpF] at hr
  all_goals first
    | (split at hr <;> cases hr; exact ⟨_, rfl⟩)
    | (unfold ofB at hr; split at hr <;> cases hr; exact ⟨_, rfl⟩)
/-- a comparison's result, looked at as a truth -/
theorem RdO.cmp {wd : Wd} {p : List Addr} {H : Hp} {q : Cop} {a b : PV} {st : Store} {Q : VK} (h : ∀ k st', cmpF q a b st = .ok (.bl k) st' → ∀ p' H', Gr p H p' H' → StR wd p' H' st' → Q (.bl k) H') (nb : cmpF q a b st ≠ .bad) : RdO wd p H (cmpF q a b st) Q := by
  cases hr : cmpF q a b st with
  | ok z st' =>
    obtain ⟨k, rfl⟩ := cmpF_bl hr
    intro p' H' v g s r
    unfold VR at r
    subst r
    exact h k st' hr p' H' g s
  | exc z st' => exact absurd hr (cmpF_noexc q a b st z st')
  | bad => exact absurd hr nb
theorem Rd.nbad {α β γ : Type} {wd : Wd} {W : WX} {o : St} {p : List Addr} {H : Hp} {rel : List Addr → Hp → α → β → Prop} {r : Res γ} {f : γ → Store → Res α} {Q : β → Hp → Prop} (h : Rd wd W o p H rel (r.bind f) Q) : r ≠ .bad := by
  intro e
  rw [e] at h
  exact h
theorem Rd.ok_ {α β γ : Type} {wd : Wd} {W : WX} {o : St} {p : List Addr} {H : Hp} {rel : List Addr → Hp → α → β → Prop} {r : Res γ} {x : γ} {st : Store} {f : γ → Store → Res α} {Q : β → Hp → Prop} (h : Rd wd W o p H rel (r.bind f) Q) (e : r = .ok x st) : Rd wd W o p H rel (f x st) Q := by
  rw [e] at h
  exact h
theorem E_chain {k : Nat} (S : Snd c cc cx n N k) (F : Fit c cc cx n N X sc W) {a b d : Expr} {op op' : CmpOp} {pos : Pos} {ir : E} (h : cE cc N (k + 1) sc (.Compare a [op, op'] [b, d] pos) = some ir) :
    PE X (.Compare a [op, op'] [b, d] pos) (tE (wdX X c) W (ev cx ir)) ∧ PT X (.Compare a [op, op'] [b, d] pos) (tT (wdX X c) W (ev cx ir)) := by
  simp only [cE] at h
  split at h
  · rename_i q q' x y z h1 h1' h2 h3 h4
    cases h
    rw [cop_of h1, cop_of h1']
    have hm : lastMarks [copO q, copO q'] [b, d] = false := by
      show behindInMarks _ d = false
      exact cE_marks h4 _
    have main : ∀ {α β : Type} (fl : Res PV → Res α) (hp : ∀ (r : Res PV) (f : PV → Store → Res PV), fl (r.bind f) = r.bind fun x st => fl (f x st)) (hbad : fl .bad = .bad) {rel : List Addr → Hp → α → β → Prop} {o : St} {H : Hp} {Q : β → Hp → Prop} {env : Fr} {p : List Addr} {st : Store}, FrR (wdX X c) p H env o → StR (wdX X c) p H st → Rd (wdX X c) W o p H rel (fl (ev cx (.chain q q' x y z) env st)) Q → ∀ R : VK,
        (∀ k st' p' H', StR (wdX X c) p' H' st' → Rd (wdX X c) W o p' H' rel (fl (.ok (.bl k) st')) Q → R (.bl k) H') →
        tChain (rB (wdX X c) (cmpF q)) (rB (wdX X c) (cmpF q')) (tE (wdX X c) W (ev cx x)) (tE (wdX X c) W (ev cx y)) (tE (wdX X c) W (ev cx z)) o H R := by
      intro α β fl hp hbad rel o H Q env p st hf hs h R fin
      rw [ev, hp] at h
      refine tE.go hf hs h fun x1 st1 p1 H1 v hf1 hs1 r1 g1 h1 => ?_
      rw [hp] at h1
      refine tE.go hf1 hs1 h1 fun y1 st2 p2 H2 w hf2 hs2 r2 g2 h2 => ?_
      rw [hp] at h2
      refine ⟨p2, st2, x1, y1, hs2, r1.gr g2, r2, RdO.cmp (fun k st3 e p3 H3 g3 hs3 => ⟨k, rfl, ?_⟩) h2.nbad⟩
      have h3 := (Rd.ok_ h2 e).mono g3
      cases k with
      | true =>
        rw [if_pos rfl]
        rw [hp] at h3
        refine tE.go (hf2.gr g3) hs3 h3 fun z1 st4 p4 H4 u hf4 hs4 r4 g4 h4 => ?_
        refine ⟨p4, st4, y1, z1, hs4, (r2.gr g3).gr g4, r4, RdO.cmp (fun k st5 e p5 H5 g5 hs5 => ?_) ?_⟩
        · rw [e] at h4
          exact fin k st5 p5 H5 hs5 (h4.mono g5)
        · intro e
          rw [e, hbad] at h4
          exact h4
      | false =>
        rw [if_neg Bool.false_ne_true]
        exact fin false st3 p3 H3 hs3 h3
    refine ⟨(pe_chain (op_cmpP (c := c) F.room.u192 q) (op_cmpP (c := c) F.room.u192 q') (S.E h2 F) (S.E h3 F) (S.E h4 F) hm).imp fun o H Q q0 => ?_, (pt_chain (op_cmpP (c := c) F.room.u192 q) (op_cmpP (c := c) F.room.u192 q') (S.E h2 F) (S.E h3 F) (S.E h4 F) hm).imp fun o H Q q0 => ?_⟩
    · obtain ⟨env, p, st, hf, hs, h⟩ := q0
      exact main id (fun _ _ => rfl) rfl hf hs h Q fun k st' p' H' s r => r p' H' _ (Gr.refl _ _) s .bl'
    · obtain ⟨env, p, st, hf, hs, h⟩ := q0
      exact main toB toB_push rfl hf hs h _ fun k st' p' H' s r => ⟨k, rfl, r p' H' k (Gr.refl _ _) s rfl⟩
  · cases h
theorem E_not {k : Nat} (S : Snd c cc cx n N k) (F : Fit c cc cx n N X sc W) {a : Expr} {pos : Pos} {ir : E} (h : cE cc N (k + 1) sc (.UnaryOp .Not a pos) = some ir) : PE X (.UnaryOp .Not a pos) (tE (wdX X c) W (ev cx ir)) := by
  simp only [cE] at h
  obtain ⟨x, h1, rfl⟩ := Option.map_eq_some_iff.mp h
  refine (pe_not (S.E h1 F)).imp fun o H Q ⟨env, p, st, hf, hs, q⟩ => ?_
  rw [ev] at q
  refine tE.go hf hs q fun x1 st1 p1 H1 v hf1 hs1 r1 g1 q1 => ?_
  cases x1 with
  | bl b =>
    unfold VR at r1
    subst r1
    exact ⟨b, rfl, q1 p1 H1 _ (Gr.refl _ _) hs1 .bl'⟩
  | _ => exact q1.elim
theorem T_not {k : Nat} (S : Snd c cc cx n N k) (F : Fit c cc cx n N X sc W) {a : Expr} {pos : Pos} {ir : E} (h : cT cc N (k + 1) sc (.UnaryOp .Not a pos) = some ir) : PT X (.UnaryOp .Not a pos) (tT (wdX X c) W (ev cx ir)) := by
  simp only [cT] at h
  obtain ⟨x, h1, rfl⟩ := Option.map_eq_some_iff.mp h
  refine (pt_not (S.T h1 F)).imp fun o H Q ⟨env, p, st, hf, hs, q⟩ => ?_
  rw [ev, toB_push] at q
  refine tT.go hf hs (fun x st' hx => ?_) q fun b st1 p1 H1 hf1 hs1 g1 q1 => ?_
  · cases x <;> first | exact absurd rfl (hx _) | rfl
  · exact q1 p1 H1 _ (Gr.refl _ _) hs1 rfl
theorem E_neg {k : Nat} (S : Snd c cc cx n N k) (F : Fit c cc cx n N X sc W) {a : Expr} {pos : Pos} {ir : E} (h : cE cc N (k + 1) sc (.UnaryOp .USub a pos) = some ir) : PE X (.UnaryOp .USub a pos) (tE (wdX X c) W (ev cx ir)) := by
  simp only [cE] at h
  obtain ⟨x, h1, rfl⟩ := Option.map_eq_some_iff.mp h
  refine (pe_un un_neg (S.E h1 F)).imp fun o H Q ⟨env, p, st, hf, hs, q⟩ => ?_
  rw [ev] at q
  refine tE.go hf hs q fun x1 st1 p1 H1 v hf1 hs1 r1 g1 q1 => ?_
  cases x1 with
  | int b =>
    unfold VR at r1
    subst r1
    exact ⟨b, rfl, q1 p1 H1 _ (Gr.refl _ _) hs1 .int'⟩
  | _ => exact q1.elim
theorem and_go {x y : E} {tb : TE} {o : St} {H : Hp} {Q : VK} {wd : Wd} (hb : ∀ o H Q, tE wd W (ev cx y) o H Q → tb o H Q) (h : tE wd W (ev cx (.and x y)) o H Q) : tAndV (tE wd W (ev cx x)) tb o H Q := by
  obtain ⟨env, p, st, hf, hs, q⟩ := h
  rw [ev] at q
  refine tE.go hf hs q fun x1 st1 p1 H1 v hf1 hs1 r1 g1 q1 => ?_
  cases x1 with
  | bl b =>
    unfold VR at r1
    subst r1
    refine ⟨b, rfl, ?_⟩
    cases b with
    | true =>
      rw [if_pos rfl]
      exact hb _ _ _ ⟨env, p1, st1, hf1, hs1, q1⟩
    | false =>
      rw [if_neg Bool.false_ne_true]
      exact q1 p1 H1 _ (Gr.refl _ _) hs1 .bl'
  | _ => exact q1.elim
theorem or_go {x y : E} {tb : TE} {o : St} {H : Hp} {Q : VK} {wd : Wd} (hb : ∀ o H Q, tE wd W (ev cx y) o H Q → tb o H Q) (h : tE wd W (ev cx (.or x y)) o H Q) : tOrV (tE wd W (ev cx x)) tb o H Q := by
  obtain ⟨env, p, st, hf, hs, q⟩ := h
  rw [ev] at q
  refine tE.go hf hs q fun x1 st1 p1 H1 v hf1 hs1 r1 g1 q1 => ?_
  cases x1 with
  | bl b =>
    unfold VR at r1
    subst r1
    refine ⟨b, rfl, ?_⟩
    cases b with
    | false =>
      rw [if_neg Bool.false_ne_true]
      exact hb _ _ _ ⟨env, p1, st1, hf1, hs1, q1⟩
    | true =>
      rw [if_pos rfl]
      exact q1 p1 H1 _ (Gr.refl _ _) hs1 .bl'
  | _ => exact q1.elim
theorem andT_go {x y : E} {tb : TT} {o : St} {H : Hp} {Q : Bool → Hp → Prop} {wd : Wd} (hb : ∀ o H Q, tT wd W (ev cx y) o H Q → tb o H Q) (h : tT wd W (ev cx (.and x y)) o H Q) : tAnd (tT wd W (ev cx x)) tb o H Q := by
  obtain ⟨env, p, st, hf, hs, q⟩ := h
  rw [ev, toB_push] at q
  refine tT.go hf hs (fun x st' hx => ?_) q fun b st1 p1 H1 hf1 hs1 g1 q1 => ?_
  · cases x <;> first | exact absurd rfl (hx _) | rfl
  · cases b with
    | true =>
      rw [if_pos rfl]
      exact hb _ _ _ ⟨env, p1, st1, hf1, hs1, q1⟩
    | false =>
      rw [if_neg Bool.false_ne_true]
      exact q1 p1 H1 _ (Gr.refl _ _) hs1 rfl
theorem orT_go {x y : E} {tb : TT} {o : St} {H : Hp} {Q : Bool → Hp → Prop} {wd : Wd} (hb : ∀ o H Q, tT wd W (ev cx y) o H Q → tb o H Q) (h : tT wd W (ev cx (.or x y)) o H Q) : tOr (tT wd W (ev cx x)) tb o H Q := by
  obtain ⟨env, p, st, hf, hs, q⟩ := h
  rw [ev, toB_push] at q
  refine tT.go hf hs (fun x st' hx => ?_) q fun b st1 p1 H1 hf1 hs1 g1 q1 => ?_
  · cases x <;> first | exact absurd rfl (hx _) | rfl
  · cases b with
    | false =>
      rw [if_neg Bool.false_ne_true]
      exact hb _ _ _ ⟨env, p1, st1, hf1, hs1, q1⟩
    | true =>
      rw [if_pos rfl]
      exact q1 p1 H1 _ (Gr.refl _ _) hs1 rfl
theorem E_bool {k : Nat} (S : Snd c cc cx n N k) (F : Fit c cc cx n N X sc W) {a b : Expr} {r : List Expr} {op : BoolOp} {pos : Pos} {ir : E} (h : cE cc N (k + 1) sc (.BoolOp op (a :: b :: r) pos) = some ir) :
    PE X (.BoolOp op (a :: b :: r) pos) (tE (wdX X c) W (ev cx ir)) := by
  unfold cE at h
  split at h
  · rename_i x y h1 h2
    cases h
    have hb : PE X (.BoolOp op (b :: r) pos) (tE (wdX X c) W (ev cx y)) := by
      cases r with
      | nil => exact pe_one (S.E h2 F)
      | cons d r => exact S.E h2 F
    cases op with
    | And => exact (pe_and (S.E h1 F) hb).imp fun o H Q q => and_go (fun _ _ _ z => z) q
    | Or => exact (pe_or (S.E h1 F) hb).imp fun o H Q q => or_go (fun _ _ _ z => z) q
  · cases h
theorem T_bool {k : Nat} (S : Snd c cc cx n N k) (F : Fit c cc cx n N X sc W) {r : List Expr} {a b : Expr} {op : BoolOp} {pos : Pos} {ir : E} (h : cT cc N (k + 1) sc (.BoolOp op (a :: b :: r) pos) = some ir) :
    PW X (.BoolOp op (a :: b :: r) pos) (tT (wdX X c) W (ev cx ir)) := by
  unfold cT at h
  split at h
  · rename_i x y h1 h2
    cases h
    have hb : PW X (.BoolOp op (b :: r) pos) (tT (wdX X c) W (ev cx y)) := by
      cases r with
      | nil =>
        cases op with
        | And => exact pw_and1 (S.T h2 F)
        | Or => exact pw_or1 (S.T h2 F)
      | cons d r => exact S.B h2 F
    cases op with
    | And => exact (pw_and (S.T h1 F) hb).imp fun o H Q q => andT_go (fun _ _ _ z => z) q
    | Or => exact (pw_or (S.T h1 F) hb).imp fun o H Q q => orT_go (fun _ _ _ z => z) q
  · cases h
theorem E_ite {k : Nat} (S : Snd c cc cx n N k) (F : Fit c cc cx n N X sc W) {a b t : Expr} {pos : Pos} {ir : E} (h : cE cc N (k + 1) sc (.IfExp t a b pos) = some ir) : PE X (.IfExp t a b pos) (tE (wdX X c) W (ev cx ir)) := by
  simp only [cE] at h
  split at h
  · rename_i x y z h1 h2 h3
    cases h
    refine (pe_ifExp (S.T h1 F) (S.E h2 F) (S.E h3 F)).imp fun o H Q ⟨env, p, st, hf, hs, q⟩ => ?_
    rw [ev] at q
    refine tT.go hf hs (fun x st' hx => ?_) q fun b st1 p1 H1 hf1 hs1 g1 q1 => ?_
    · cases x <;> first | exact absurd rfl (hx _) | rfl
    · cases b with
      | true =>
        rw [if_pos rfl]
        exact ⟨env, p1, st1, hf1, hs1, q1⟩
      | false =>
        rw [if_neg Bool.false_ne_true]
        exact ⟨env, p1, st1, hf1, hs1, q1⟩
  · cases h
theorem E_idx {k : Nat} (S : Snd c cc cx n N k) (F : Fit c cc cx n N X sc W) {a i : Expr} {x y : E} {pos : Pos} (h1 : cE cc N k sc a = some x) (h2 : cE cc N k sc i = some y) : PE X (.Subscript a i pos) (tE (wdX X c) W (ev cx (.idx x y))) :=
  (pe_ix (ix_P (c := c)) (S.E h1 F) (S.E h2 F) (cE_plainIx h2)).imp fun o H Q q => two_go idxF_noexc (by simpa only [ev] using q)
theorem E_slc {k : Nat} (S : Snd c cc cx n N k) (F : Fit c cc cx n N X sc W) {a : Expr} {lo hi : Option Expr} {x l u : E} {pos p2 : Pos} (h1 : cE cc N k sc a = some x) (h2 : cO cc N k sc lo = some l) (h3 : cO cc N k sc hi = some u) :
    PE X (.Subscript a (.Slice lo hi none p2) pos) (tE (wdX X c) W (ev cx (.slc x l u))) := by
  refine (pe_slice (sl_P (c := c)) (S.E h1 F) (S.O h2 F) (S.O h3 F)).imp fun o H Q ⟨env, p, st, hf, hs, q⟩ => ?_
  rw [ev] at q
  refine tE.go hf hs q fun x1 st1 p1 H1 v hf1 hs1 r1 g1 q1 => ?_
  have part : ∀ {e : E} {env : Fr} {p : List Addr} {st : Store} {H : Hp} {f : Option Int → Store → Res PV} {R : Option Int → Hp → Prop}, FrR (wdX X c) p H env o → StR (wdX X c) p H st →
      Rd (wdX X c) W o p H (vr (wdX X c)) ((ev cx e env st).bind fun y s2 => match partI e y with
        | none => .bad
        | some r => f r s2) Q → (∀ r st' p' H', FrR (wdX X c) p' H' env o → StR (wdX X c) p' H' st' → Gr p H p' H' → Rd (wdX X c) W o p' H' (vr (wdX X c)) (f r st') Q → R r H') → tO (wdX X c) W e (ev cx e) o H R := by
    intro e env p st H f R hf hs h k
    refine ⟨env, p, st, hf, hs, Rd.bind (rel := fun _ _ x r => partI e x = some r) h fun y st' p' H' r g s e1 q => ?_, fun y st' e1 => ?_⟩
    · rw [e1] at q
      exact k r st' p' H' (hf.gr g) s g q
    · have h' := Rd.ok_ h e1
      cases e2 : partI e y with
      | none =>
        rw [e2] at h'
        exact h'.elim
      | some r => exact ⟨r, rfl⟩
  refine part hf1 hs1 q1 fun lo st2 p2 H2 hf2 hs2 g2 q2 => ?_
  refine part hf2 hs2 q2 fun hi st3 p3 H3 hf3 hs3 g3 q3 => ?_
  exact ⟨p3, st3, x1, hs3, (r1.gr g2).gr g3, RdO.of q3 (slcF_noexc _ _ _ _)⟩
theorem E_tup {k : Nat} (S : Snd c cc cx n N k) (F : Fit c cc cx n N X sc W) {es : List Expr} {j : Nat} {ir : Es} {pos : Pos} (h : cEs cc N k sc es = some ir) : PE X (.Tuple es j pos) (tE (wdX X c) W (ev cx (.tup ir))) := by
  refine (pe_tup (S.A h F)).imp fun o H Q ⟨env, p, st, hf, hs, q⟩ => ?_
  rw [ev] at q
  refine tA.go hf hs q fun xs st1 p1 H1 vs hf1 hs1 r1 g1 q1 => ?_
  split at q1
  · rename_i hl
    exact ⟨by rw [← r1.len]; exact hl, RdO.tup (RdO.of q1 (fun _ _ z => nomatch z)) hs1 r1⟩
  · exact q1.elim
theorem E_lst {k : Nat} (S : Snd c cc cx n N k) (F : Fit c cc cx n N X sc W) {es : List Expr} {ir : Es} {pos : Pos} (h : cEs cc N k sc es = some ir) : PE X (.List es pos) (tE (wdX X c) W (ev cx (.lst ir))) := by
  refine (pe_lst (S.A h F)).imp fun o H Q ⟨env, p, st, hf, hs, q⟩ => ?_
  rw [ev] at q
  refine tA.go hf hs q fun xs st1 p1 H1 vs hf1 hs1 r1 g1 q1 => ?_
  split at q1
  · rename_i hl
    exact ⟨by rw [← r1.len]; exact hl, RdO.lst (RdO.of q1 (fun _ _ z => nomatch z)) hs1 r1⟩
  · exact q1.elim
theorem E_call {k : Nat} (S : Snd c cc cx n N k) (F : Fit c cc cx n N X sc W) {es : List Expr} {ir : Es} {f : Str} {id : Nat} {p0 pos : Pos} (hg : isGlob sc f = true) (hf : cc.fns.lookup f = some id) (h : cEs cc N k sc es = some ir) :
    PE X (.Call (.Name f p0) es [] pos) (tE (wdX X c) W (ev cx (.call id ir))) := by
  obtain ⟨g1, g2, _⟩ := F.gl' hg
  cases es with
  | nil =>
    have : ir = .nil := by cases k <;> (simp only [cEs] at h; cases h; rfl)
    subst this
    exact (FnI.call0 (F.fns f id hf) F.room F.tk g1 g2).imp fun o H Q ⟨env, p, st, hf, hs, q⟩ => ⟨env, p, st, hf, hs, by rw [ev, evs] at q; exact q⟩
  | cons e r =>
    have hA := S.A h F
    cases k with
    | zero => simp [cEs] at h
    | succ k =>
      have h' := h
      unfold cEs at h'
      split at h'
      · rename_i x es h1 h2
        exact (FnI.call (F.fns f id hf) F.room F.tk g1 g2 hA (cE_star h1 r _) (cEs_plain h2 _ _)).imp fun o H Q ⟨env, p, st, hf, hs, q⟩ => ⟨env, p, st, hf, hs, by rw [ev] at q; exact q⟩
      · cases h'
/-- the arguments, then an operation -/
theorem args_go {ms : Fr → Store → Res (List PV)} {f : List PV → Store → Res PV} {r : List V → Hp → VK → Prop} {o : St} {H : Hp} {Q : VK} {wd : Wd} (nx : ∀ a st x s, f a st ≠ .exc x s) (hr : ∀ vs H Q, rC wd f vs H Q → r vs H Q)
    (h : tE wd W (fun env st => (ms env st).bind f) o H Q) : tCB r (tA wd W ms) o H Q := by
  obtain ⟨env, p, st, hf, hs, h⟩ := h
  refine tA.go hf hs h fun xs st1 p1 H1 vs hf1 hs1 r1 g1 q1 => ?_
  exact hr _ _ _ ⟨p1, st1, xs, hs1, r1, RdO.of q1 (nx _ _)⟩
theorem E_bi {k : Nat} (S : Snd c cc cx n N k) (F : Fit c cc cx n N X sc W) {e : Expr} {es : List Expr} {ir : Es} {f : Str} {b : Bi} {p0 pos : Pos} (hg : isGlob sc f = true) (hb : biOf f (e :: es).length = some b) (h : cEs cc N k sc (e :: es) = some ir) :
    PE X (.Call (.Name f p0) (e :: es) [] pos) (tE (wdX X c) W (ev cx (.bi b ir))) := by
  obtain ⟨g1, g2, g3⟩ := F.gl' hg
  have hA := S.A h F
  cases k with
  | zero => simp [cEs] at h
  | succ k =>
    have h' := h
    unfold cEs at h'
    split at h'
    · rename_i x es' h1 h2
      have s1 := cE_star h1 es X.env
      have s2 := cEs_plain h2 pos X.env
      have goB : ∀ {i : String} {r : List V → Hp → VK → Prop}, CallR X (.builtin i) r → X.mg f = none → bootBuiltins f = some (.builtin i) → (∀ vs H Q, rC (wdX X c) (biF b) vs H Q → r vs H Q) → PE X (.Call (.Name f p0) (e :: es) [] pos) (tE (wdX X c) W (ev cx (.bi b ir))) :=
        fun {i r} hc hm hv hr => (pe_callB hc g1 hm hv hA g3 g2 s1 s2).imp fun o H Q q => args_go (biF_noexc b) hr (by simpa only [ev] using q)
      have goT : ∀ {i : String} {r : List V → Hp → VK → Prop}, CallR X (.type i) r → X.mg f = none → bootBuiltins f = some (.type i) → (∀ vs H Q, rC (wdX X c) (biF b) vs H Q → r vs H Q) → PE X (.Call (.Name f p0) (e :: es) [] pos) (tE (wdX X c) W (ev cx (.bi b ir))) :=
        fun {i r} hc hm hv hr => (pe_callTy hc g1 hm hv hA g3 g2 s1 s2).imp fun o H Q q => args_go (biF_noexc b) hr (by simpa only [ev] using q)
      unfold biOf at hb
      split at hb
      · rename_i hc
        have e0 : f = "len" := by simpa using (Bool.and_eq_true_iff.mp hc).1
        subst e0
        cases hb
        exact goB cl_len (F.nb _ (by decide)) (by decide +kernel) fun _ _ _ z => z
      split at hb
      · rename_i hc
        have e0 : f = "int" := by simpa using (Bool.and_eq_true_iff.mp hc).1
        subst e0
        cases hb
        exact goT cl_int (F.nb _ (by decide)) (by decide +kernel) fun _ _ _ z => z
      split at hb
      · rename_i hc
        have e0 : f = "str" := by simpa using (Bool.and_eq_true_iff.mp hc).1
        subst e0
        cases hb
        exact goT cl_str (F.nb _ (by decide)) (by decide +kernel) fun _ _ _ z => z
      split at hb
      · rename_i hc
        have e0 : f = "list" := by simpa using (Bool.and_eq_true_iff.mp hc).1
        subst e0
        cases hb
        exact goT cl_list (F.nb _ (by decide)) (by decide +kernel) fun _ _ _ z => z
      split at hb
      · rename_i hc
        have e0 : f = "tuple" := by simpa using (Bool.and_eq_true_iff.mp hc).1
        subst e0
        cases hb
        exact goT cl_tuple (F.nb _ (by decide)) (by decide +kernel) fun _ _ _ z => z
      split at hb
      · rename_i hc
        have e0 : f = "sum" := by simpa using (Bool.and_eq_true_iff.mp hc).1
        subst e0
        cases hb
        exact goB (cl_sum F.calm) (F.nb _ (by decide)) (by decide +kernel) fun _ _ _ z => z
      split at hb
      · rename_i hc
        have e0 : f = "min" := by simpa using (Bool.and_eq_true_iff.mp hc).1
        subst e0
        cases hb
        exact goB (cl_min F.calm) (F.nb _ (by decide)) (by decide +kernel) fun _ _ _ z => z
      split at hb
      · rename_i hc
        have e0 : f = "max" := by simpa using (Bool.and_eq_true_iff.mp hc).1
        subst e0
        cases hb
        exact goB (cl_max F.calm) (F.nb _ (by decide)) (by decide +kernel) fun _ _ _ z => z
      · cases hb
    · cases h'
theorem ty_of_name {t : Str} {ty : Ty} (h : tyOf t = some ty) : t = Str.ofString (tyN ty) ∧ t ∈ bNames ∧ bootBuiltins t = some (.type (tyN ty)) := by
  unfold tyOf at h
  split at h
  · rename_i e
    have e0 : t = "str" := by simpa using e
    subst e0
    cases h
    exact ⟨rfl, by decide, by decide +kernel⟩
  split at h
  · rename_i e
    have e0 : t = "int" := by simpa using e
    subst e0
    cases h
    exact ⟨rfl, by decide, by decide +kernel⟩
  split at h
  · rename_i e
    have e0 : t = "bool" := by simpa using e
    subst e0
    cases h
    exact ⟨rfl, by decide, by decide +kernel⟩
  split at h
  · rename_i e
    have e0 : t = "tuple" := by simpa using e
    subst e0
    cases h
    exact ⟨rfl, by decide, by decide +kernel⟩
  split at h
  · rename_i e
    have e0 : t = "list" := by simpa using e
    subst e0
    cases h
    exact ⟨rfl, by decide, by decide +kernel⟩
  · cases h
theorem E_isi {k : Nat} (S : Snd c cc cx n N k) (F : Fit c cc cx n N X sc W) {a : Expr} {x : E} {t : Str} {ty : Ty} {p0 p1 pos : Pos} (hg : isGlob sc ("isinstance" : Str) = true) (ht : isGlob sc t = true) (h1 : tyOf t = some ty) (h2 : cE cc N k sc a = some x) :
    PE X (.Call (.Name "isinstance" p0) [a, .Name t p1] [] pos) (tE (wdX X c) W (ev cx (.bi (.isi ty) (.cons x .nil)))) := by
  obtain ⟨g1, g2, g3⟩ := F.gl' hg
  obtain ⟨t1, t2, t3⟩ := F.gl' ht
  obtain ⟨e0, hm, hv⟩ := ty_of_name h1
  have hA : PA X [a, .Name t p1] (tCons (tE (wdX X c) W (ev cx x)) (tCons (tC (.ty (tyN ty))) tNil)) :=
    pa_cons (S.E h2 F) (pa_cons (pe_bltn t1 (F.nb t hm) hv rfl t3 t2) pa_nil (by rfl)) (cE_star h2 _ _)
  refine (pe_callB (cl_isi (c := c) ty) g1 (F.nb _ (by decide)) (by decide +kernel) hA g3 g2 (cE_star h2 _ _) (by rfl)).imp fun o H Q ⟨env, p, st, hf, hs, q⟩ => ?_
  have q' : Rd (wdX X c) W o p H (vr (wdX X c)) ((ev cx x env st).bind fun v st1 => biF (.isi ty) [v] st1) Q := by
    simp only [ev, evs] at q
    cases hx : ev cx x env st <;> (rw [hx] at q; exact q)
  refine tE.go hf hs q' fun x1 st1 p1 H1 v hf1 hs1 r1 g1 q1 => ?_
  exact ⟨v, rfl, p1, st1, x1, hs1, r1, RdO.of q1 (biF_noexc _ _ _)⟩
end
end GI
set_option maxRecDepth 10000
set_option maxHeartbeats 4000000
/-! GZ: methods, iterators, comprehensions; the whole of the expressions. -/
namespace GI
open PySem L2
theorem base_of {o : Expr} (h : notSuper o = true) (m : Str) (env : Env) : attributeBase o m env (eval o env) = eval o env := by
  unfold attributeBase
  split
  · rename_i id p q
    have h' : (!(id == ("super" : Str))) = true := h
    have : (id != ("super" : Str)) = true := h'
    rw [this]
    rfl
  · rfl
section
variable {c : Cl} {cc : CC} {cx : Ck} {n : Nat} {N : List Str} {X : Cx} {sc : Scope} {W : WX}
theorem meth_go0 {x : E} {m : Mt} {o : St} {H : Hp} {Q : VK} {wd : Wd} (h : tE wd W (ev cx (.mth m x .nil)) o H Q) : tBM0 wd.K "list" (rM wd m) (tE wd W (ev cx x)) o H Q := by
  obtain ⟨env, p, st, hf, hs, q⟩ := h
  rw [ev] at q
  refine tE.go hf hs q fun x1 st1 p1 H1 v hf1 hs1 r1 g1 q1 => ?_
  split at q1
  · rename_i hl
    rw [evs] at q1
    exact ⟨isLst_ty hs1 r1 hl, p1, st1, x1, [], hs1, r1, by unfold VRs; rfl, RdO.of q1 (mtF_noexc _ _ _ _)⟩
  · exact q1.elim
theorem meth_go {x : E} {m : Mt} {ir : Es} {o : St} {H : Hp} {Q : VK} {wd : Wd} (h : tE wd W (ev cx (.mth m x ir)) o H Q) : tBM wd.K "list" (rM wd m) (tE wd W (ev cx x)) (tA wd W (evs cx ir)) o H Q := by
  obtain ⟨env, p, st, hf, hs, q⟩ := h
  rw [ev] at q
  refine tE.go hf hs q fun x1 st1 p1 H1 v hf1 hs1 r1 g1 q1 => ?_
  split at q1
  · rename_i hl
    refine ⟨isLst_ty hs1 r1 hl, tA.go hf1 hs1 q1 fun xs st2 p2 H2 vs hf2 hs2 r2 g2 q2 => ?_⟩
    exact ⟨p2, st2, x1, xs, hs2, r1.gr g2, r2, RdO.of q2 (mtF_noexc _ _ _ _)⟩
  · exact q1.elim
theorem few_of {e : Expr} {env : Env} {cpos : Pos} (h : starEach [e] env = (false, eval e env) :: starEach [] env) : ((backTo cpos (starEach [e] env)).all (fun x => !x.1) && (backToKw cpos (keywordEach [] env)).all (fun x => x.1.isSome)
      && decide ([e].length + ([] : List Keyword).length + (if ([] : List Keyword).isEmpty then 0 else 1) < 30)) = true := by
  rw [h]
  rfl
theorem E_mth {k : Nat} (S : Snd c cc cx n N k) (F : Fit c cc cx n N X sc W) {o : Expr} {es : List Expr} {m : Str} {mt : Mt} {x : E} {ir : Es} {apos cpos : Pos} (hl : (apos.endLine == cpos.line) = true) (hns : notSuper o = true) (h0 : mtOf m es.length = some mt) (h1 : cE cc N k sc o = some x) (h2 : cEs cc N k sc es = some ir) :
    PE X (.Call (.Attribute o m apos) es [] cpos) (tE (wdX X c) W (ev cx (.mth mt x ir))) := by
  have hb := base_of hns m X.env
  have hO := S.E h1 F
  have hA := S.A h2 F
  have one : ∀ {e : Expr} {r : List Expr}, es = e :: r → starEach (e :: r) X.env = (false, eval e X.env) :: starEach r X.env := by
    intro e r he
    subst he
    cases k with
    | zero => simp [cEs] at h2
    | succ k =>
      unfold cEs at h2
      split at h2
      · rename_i x es' h3 h4
        exact cE_star h3 _ _
      · cases h2
  have nil0 : es = [] → ir = .nil := by
    intro he
    subst he
    cases k <;> (simp only [cEs] at h2; cases h2; rfl)
  unfold mtOf at h0
  split at h0
  · rename_i hc
    obtain ⟨c1, c2⟩ := Bool.and_eq_true_iff.mp hc
    have e0 : m = "append" := by simpa using c1
    have l1 : es.length = 1 := by simpa using c2
    subst e0
    cases h0
    obtain ⟨e, rfl⟩ := List.length_eq_one_iff.mp l1
    exact (pe_bm PySem.F.plainAttrs_list PySem.F.slot_list_append PySem.F.type_list_append (mt_appendP (c := c)) hO hA hb (few_of (one rfl)) hl (one rfl) rfl).imp fun o H Q q => meth_go q
  split at h0
  · rename_i hc
    obtain ⟨c1, c2⟩ := Bool.and_eq_true_iff.mp hc
    have e0 : m = "pop" := by simpa using c1
    have l1 : es = [] := by simpa using c2
    have := nil0 l1
    subst e0 l1 this
    cases h0
    exact (pe_bm0 PySem.F.plainAttrs_list PySem.F.slot_list_pop PySem.F.type_list_pop (mt_popP (c := c)) hO hb hl).imp fun o H Q q => meth_go0 q
  split at h0
  · rename_i hc
    obtain ⟨c1, c2⟩ := Bool.and_eq_true_iff.mp hc
    have e0 : m = "pop" := by simpa using c1
    have l1 : es.length = 1 := by simpa using c2
    subst e0
    cases h0
    obtain ⟨e, rfl⟩ := List.length_eq_one_iff.mp l1
    exact (pe_bm PySem.F.plainAttrs_list PySem.F.slot_list_pop PySem.F.type_list_pop (mt_popAtP (c := c)) hO hA hb (few_of (one rfl)) hl (one rfl) rfl).imp fun o H Q q => meth_go q
  split at h0
  · rename_i hc
    obtain ⟨c1, c2⟩ := Bool.and_eq_true_iff.mp hc
    have e0 : m = "extend" := by simpa using c1
    have l1 : es.length = 1 := by simpa using c2
    subst e0
    cases h0
    obtain ⟨e, rfl⟩ := List.length_eq_one_iff.mp l1
    exact (pe_bm PySem.F.plainAttrs_list PySem.F.slot_list_extend PySem.F.type_list_extend (mt_extendP (c := c)) hO hA hb (few_of (one rfl)) hl (one rfl) rfl).imp fun o H Q q => meth_go q
  split at h0
  · rename_i hc
    obtain ⟨c1, c2⟩ := Bool.and_eq_true_iff.mp hc
    have e0 : m = "index" := by simpa using c1
    have l1 : es.length = 1 := by simpa using c2
    subst e0
    cases h0
    obtain ⟨e, rfl⟩ := List.length_eq_one_iff.mp l1
    exact (pe_bm PySem.F.plainAttrs_list PySem.F.slot_list_index PySem.F.type_list_index (mt_indexP (c := c)) hO hA hb (few_of (one rfl)) hl (one rfl) rfl).imp fun o H Q q => meth_go q
  split at h0
  · rename_i hc
    obtain ⟨c1, c2⟩ := Bool.and_eq_true_iff.mp hc
    have e0 : m = "clear" := by simpa using c1
    have l1 : es = [] := by simpa using c2
    have := nil0 l1
    subst e0 l1 this
    cases h0
    exact (pe_bm0 PySem.F.plainAttrs_list PySem.F.slot_list_clear PySem.F.type_list_clear (mt_clearP (c := c)) hO hb hl).imp fun o H Q q => meth_go0 q
  · cases h0
end
/-! ### iterators -/
section
variable {wd : Wd} {p : List Addr} {H : Hp} {st : Store}
theorem stays_app {st : Store} : ∀ {a b : List (Nat × List PV)}, stays st (a ++ b) → stays st a ∧ stays st b
  | [], _, h => ⟨trivial, h⟩
  | (k, xs) :: a, b, h => by
    obtain ⟨h1, h2⟩ := h
    obtain ⟨h3, h4⟩ := stays_app h2
    exact ⟨⟨h1, h3⟩, h4⟩
theorem list_stay {a : PV} {xs : List PV} {st st' : Store} (h : listOf st a = some xs) (hs : stays st' (stayOf a xs)) : listOf st' a = some xs := by
  cases a with
  | ref k =>
    obtain ⟨h1, _⟩ := hs
    simp only [listOf, h1]
  | frl ys => exact h
  | _ => cases h
theorem Wk_list {a : PV} {l : Addr} {xs : List PV} (r : VR wd.K p H a (.ref l)) (e : listOf st a = some xs) : Wk wd ⟨xs, stayOf a xs⟩ p H (Itl wd.K l) := by
  have key : ∀ {p' : List Addr} {H' : Hp} {st' : Store}, Gr p H p' H' → StR wd p' H' st' → stays st' (stayOf a xs) → ∃ vs, SqL wd.K H' l vs ∧ VRs wd.K p' H' xs vs := by
    intro p' H' st' g s hy
    obtain ⟨b, vs, e1, h1, h2⟩ := list_ok s (r.gr g) (list_stay e hy)
    cases e1
    exact ⟨vs, h1, h2⟩
  refine ⟨fun i x p' H' st' e1 g s hy => ?_, fun i p' H' st' hi g s hy => ?_⟩
  · obtain ⟨vs, h1, h2⟩ := key g s hy
    obtain ⟨v, h3, h4⟩ := Paired.at' h2.paired e1
    refine ⟨⟨vs, v, h1, h3⟩, fun w H2 ⟨e2, h5⟩ => ?_⟩
    subst e2
    have := h5 vs h1
    rw [h3] at this
    cases this
    exact ⟨Gr.refl _ _, s, h4⟩
  · obtain ⟨vs, h1, h2⟩ := key g s hy
    exact ⟨vs, h1, by rw [← h2.len]; exact hi⟩
theorem Wk_tup {l : Addr} {xs : List PV} {stay : List (Nat × List PV)} (r : VR wd.K p H (.tup xs) (.ref l)) : Wk wd ⟨xs, stay⟩ p H (Itt wd.K l) := by
  have key : ∀ {p' : List Addr} {H' : Hp}, Gr p H p' H' → ∃ vs, SqT wd.K H' l vs ∧ VRs wd.K p' H' xs vs := by
    intro p' H' g
    obtain ⟨b, vs, e1, h1, h2⟩ := (r.gr g).tup_inv
    cases e1
    exact ⟨vs, h1, h2⟩
  refine ⟨fun i x p' H' st' e1 g s hy => ?_, fun i p' H' st' hi g s hy => ?_⟩
  · obtain ⟨vs, h1, h2⟩ := key g
    obtain ⟨v, h3, h4⟩ := Paired.at' h2.paired e1
    refine ⟨⟨vs, v, h1, h3⟩, fun w H2 ⟨e2, h5⟩ => ?_⟩
    subst e2
    have := h5 vs h1
    rw [h3] at this
    cases this
    exact ⟨Gr.refl _ _, s, h4⟩
  · obtain ⟨vs, h1, h2⟩ := key g
    exact ⟨vs, h1, by rw [← h2.len]; exact hi⟩
theorem Wk_str {z : List Nat} {stay : List (Nat × List PV)} : Wk wd ⟨z.map fun c => .str [c], stay⟩ p H (Its ⟨z.toArray⟩) := by
  refine ⟨fun i x p' H' st' e1 g s hy => ?_, fun i p' H' st' hi g s hy => ?_⟩
  · rw [List.getElem?_map] at e1
    obtain ⟨k, hk, rfl⟩ := Option.map_eq_some_iff.mp e1
    obtain ⟨hl, _⟩ := List.getElem?_eq_some_iff.mp hk
    refine ⟨by show i < z.toArray.size; simpa using hl, fun w H2 ⟨e2, k', h5, h6⟩ => ?_⟩
    subst e2 h6
    have h7 : z[i]? = some k' := by simpa using h5
    rw [hk] at h7
    cases h7
    exact ⟨Gr.refl _ _, s, by unfold VR; rfl⟩
  · rw [List.length_map] at hi
    show z.toArray.size ≤ i
    simpa using hi
theorem rng_at {lo d : Int} {m i : Nat} {x : PV} (h : (rngI lo d m)[i]? = some x) : i < m ∧ x = .int (lo + (i : Int) * d) := by
  unfold rngI at h
  rw [List.getElem?_map] at h
  obtain ⟨k, hk, rfl⟩ := Option.map_eq_some_iff.mp h
  obtain ⟨hl, e⟩ := List.getElem?_eq_some_iff.mp hk
  rw [List.length_range] at hl
  rw [List.getElem_range] at e
  subst e
  exact ⟨hl, rfl⟩
theorem rng_len (lo d : Int) (m : Nat) : (rngI lo d m).length = m := by
  unfold rngI
  rw [List.length_map, List.length_range]
theorem Wk_rng {lo : Int} {m : Nat} {stay : List (Nat × List PV)} : Wk wd ⟨rngI lo 1 m, stay⟩ p H (Itr lo m) := by
  refine ⟨fun i x p' H' st' e1 g s hy => ?_, fun i p' H' st' hi g s hy => ?_⟩
  · obtain ⟨h1, rfl⟩ := rng_at e1
    refine ⟨h1, fun w H2 ⟨e2, e3⟩ => ?_⟩
    subst e2 e3
    rw [Int.mul_one]
    exact ⟨Gr.refl _ _, s, .int'⟩
  · rw [rng_len] at hi
    exact hi
theorem Wk_rngC {lo d : Int} {m : Nat} {stay : List (Nat × List PV)} : Wk wd ⟨rngI lo d m, stay⟩ p H (Itc lo d m) := by
  refine ⟨fun i x p' H' st' e1 g s hy => ?_, fun i p' H' st' hi g s hy => ?_⟩
  · obtain ⟨h1, rfl⟩ := rng_at e1
    refine ⟨h1, fun w H2 ⟨e2, e3⟩ => ?_⟩
    subst e2 e3
    exact ⟨Gr.refl _ _, s, .int'⟩
  · rw [rng_len] at hi
    exact hi
theorem enum_at : ∀ {xs : List PV} {m i : Nat} {x : PV}, (enumI m xs)[i]? = some x → ∃ y, xs[i]? = some y ∧ x = .tup [.int ((m + i : Nat) : Int), y]
  | [], _, _, _, h => by simp [enumI] at h
  | y :: ys, m, 0, x, h => by
    simp [enumI] at h
    exact ⟨y, rfl, by rw [← h]; rfl⟩
  | y :: ys, m, i + 1, x, h => by
    have h' : (enumI (m + 1) ys)[i]? = some x := by simpa [enumI] using h
    obtain ⟨z, h1, h2⟩ := enum_at h'
    refine ⟨z, by simpa using h1, ?_⟩
    rw [h2, show m + 1 + i = m + (i + 1) by omega]
theorem enum_len : ∀ (xs : List PV) (m : Nat), (enumI m xs).length = xs.length
  | [], _ => rfl
  | _ :: xs, m => by
    unfold enumI
    rw [List.length_cons, List.length_cons, enum_len]
theorem VRs.pair {K : PySem.W.Frag} {p : List Addr} {H : Hp} {x y : PV} {v w : V} (h1 : VR K p H x v) (h2 : VR K p H y w) : VRs K p H [x, y] [v, w] := .of (.cons h1 (.cons h2 .nil))
theorem Wk_enum {a : PV} {l : Addr} {xs : List PV} (r : VR wd.K p H a (.ref l)) (e : listOf st a = some xs) : Wk wd ⟨enumI 0 xs, stayOf a xs⟩ p H (Ite wd.K l) := by
  have key : ∀ {p' : List Addr} {H' : Hp} {st' : Store}, Gr p H p' H' → StR wd p' H' st' → stays st' (stayOf a xs) → ∃ vs, SqL wd.K H' l vs ∧ VRs wd.K p' H' xs vs := by
    intro p' H' st' g s hy
    obtain ⟨b, vs, e1, h1, h2⟩ := list_ok s (r.gr g) (list_stay e hy)
    cases e1
    exact ⟨vs, h1, h2⟩
  refine ⟨fun i x p' H' st' e1 g s hy => ?_, fun i p' H' st' hi g s hy => ?_⟩
  · obtain ⟨vs, h1, h2⟩ := key g s hy
    obtain ⟨y, hy1, rfl⟩ := enum_at e1
    obtain ⟨v, h3, h4⟩ := Paired.at' h2.paired hy1
    refine ⟨⟨vs, v, h1, h3⟩, fun w H2 ⟨T, z, e2, hT, e3, h5⟩ => ?_⟩
    subst e2 e3
    have := h5 vs h1
    rw [h3] at this
    cases this
    rw [Nat.zero_add]
    exact ⟨Gr.upd_out s hT, s.upd_out hT, new_tup s hT (VRs.pair .int' h4)⟩
  · obtain ⟨vs, h1, h2⟩ := key g s hy
    rw [enum_len] at hi
    exact ⟨vs, h1, by rw [← h2.len]; exact hi⟩
theorem zip_at : ∀ {xs ys : List PV} {i : Nat} {x : PV}, (zipI xs ys)[i]? = some x → ∃ y z, xs[i]? = some y ∧ ys[i]? = some z ∧ x = .tup [y, z]
  | [], _, _, _, h => by simp [zipI] at h
  | _ :: _, [], _, _, h => by simp [zipI] at h
  | y :: xs, z :: ys, 0, x, h => by
    simp [zipI] at h
    exact ⟨y, z, rfl, rfl, h.symm⟩
  | y :: xs, z :: ys, i + 1, x, h => by
    have h' : (zipI xs ys)[i]? = some x := by simpa [zipI] using h
    obtain ⟨u, w, h1, h2, h3⟩ := zip_at h'
    exact ⟨u, w, by simpa using h1, by simpa using h2, h3⟩
theorem zip_len : ∀ (xs ys : List PV), (zipI xs ys).length = min xs.length ys.length
  | [], _ => by simp [zipI]
  | _ :: _, [] => by simp [zipI]
  | _ :: xs, _ :: ys => by
    unfold zipI
    rw [List.length_cons, List.length_cons, List.length_cons, zip_len]
    omega
theorem Wk_zip {a b : PV} {l l2 : Addr} {xs ys : List PV} (r : VR wd.K p H a (.ref l)) (r2 : VR wd.K p H b (.ref l2)) (e : listOf st a = some xs) (e2 : listOf st b = some ys) : Wk wd ⟨zipI xs ys, stayOf a xs ++ stayOf b ys⟩ p H (Itz wd.K l l2) := by
  have key : ∀ {a : PV} {l : Addr} {xs : List PV}, VR wd.K p H a (.ref l) → listOf st a = some xs → ∀ {p' : List Addr} {H' : Hp} {st' : Store}, Gr p H p' H' → StR wd p' H' st' → stays st' (stayOf a xs) → ∃ vs, SqL wd.K H' l vs ∧ VRs wd.K p' H' xs vs := by
    intro a l xs r e p' H' st' g s hy
    obtain ⟨b, vs, e1, h1, h2⟩ := list_ok s (r.gr g) (list_stay e hy)
    cases e1
    exact ⟨vs, h1, h2⟩
  refine ⟨fun i x p' H' st' e1 g s hy => ?_, fun i p' H' st' hi g s hy => ?_⟩
  · obtain ⟨y1, y2⟩ := stays_app hy
    obtain ⟨vs, h1, h2⟩ := key r e g s y1
    obtain ⟨ws, h1', h2'⟩ := key r2 e2 g s y2
    obtain ⟨y, z, hy1, hz1, rfl⟩ := zip_at e1
    obtain ⟨v, h3, h4⟩ := Paired.at' h2.paired hy1
    obtain ⟨v', h3', h4'⟩ := Paired.at' h2'.paired hz1
    refine ⟨⟨vs, ws, v, v', h1, h1', h3, h3'⟩, fun w H2 ⟨T, q1, q2, e2, hT, e3, h5, h6⟩ => ?_⟩
    subst e2 e3
    have := h5 vs h1
    rw [h3] at this
    cases this
    have := h6 ws h1'
    rw [h3'] at this
    cases this
    exact ⟨Gr.upd_out s hT, s.upd_out hT, new_tup s hT (VRs.pair h4 h4')⟩
  · obtain ⟨y1, y2⟩ := stays_app hy
    obtain ⟨vs, h1, h2⟩ := key r e g s y1
    obtain ⟨ws, h1', h2'⟩ := key r2 e2 g s y2
    have hi' : min xs.length ys.length ≤ i := by rw [← zip_len]; exact hi
    refine ⟨vs, ws, h1, h1', ?_⟩
    rw [← h2.len, ← h2'.len]
    omega
theorem Wk_zipT {l l2 : Addr} {xs ys : List PV} {stay : List (Nat × List PV)} (r : VR wd.K p H (.tup xs) (.ref l)) (r2 : VR wd.K p H (.tup ys) (.ref l2)) : Wk wd ⟨zipI xs ys, stay⟩ p H (RZ.ItzT wd.K l l2) := by
  have key : ∀ {l : Addr} {xs : List PV}, VR wd.K p H (.tup xs) (.ref l) → ∀ {p' : List Addr} {H' : Hp}, Gr p H p' H' → ∃ vs, SqT wd.K H' l vs ∧ VRs wd.K p' H' xs vs := by
    intro l xs r p' H' g
    obtain ⟨b, vs, e1, h1, h2⟩ := (r.gr g).tup_inv
    cases e1
    exact ⟨vs, h1, h2⟩
  refine ⟨fun i x p' H' st' e1 g s hy => ?_, fun i p' H' st' hi g s hy => ?_⟩
  · obtain ⟨vs, h1, h2⟩ := key r g
    obtain ⟨ws, h1', h2'⟩ := key r2 g
    obtain ⟨y, z, hy1, hz1, rfl⟩ := zip_at e1
    obtain ⟨v, h3, h4⟩ := Paired.at' h2.paired hy1
    obtain ⟨v', h3', h4'⟩ := Paired.at' h2'.paired hz1
    refine ⟨⟨vs, ws, v, v', h1, h1', h3, h3'⟩, fun w H2 ⟨T, q1, q2, e2, hT, e3, h5, h6⟩ => ?_⟩
    subst e2 e3
    have := h5 vs h1
    rw [h3] at this
    cases this
    have := h6 ws h1'
    rw [h3'] at this
    cases this
    exact ⟨Gr.upd_out s hT, s.upd_out hT, new_tup s hT (VRs.pair h4 h4')⟩
  · obtain ⟨vs, h1, h2⟩ := key r g
    obtain ⟨ws, h1', h2'⟩ := key r2 g
    have hi' : min xs.length ys.length ≤ i := by rw [← zip_len]; exact hi
    refine ⟨vs, ws, h1, h1', ?_⟩
    rw [← h2.len, ← h2'.len]
    omega
theorem rev_at {xs : List PV} {i : Nat} {x : PV} (h : xs.reverse[i]? = some x) : i < xs.length ∧ xs[xs.length - 1 - i]? = some x := by
  obtain ⟨hl, _⟩ := List.getElem?_eq_some_iff.mp h
  rw [List.length_reverse] at hl
  rw [List.getElem?_reverse hl] at h
  exact ⟨hl, h⟩
theorem Wk_rev {a : PV} {l : Addr} {xs : List PV} (r : VR wd.K p H a (.ref l)) (e : listOf st a = some xs) : Wk wd ⟨xs.reverse, stayOf a xs⟩ p H (Itv wd.K l xs.length) := by
  have key : ∀ {p' : List Addr} {H' : Hp} {st' : Store}, Gr p H p' H' → StR wd p' H' st' → stays st' (stayOf a xs) → ∃ vs, SqL wd.K H' l vs ∧ VRs wd.K p' H' xs vs := by
    intro p' H' st' g s hy
    obtain ⟨b, vs, e1, h1, h2⟩ := list_ok s (r.gr g) (list_stay e hy)
    cases e1
    exact ⟨vs, h1, h2⟩
  refine ⟨fun i x p' H' st' e1 g s hy => ?_, fun i p' H' st' hi g s hy => ?_⟩
  · obtain ⟨vs, h1, h2⟩ := key g s hy
    obtain ⟨hl, e1⟩ := rev_at e1
    obtain ⟨v, h3, h4⟩ := Paired.at' h2.paired e1
    refine ⟨⟨hl, vs, v, h1, h3⟩, fun w H2 ⟨e2, h5⟩ => ?_⟩
    subst e2
    have := h5 vs h1
    rw [h3] at this
    cases this
    exact ⟨Gr.refl _ _, s, h4⟩
  · rw [List.length_reverse] at hi
    exact hi
theorem Wk_revT {l : Addr} {xs : List PV} {stay : List (Nat × List PV)} (r : VR wd.K p H (.tup xs) (.ref l)) : Wk wd ⟨xs.reverse, stay⟩ p H (RT.ItvT wd.K l xs.length) := by
  have key : ∀ {p' : List Addr} {H' : Hp}, Gr p H p' H' → ∃ vs, SqT wd.K H' l vs ∧ VRs wd.K p' H' xs vs := by
    intro p' H' g
    obtain ⟨b, vs, e1, h1, h2⟩ := (r.gr g).tup_inv
    cases e1
    exact ⟨vs, h1, h2⟩
  refine ⟨fun i x p' H' st' e1 g s hy => ?_, fun i p' H' st' hi g s hy => ?_⟩
  · obtain ⟨vs, h1, h2⟩ := key g
    obtain ⟨hl, e1⟩ := rev_at e1
    obtain ⟨v, h3, h4⟩ := Paired.at' h2.paired e1
    refine ⟨⟨hl, vs, v, h1, h3⟩, fun w H2 ⟨e2, h5⟩ => ?_⟩
    subst e2
    have := h5 vs h1
    rw [h3] at this
    cases this
    exact ⟨Gr.refl _ _, s, h4⟩
  · rw [List.length_reverse] at hi
    exact hi
end
end GI
set_option maxRecDepth 10000
set_option maxHeartbeats 4000000
/-! GW: targets, what is walked, comprehensions; the whole of the expressions. -/
namespace GI
open PySem L2
/-! ### targets -/
def setMany : List Nat → List V → St → St
  | i :: is, v :: vs, o => setMany is vs (o.set i (some v))
  | _, _, o => o
theorem bindMany_ok {wd : Wd} {p : List Addr} {H : Hp} : ∀ {is : List Nat} {xs : List PV} {vs : List V} {env env' : Fr} {o : St}, Paired (VR wd.K p H) xs vs → FrR wd p H env o → bindMany is xs env = some env' → vs.length = is.length ∧ FrR wd p H env' (setMany is vs o)
  | [], _, _, _, _, _, .nil, hf, h => by
    cases h
    exact ⟨rfl, hf⟩
  | [], _, _, _, _, _, .cons _ _, hf, h => by cases h
  | _ :: _, _, _, _, _, _, .nil, hf, h => by cases h
  | i :: is, _, _, env, env', o, .cons r t, hf, h => by
    obtain ⟨h1, h2⟩ := bindMany_ok (is := is) t (hf.set r) h
    exact ⟨by rw [List.length_cons, List.length_cons, h1], h2⟩
theorem wipe_set {vs : List Nat} {i : Nat} : ∀ {o : St} {x : Option V}, i ∈ vs → L2.wipe (o.set i x) vs = L2.wipe o vs := by
  induction vs with
  | nil => intro o x h; cases h
  | cons v vs ih =>
    intro o x h
    unfold L2.wipe
    by_cases hi : i ∈ vs
    · rw [ih hi]
    · have e : i = v := by
        rcases List.mem_cons.mp h with z | z
        · exact z
        · exact absurd z hi
      subst e
      have aux : ∀ {ws : List Nat}, i ∉ ws → L2.wipe (o.set i x) ws = (L2.wipe o ws).set i x := by
        intro ws
        induction ws with
        | nil => intro _; rfl
        | cons w ws ih2 =>
          intro hn
          have h1 : w ≠ i := fun e => hn (by rw [e]; exact List.mem_cons_self)
          have h2 : i ∉ ws := fun e => hn (List.mem_cons_of_mem _ e)
          unfold L2.wipe
          rw [ih2 h2, List.set_comm _ _ (Ne.symm h1)]
      rw [aux hi, List.set_set]
theorem wipe_many {vs : List Nat} : ∀ {is : List Nat} {xs : List V} {o : St}, (∀ i ∈ is, i ∈ vs) → L2.wipe (setMany is xs o) vs = L2.wipe o vs
  | [], _, _, _ => by unfold setMany; rfl
  | _ :: _, [], _, _ => by unfold setMany; rfl
  | i :: is, x :: xs, o, h => by
    unfold setMany
    rw [wipe_many fun j hj => h j (List.mem_cons_of_mem _ hj), wipe_set (h i List.mem_cons_self)]
def gMany (is : List Nat) : TGs := fun vs o H Q => vs.length = is.length ∧ Q (setMany is vs o) H
def slotsOf : Tg → List Nat
  | .one i => [i]
  | .tup is => is
/-- binding a target, in a loop or a comprehension -/
def gTg (wd : Wd) (tg : Tg) : TG := fun v o H Q => ∃ env p st x env', FrR wd p H env o ∧ StR wd p H st ∧ VR wd.K p H x v ∧ bindTg tg x env = some env' ∧ ∀ o', FrR wd p H env' o' → (∀ vs, (∀ i ∈ slotsOf tg, i ∈ vs) → L2.wipe o' vs = L2.wipe o vs) → Q o' H
section
variable {c : Cl} {cc : CC} {cx : Ck} {n : Nat} {N : List Str} {X : Cx} {sc : Scope} {W : WX}
theorem Fit.tgt (F : Fit c cc cx n N X sc W) {x : Str} {i : Nat} {pos : Pos} (h : cTgt sc N x = some i) : PG X (.Name x pos) (gName i) ∧ X.N[i]? = some x ∧ L2.Loc X.env.scope x ∧ (X.fn x = true ∨ X.env.scope.names.lookup x = some .local) := by
  unfold cTgt at h
  split at h
  · rename_i hc
    obtain ⟨h1, h2⟩ := Bool.and_eq_true_iff.mp hc
    have hi : X.N[i]? = some x := by rw [F.N_]; exact slot_some h
    have hx : L2.Loc X.env.scope x := by
      rcases loc_of h2 with z | z
      · exact .inl (F.lk' z (by simp))
      · exact .inr (F.lk' z (by simp))
    have hf : X.fn x = true ∨ X.env.scope.names.lookup x = some .local := by
      rcases loc_of h2 with z | z
      · exact .inr (F.lk' z (by simp))
      · exact .inl (F.fnc x z)
    exact ⟨pg_name (by rw [F.N_]; exact F.nd) hi hx hf, hi, hx, hf⟩
  · cases h
theorem names_ok (F : Fit c cc cx n N X sc W) : ∀ {es : List Expr} {l : List (Str × Nat)}, cNames sc N es = some l → PGs X es (gMany (l.map (·.2))) ∧ (assignEach es X.env).length = l.length ∧ (assignEach es X.env).findIdx? (·.1) = none := by
  intro es
  induction es with
  | nil =>
    intro l h
    cases h
    refine ⟨⟨fun pins s o H vs us Q I r q => pgs_nil.run pins s o H vs us Q I r ?_⟩, rfl, rfl⟩
    obtain ⟨h1, h2⟩ := q
    have e : vs = [] := List.eq_nil_of_length_eq_zero h1
    subst e
    exact ⟨rfl, h2⟩
  | cons e es ih =>
    intro l h
    cases e <;> first
      | (cases h; done)
      | skip
    rename_i x pos
    unfold cNames at h
    split at h
    · rename_i i l' h1 h2
      cases h
      obtain ⟨q1, q2, q3⟩ := ih h2
      refine ⟨⟨fun pins s o H vs us Q I r q => (pgs_cons (F.tgt h1).1 q1 (by rfl)).run pins s o H vs us Q I r ?_⟩, ?_, ?_⟩
      · obtain ⟨h3, h4⟩ := q
        cases vs with
        | nil => simp at h3
        | cons v vs => exact ⟨v, vs, rfl, by simpa using h3, h4⟩
      · show (assignEach es X.env).length + 1 = _
        rw [q2]
        rfl
      · show ((false, _) :: assignEach es X.env).findIdx? (·.1) = none
        rw [List.findIdx?_cons]
        simp [q3]
    · cases h
theorem tg_ok (F : Fit c cc cx n N X sc W) {tg : Expr} {t : Tg} {l : List (Str × Nat)} (h : cTg sc N tg = some (t, l)) : PG X tg (gTg (wdX X c) t) ∧ slotsOf t = l.map (·.2) := by
  unfold cTg at h
  split at h
  · rename_i x pos
    obtain ⟨i, h1, e⟩ := Option.map_eq_some_iff.mp h
    cases e
    refine ⟨(F.tgt h1).1.imp fun v o H Q ⟨env, p, st, x, env', hf, hs, r, hb, q⟩ => ?_, rfl⟩
    cases hb
    exact q _ (hf.set r) fun vs hv => wipe_set (hv i (by simp [slotsOf]))
  · rename_i es j pos
    obtain ⟨l', h1, e⟩ := Option.map_eq_some_iff.mp h
    cases e
    obtain ⟨q1, q2, q3⟩ := names_ok F h1
    refine ⟨(pg_tup F.calm q1 q2 q3).imp fun v o H Q ⟨env, p, st, x, env', hf, hs, r, hb, q⟩ => ?_, rfl⟩
    cases x with
    | tup xs =>
      obtain ⟨a, vs, rfl, h2, h3⟩ := r.tup_inv
      obtain ⟨h4, h5⟩ := bindMany_ok h3.paired hf hb
      exact ⟨a, vs, rfl, h2, by rw [h4, List.length_map], h4, q _ h5 fun ws hw => wipe_many fun i hi => hw i (by simpa [slotsOf] using hi)⟩
    | _ => cases hb
  · cases h

/-! ### what is walked -/
theorem cEs_cons {k : Nat} {args : List Expr} {a : E} {r : Es} (h : cEs cc N k sc args = some (.cons a r)) : ∃ e es j, k = j + 1 ∧ args = e :: es ∧ cE cc N j sc e = some a ∧ cEs cc N j sc es = some r := by
  cases args with
  | nil => cases k <;> simp [cEs] at h
  | cons e es =>
    cases k with
    | zero => simp [cEs] at h
    | succ j =>
      unfold cEs at h
      split at h
      · rename_i x es' h1 h2
        cases h
        exact ⟨e, es, j, rfl, rfl, h1, h2⟩
      · cases h
theorem cEs_nil {k : Nat} {args : List Expr} (h : cEs cc N k sc args = some .nil) : args = [] := by
  cases args with
  | nil => rfl
  | cons e es =>
    cases k with
    | zero => simp [cEs] at h
    | succ j =>
      unfold cEs at h
      split at h
      · cases h
      · cases h
theorem I_seq {tg e : Expr} {x : E} (he : PE X e (tE (wdX X c) W (ev cx x))) : PI X tg e (tI (wdX X c) W (evI cx (.seq x))) := by
  refine ⟨fun pins s o H R I ⟨env, p, st, hf, hs, h⟩ => ?_⟩
  rw [evI] at h
  refine thn (he.run pins s o H (fun v H1 => ∃ p1 st1 y, StR (wdX X c) p1 H1 st1 ∧ VR X.K p1 H1 y v ∧ Rd (wdX X c) W o p1 H1 (fun p' H' w J => Wk (wdX X c) w p' H' J) (match y with
    | .str z => .ok ⟨z.map fun c => .str [c], []⟩ st1
    | y => match items st1 y with
      | some xs => .ok ⟨xs, stayOf y xs⟩ st1
      | none => .bad) R) I (tE.go hf hs h fun y st1 p1 H1 v hf1 hs1 r1 g1 q1 => ⟨p1, st1, y, hs1, r1, q1⟩)) fun u s1 ⟨v, H1, I1, r1, p1, st1, y, hs1, ry, q1⟩ => ?_
  cases y with
  | str z =>
    unfold VR at ry
    subst ry
    obtain ⟨t, rfl⟩ := r1
    have q2 := q1 p1 H1 (Its ⟨z.toArray⟩) (Gr.refl _ _) hs1 Wk_str
    cases ha : (⟨z.toArray⟩ : Str).cps.all (· < 128)
    · exact wpAny_pyIter_wide ha (pi_one (tk := s1.toks) I1 _ (turn_str _ ⟨z.toArray⟩ t "str_iterator" (.inr rfl)) ⟨_, Heap.get?_push_size _ rfl, rfl, rfl⟩ q2)
    · exact wpAny_pyIter_ascii ha (pi_one (tk := s1.toks) I1 _ (turn_str _ ⟨z.toArray⟩ t "str_ascii_iterator" (.inl rfl)) ⟨_, Heap.get?_push_size _ rfl, rfl, rfl⟩ q2)
  | tup xs =>
    obtain ⟨a, vs, rfl, h1, h2⟩ := ry.tup_inv
    obtain rfl : u = Value.ref a := r1
    have q2 := q1 p1 H1 (Itt X.K a) (Gr.refl _ _) hs1 (Wk_tup (wd := wdX X c) ry)
    obtain ⟨its, rv, ht, hz⟩ := I1.tuple h1
    exact wpAny_pyIter_tuple (show s1.heap.IsTuple a its.toArray from ht) (pi_one (tk := s1.toks) I1 _ (turn_tuple a _) ⟨_, Heap.get?_push_size _ rfl, rfl, rfl⟩ q2)
  | frl xs =>
    obtain ⟨a, vs, rfl, h1, h2⟩ := list_ok hs1 (x := .frl xs) (xs := xs) ry rfl
    obtain rfl : u = Value.ref a := r1
    have q2 := q1 p1 H1 (Itl X.K a) (Gr.refl _ _) hs1 (Wk_list (wd := wdX X c) (st := st1) ry rfl)
    obtain ⟨its, rv, ht, hz⟩ := I1.list h1
    exact wpAny_pyIter_list ht.isList (pi_one (tk := s1.toks) I1 _ (turn_list a _) ⟨_, Heap.get?_push_size _ rfl, rfl, rfl⟩ q2)
  | ref k =>
    cases hi : items st1 (.ref k) with
    | none =>
      simp only [hi] at q1
      exact q1.elim
    | some xs =>
      simp only [hi] at q1
      have hl : listOf st1 (.ref k) = some xs := hi
      obtain ⟨a, vs, rfl, h1, h2⟩ := list_ok hs1 ry hl
      obtain rfl : u = Value.ref a := r1
      have q2 := q1 p1 H1 (Itl X.K a) (Gr.refl _ _) hs1 (Wk_list (wd := wdX X c) (st := st1) ry hl)
      obtain ⟨its, rv, ht, hz⟩ := I1.list h1
      exact wpAny_pyIter_list ht.isList (pi_one (tk := s1.toks) I1 _ (turn_list a _) ⟨_, Heap.get?_push_size _ rfl, rfl, rfl⟩ q2)
  | non => exact q1.elim
  | bl b => exact q1.elim
  | int b => exact q1.elim
theorem in62_of {i : Int} (h : in62 i = true) : -(2 ^ 62) ≤ i ∧ i < 2 ^ 62 := of_decide_eq_true h
theorem I_ok {k : Nat} (S : ∀ j, j ≤ k → Snd c cc cx n N j) (F : Fit c cc cx n N X sc W) {tg e : Expr} {ir : It} (h : cI cc N (k + 1) sc (isTupE tg) e = some ir) : PI X tg e (tI (wdX X c) W (evI cx ir)) ∧ ∀ x, foldedSetIterable e X.env x = pure x := by
  have seqC : ∀ {e : Expr} {ir : It}, (cE cc N k sc e).map It.seq = some ir → PI X tg e (tI (wdX X c) W (evI cx ir)) ∧ ∀ x, foldedSetIterable e X.env x = pure x := by
    intro e ir h
    obtain ⟨x, h1, rfl⟩ := Option.map_eq_some_iff.mp h
    exact ⟨I_seq ((S k (Nat.le_refl _)).E h1 F), cE_folded h1 _⟩
  unfold cI at h
  split at h
  · cases h
  · rename_i f q args pos e2
    cases e2
    split at h
    · rename_i hc
      refine ⟨?_, fun x => rfl⟩
      simp only [Bool.and_eq_true] at hc
      obtain ⟨⟨hg, hfn⟩, hnm⟩ := hc
      obtain ⟨g1, g2, g3⟩ := F.gl' hg
      have mgN : ∀ z : Str, z ∈ bNames → (f == z) = true → X.mg f = none := fun z hz e => F.nb f (by rw [show f = z from by simpa using e]; exact hz)
      split at h
      · rename_i a ha
        obtain ⟨e, es, j, rfl, rfl, h1, h2⟩ := cEs_cons ha
        have e0 := cEs_nil h2
        subst e0
        have hE := (S j (by omega)).E h1 F
        have st1 := cE_star h1 [] X.env
        split at h
        · rename_i hr
          have e0 : f = "range" := by simpa using hr
          subst e0
          cases h
          refine (pi_range1 g1 (F.nb _ (by decide)) (pa_cons hE pa_nil st1) st1).imp fun o H R ⟨env, p, st, hf, hs, q⟩ => ?_
          rw [evI] at q
          refine tE.go hf hs q fun y st1 p1 H1 v hf1 hs1 r1 g1 q1 => ?_
          cases y with
          | int i =>
            simp only at q1
            split at q1
            · rename_i hin
              unfold VR at r1
              subst r1
              exact ⟨i, rfl, (in62_of hin).1, (in62_of hin).2, q1 p1 H1 _ (Gr.refl _ _) hs1 Wk_rng⟩
            · exact q1.elim
          | _ => exact q1.elim
        split at h
        · rename_i hr
          obtain ⟨hr1, hr2⟩ := Bool.and_eq_true_iff.mp hr
          have e0 : f = "enumerate" := by simpa using hr1
          subst e0
          cases h
          cases tg <;> first
            | (exact absurd (show false = true from hr2) (by simp))
            | skip
          rename_i elts kk tpos
          refine (pi_enum g1 (F.nb _ (by decide)) (pa_cons hE pa_nil st1) st1).imp fun o H R ⟨env, p, st, hf, hs, q⟩ => ?_
          rw [evI] at q
          refine tE.go hf hs q fun y st1 p1 H1 v hf1 hs1 r1 g1 q1 => ?_
          split at q1
          · rename_i xs hx
            obtain ⟨l, vs, rfl, hq, hv⟩ := list_ok hs1 r1 hx
            exact ⟨l, vs, rfl, hq, q1 p1 H1 _ (Gr.refl _ _) hs1 (Wk_enum r1 hx)⟩
          · exact q1.elim
        split at h
        · rename_i hr
          have e0 : f = "reversed" := by simpa using hr
          subst e0
          cases h
          refine (RT.pi_revA g1 (F.nb _ (by decide)) hE st1).imp fun o H R ⟨env, p, st, hf, hs, q⟩ => ?_
          rw [evI] at q
          refine tE.go hf hs q fun y st1 p1 H1 v hf1 hs1 r1 g1 q1 => ?_
          split at q1
          · rename_i xs hx
            cases y with
            | tup ys =>
              cases hx
              obtain ⟨l, vs, rfl, hq, hv⟩ := r1.tup_inv
              exact ⟨l, vs, rfl, .inr ⟨hq, by rw [← hv.len]; exact q1 p1 H1 _ (Gr.refl _ _) hs1 (Wk_revT r1)⟩⟩
            | frl ys =>
              obtain ⟨l, vs, rfl, hq, hv⟩ := list_ok hs1 (x := .frl ys) r1 hx
              exact ⟨l, vs, rfl, .inl ⟨hq, by rw [← hv.len]; exact q1 p1 H1 _ (Gr.refl _ _) hs1 (Wk_rev (st := st1) (a := .frl ys) r1 hx)⟩⟩
            | ref ys =>
              obtain ⟨l, vs, rfl, hq, hv⟩ := list_ok hs1 (x := .ref ys) r1 hx
              exact ⟨l, vs, rfl, .inl ⟨hq, by rw [← hv.len]; exact q1 p1 H1 _ (Gr.refl _ _) hs1 (Wk_rev (st := st1) (a := .ref ys) r1 hx)⟩⟩
            | _ => cases hx
          · exact q1.elim
        · cases h
      · rename_i a b ha
        obtain ⟨e, es, j, rfl, rfl, h1, h2⟩ := cEs_cons ha
        obtain ⟨e', es', j', rfl, rfl, h1', h2'⟩ := cEs_cons h2
        have e0 := cEs_nil h2'
        subst e0
        have hE := (S _ (by omega)).E h1 F
        have hE' := (S _ (by omega)).E h1' F
        have st1 := cE_star h1 [e'] X.env
        have st2 := cE_star h1' [] X.env
        have hA := pa_cons hE (pa_cons hE' pa_nil st2) st1
        split at h
        · rename_i hr
          have e0 : f = "range" := by simpa using hr
          subst e0
          cases h
          refine (pi_range2 g1 (F.nb _ (by decide)) hA (by rw [st1, st2]; rfl) st2).imp fun o H R ⟨env, p, st, hf, hs, q⟩ => ?_
          rw [evI] at q
          refine tE.go hf hs q fun y st1 p1 H1 v hf1 hs1 r1 g1 q1 => ?_
          refine tE.go hf1 hs1 q1 fun y2 st2 p2 H2 v2 hf2 hs2 r2 g2 q2 => ?_
          cases y with
          | int i =>
            cases y2 with
            | int i2 =>
              simp only at q2
              split at q2
              · rename_i hin
                obtain ⟨b1, b2⟩ := Bool.and_eq_true_iff.mp hin
                unfold VR at r1 r2
                subst r1 r2
                exact ⟨i, i2, rfl, ⟨(in62_of b1).1, (in62_of b1).2, (in62_of b2).1, (in62_of b2).2⟩, q2 p2 H2 _ (Gr.refl _ _) hs2 Wk_rng⟩
              · exact q2.elim
            | _ => exact q2.elim
          | _ => exact q2.elim
        split at h
        · rename_i hr
          obtain ⟨hr1, hr2⟩ := Bool.and_eq_true_iff.mp hr
          have e0 : f = "zip" := by simpa using hr1
          subst e0
          cases h
          cases tg <;> first
            | (exact absurd (show false = true from hr2) (by simp))
            | skip
          rename_i elts kk tpos
          have sp : (backTo pos (starEach [e'] X.env)).any (·.1) = false := by
            rw [st2]
            rfl
          refine (RZ.pi_zipA g1 (F.nb _ (by decide)) hA st1 sp).imp fun o H R ⟨env, p, st, hf, hs, q⟩ => ?_
          rw [evI] at q
          refine tE.go hf hs q fun y st1 p1 H1 v hf1 hs1 r1 g1 q1 => ?_
          refine tE.go hf1 hs1 q1 fun y2 st2 p2 H2 v2 hf2 hs2 r2 g2 q2 => ?_
          have lz : ∀ {u v3 : PV} {xs ys : List PV} {w w2 : V}, VR X.K p2 H2 u w → VR X.K p2 H2 v3 w2 → listOf st2 u = some xs → listOf st2 v3 = some ys → Rd (wdX X c) W o p2 H2 (fun p' H' w J => Wk (wdX X c) w p' H' J) (.ok ⟨zipI xs ys, stayOf u xs ++ stayOf v3 ys⟩ st2) R →
              ∃ a b xs ys, [w, w2] = [V.ref a, V.ref b] ∧ ((SqL X.K H2 a xs ∧ SqL X.K H2 b ys ∧ R (Itz X.K a b) H2) ∨ (SqT X.K H2 a xs ∧ SqT X.K H2 b ys ∧ R (RZ.ItzT X.K a b) H2)) := by
            intro u v3 xs ys w w2 ru rv hu hv q
            obtain ⟨l, vs, rfl, hq, hv1⟩ := list_ok hs2 ru hu
            obtain ⟨l2, vs2, rfl, hq2, hv2⟩ := list_ok hs2 rv hv
            exact ⟨l, l2, vs, vs2, rfl, .inl ⟨hq, hq2, q p2 H2 _ (Gr.refl _ _) hs2 (Wk_zip ru rv hu hv)⟩⟩
          have r1' := r1.gr g2
          split at q2
          · obtain ⟨l, vs, rfl, hq, hv⟩ := r1'.tup_inv
            obtain ⟨l2, vs2, rfl, hq2, hv2⟩ := r2.tup_inv
            exact ⟨l, l2, vs, vs2, rfl, .inr ⟨hq, hq2, q2 p2 H2 _ (Gr.refl _ _) hs2 (Wk_zipT r1' r2)⟩⟩
          · split at q2
            · rename_i xs ys hx hy
              exact lz r1' r2 hx hy q2
            · exact q2.elim
        · cases h
      · rename_i a b d ha
        obtain ⟨e, es, j, rfl, rfl, h1, h2⟩ := cEs_cons ha
        obtain ⟨e', es', j', rfl, rfl, h1', h2'⟩ := cEs_cons h2
        obtain ⟨e3, es3, j3, rfl, rfl, h13, h23⟩ := cEs_cons h2'
        have e0 := cEs_nil h23
        subst e0
        have hE := (S _ (by omega)).E h1 F
        have hE' := (S _ (by omega)).E h1' F
        have hE3 := (S _ (by omega)).E h13 F
        have st1 := cE_star h1 [e', e3] X.env
        have st2 := cE_star h1' [e3] X.env
        have st3 := cE_star h13 [] X.env
        have hA := pa_cons hE (pa_cons hE' (pa_cons hE3 pa_nil st3) st2) st1
        split at h
        · rename_i hr
          have e0 : f = "range" := by simpa using hr
          subst e0
          cases h
          have sp : (backTo pos (starEach [e', e3] X.env)).any (·.1) = false := by
            rw [st2, st3]
            rfl
          refine (pi_range3 g1 (F.nb _ (by decide)) hA st1 sp).imp fun o H R ⟨env, p, st, hf, hs, q⟩ => ?_
          rw [evI] at q
          refine tE.go hf hs q fun y st1 p1 H1 v hf1 hs1 r1 g1 q1 => ?_
          refine tE.go hf1 hs1 q1 fun y2 st2 p2 H2 v2 hf2 hs2 r2 g2 q2 => ?_
          refine tE.go hf2 hs2 q2 fun y3 st3 p3 H3 v3 hf3 hs3 r3 g3 q3 => ?_
          cases y with
          | int i =>
            cases y2 with
            | int i2 =>
              cases y3 with
              | int i3 =>
                simp only at q3
                split at q3
                · rename_i hin
                  simp only [Bool.and_eq_true] at hin
                  obtain ⟨⟨b1, b2⟩, b3⟩ := hin
                  have e3 : i3 = -1 := by simpa using b3
                  subst e3
                  unfold VR at r1 r2 r3
                  subst r1 r2 r3
                  exact ⟨i, i2, -1, (i - i2).toNat, rfl, RgC.neg (in62_of b1).1 (in62_of b1).2 (in62_of b2).1 (in62_of b2).2, q3 p3 H3 _ (Gr.refl _ _) hs3 Wk_rngC⟩
                · exact q3.elim
              | _ => exact q3.elim
            | _ => exact q3.elim
          | _ => exact q3.elim
        · cases h
      · cases h
    · exact seqC h
  · rename_i e2 _
    cases e2
    exact seqC h
end
end GI
set_option maxRecDepth 10000
set_option maxHeartbeats 4000000
/-! GV: comprehensions; the whole of the expressions. -/
namespace GI
open PySem L2
section
variable {c : Cl} {cc : CC} {cx : Ck} {n : Nat} {N : List Str} {X : Cx} {sc : Scope} {W : WX}
/-- nothing is raised within a comprehension -/
abbrev W0 : WX := fun _ _ _ _ => False
theorem Fit.lkB (F : Fit c cc cx n N X sc W) {scope : Scope} {cl : List (Str × Addr)} {C : Addr} : ∀ x k, scope.names.lookup x = some k → (compEnvC scope cl C X.env).scope.names.lookup x = some k ∨ (k = .free ∧ (compEnvC scope cl C X.env).scope.names.lookup x = some .cell) := by
  have aux : ∀ (f : Str × NameKind → Str × NameKind), (∀ m k, f (m, k) = (m, k) ∨ (k = .free ∧ f (m, k) = (m, .cell))) → ∀ (names : List (Str × NameKind)) (x : Str) (k : NameKind), names.lookup x = some k → (names.map f).lookup x = some k ∨ (k = .free ∧ (names.map f).lookup x = some .cell) := by
    intro f hf names x k
    induction names with
    | nil => intro h; cases h
    | cons y r ih =>
      obtain ⟨m, k0⟩ := y
      intro h
      rw [List.map_cons]
      rcases hf m k0 with e | ⟨e1, e⟩
      · rw [e]
        cases hx : x == m with
        | true =>
          simp only [List.lookup_cons, hx] at h ⊢
          exact .inl h
        | false =>
          simp only [List.lookup_cons, hx] at h ⊢
          exact ih h
      · rw [e]
        cases hx : x == m with
        | true =>
          simp only [List.lookup_cons, hx] at h ⊢
          cases h
          exact .inr ⟨e1, trivial⟩
        | false =>
          simp only [List.lookup_cons, hx] at h ⊢
          exact ih h
  intro x k h
  refine aux (fun (m, k) => if (k == NameKind.free && X.env.scope.kind == .function && X.env.kindOf m == some .cell) then (m, NameKind.cell) else (m, k)) (fun m k => ?_) scope.names x k h
  by_cases hc : (k == NameKind.free && X.env.scope.kind == .function && X.env.kindOf m == some .cell) = true
  · refine .inr ⟨?_, if_pos hc⟩
    simp only [Bool.and_eq_true, beq_iff_eq] at hc
    exact hc.1.1
  · exact .inl (if_neg hc)
theorem Fit.blk (F : Fit c cc cx n N X sc W) {scope : Scope} {s : Shared} {H : Hp} {cl : List (Str × Addr)} {C : Addr} {fp : List Addr} : Fit c cc cx n N (X.blk s H scope (compEnvC scope cl C X.env) fp) scope W0 :=
  ⟨F.N_, F.nd, Fit.lkB F, F.calm, F.room, takes0, fun x h => by
    show (scope.names.lookup x == some .cell) = true
    rw [h]
    rfl, F.nb, F.gl, F.fns⟩
theorem Rd.noexc {α β : Type} {wd : Wd} {W : WX} {o : St} {p : List Addr} {H : Hp} {rel : List Addr → Hp → α → β → Prop} {a : α} {st : Store} {Q : β → Hp → Prop} (h : Rd wd W o p H rel (.ok a st) Q) : Rd wd W0 o p H rel (.ok a st) Q := h
/-- the list of a comprehension that grows at D -/
structure Acc (wd : Wd) (p0 : List Addr) (H0 : Hp) (p : List Addr) (H : Hp) (D : Addr) (acc : List PV) : Prop where
  gr : Gr p0 H0 p H
  new : H0 D = none
  out : D ∉ p
  at_ : ∃ vs, H D = some (.lst vs) ∧ VRs wd.K p H acc vs
theorem Acc.step {wd : Wd} {p0 p p' : List Addr} {H0 H H' : Hp} {D : Addr} {acc : List PV} (A : Acc wd p0 H0 p H D acc) (g : Gr p H p' H') : Acc wd p0 H0 p' H' D acc := by
  obtain ⟨vs, h1, h2⟩ := A.at_
  refine ⟨A.gr.trans g, A.new, fun h => ?_, vs, g.out D _ A.out h1, h2.gr g⟩
  have := g.new D h A.out
  rw [h1] at this
  cases this
/-- an object that is no cell and no tuple is changed -/
theorem Gr.alter {p : List Addr} {H : Hp} {D : Addr} {vs ws : List V} (h : H D = some (.lst vs)) : ∀ a xs, H a = some (.tup xs) → (upd H D (.lst ws)) a = some (.tup xs) := fun a xs e => by
  rw [upd_ne (ne_of e h (fun z => by cases z))]
  exact e
theorem VR.alter {wd : Wd} {p : List Addr} {H : Hp} {D : Addr} {vs ws : List V} (h : H D = some (.lst vs)) (x : PV) : ∀ {v : V}, VR wd.K p H x v → VR wd.K p (upd H D (.lst ws)) x v := by
  refine PV.rec (motive_1 := fun x => ∀ {v : V}, VR wd.K p H x v → VR wd.K p (upd H D (.lst ws)) x v) (motive_2 := fun xs => ∀ {vs : List V}, VRs wd.K p H xs vs → VRs wd.K p (upd H D (.lst ws)) xs vs) ?_ ?_ ?_ ?_ ?_ ?_ ?_ ?_ ?_ x
  · intro v h; unfold VR at h ⊢; exact h
  · intro b v h; unfold VR at h ⊢; exact h
  · intro b v h; unfold VR at h ⊢; exact h
  · intro b v h; unfold VR at h ⊢; exact h
  · intro xs ih v h0
    unfold VR at h0 ⊢
    obtain ⟨b, us, e, h1, h2⟩ := h0
    refine ⟨b, us, e, ?_, ih h2⟩
    rcases h1 with (h1 | ⟨o, h1⟩) | h1
    · exact .inl (.inl (Gr.alter (p := p) h _ _ h1))
    · exact .inl (.inr ⟨o, by rw [upd_ne (ne_of h1 h (fun z => by cases z))]; exact h1⟩)
    · exact .inr h1
  · intro xs ih v h0
    unfold VR at h0 ⊢
    obtain ⟨b, us, e, h1, h2⟩ := h0
    refine ⟨b, us, e, ?_, ih h2⟩
    rcases h1 with ⟨o, h1⟩ | h1
    · exact .inl ⟨o, by rw [upd_ne (ne_of h1 h (fun z => by cases z))]; exact h1⟩
    · exact .inr h1
  · intro k v h; unfold VR at h ⊢; exact h
  · intro vs h; unfold VRs at h ⊢; exact h
  · intro x xs i1 i2 vs h
    unfold VRs at h ⊢
    obtain ⟨v, r, e, h1, h2⟩ := h
    exact ⟨v, r, e, i1 h1, i2 h2⟩
theorem VRs.alter {wd : Wd} {p : List Addr} {H : Hp} {D : Addr} {vs ws : List V} (h : H D = some (.lst vs)) {xs : List PV} {us : List V} (r : VRs wd.K p H xs us) : VRs wd.K p (upd H D (.lst ws)) xs us := .of (Paired.mapP r.paired fun x _ z => VR.alter h x z)
theorem StR.alter {wd : Wd} {p : List Addr} {H : Hp} {st : Store} {D : Addr} {vs ws : List V} (s : StR wd p H st) (h : H D = some (.lst vs)) (n : D ∉ p) : StR wd p (upd H D (.lst ws)) st := by
  refine ⟨s.len, s.nd, fun k cell a e1 e2 => ?_⟩
  have ne : a ≠ D := fun z => n (z ▸ List.mem_of_getElem? e2)
  have q := s.cell k cell a e1 e2
  cases cell with
  | lst xs =>
    obtain ⟨us, h1, h2⟩ := q
    exact ⟨us, by rw [upd_ne ne]; exact h1, VRs.alter h h2⟩
  | dct kvs => exact q
  | ins cl fs =>
    obtain ⟨C, dx, us, h0, h1, h2⟩ := q
    exact ⟨C, dx, us, h0, by rw [upd_ne ne]; exact h1, Paired.mapP h2 fun x _ z => ⟨z.1, VR.alter h _ z.2⟩⟩
theorem FrR.alter {wd : Wd} {p : List Addr} {H : Hp} {env : Fr} {o : St} {D : Addr} {vs ws : List V} (f : FrR wd p H env o) (h : H D = some (.lst vs)) : FrR wd p (upd H D (.lst ws)) env o := ⟨f.len, fun i x e => by
  obtain ⟨v, h1, h2⟩ := f.at_ i x e
  exact ⟨v, h1, VR.alter h x h2⟩⟩
theorem Acc.put {wd : Wd} {p0 p : List Addr} {H0 H : Hp} {D : Addr} {acc : List PV} {x : PV} {v : V} {vs : List V} (A : Acc wd p0 H0 p H D acc) (h : H D = some (.lst vs)) (hv : VRs wd.K p H acc vs) (r : VR wd.K p H x v) : Acc wd p0 H0 p (upd H D (.lst (vs ++ [v]))) D (acc ++ [x]) := by
  refine ⟨⟨A.gr.ext, fun a xs e => ?_, fun a ob u e => ?_, fun a ob hn e => ?_, A.gr.new⟩, A.new, A.out, _, upd_same, VRs.alter h (.of (Paired.app' hv.paired (.cons r .nil)))⟩
  · rw [upd_ne (ne_of_none e A.new)]
    exact A.gr.tup _ _ e
  · rw [upd_ne (ne_of_none e A.new)]
    exact A.gr.frz _ _ _ e
  · rw [upd_ne (ne_of_none e A.new)]
    exact A.gr.out _ _ hn e
theorem wipe_idem {vs : List Nat} {o : St} : ∀ {ws : List Nat}, (∀ w ∈ ws, w ∈ vs) → L2.wipe (L2.wipe o ws) vs = L2.wipe o vs
  | [], _ => rfl
  | w :: ws, h => by
    have e : L2.wipe o (w :: ws) = (L2.wipe o ws).set w none := rfl
    rw [e, wipe_set (h w List.mem_cons_self)]
    exact wipe_idem fun v hv => h v (List.mem_cons_of_mem _ hv)
theorem keeps_of {w : List (Nat × List PV)} {st : Store} (h : keeps w st = true) : stays st w := by
  classical
  unfold keeps at h
  simpa using h
/-- the walk of a comprehension -/
theorem comp_go {wd : Wd} {own : List Nat} {tg : Tg} {ce el : Fr → Store → Res PV} {tt : TT} {te : TE} {J : L2.It} {w : Walk} {env : Fr} {o : St} {p0 : List Addr} {H0 : Hp} {st0 : Store} {Q : VK}
    (hown : ∀ i ∈ slotsOf tg, i ∈ own) (htt : ∀ o H Q, tT wd W0 ce o H Q → tt o H Q) (hte : ∀ o H Q, tE wd W0 el o H Q → te o H Q)
    (hf0 : FrR wd p0 H0 env o) (hs0 : StR wd p0 H0 st0) (hw : Wk wd w p0 H0 J) (h : Rd wd W o p0 H0 (vr wd) (compL w.stay tg ce el (wipeE env own) w.its [] st0) Q) :
    ∀ D, H0 D = none → ∃ Iv : Nat → Nat → Hp → Prop, (∃ m, Iv 0 m (upd H0 D (.lst []))) ∧ ∀ i m H, Iv i m H →
      (J.stop i H ∧ Q (.ref D) H) ∨ (J.go i H ∧ ∃ Nx : Hp → Prop, (∀ H', Nx H' → ∃ m', m' < m ∧ Iv (i + 1) m' H') ∧ ∀ x H', J.yld i H x H' → gTg wd tg x (L2.wipe o own) H' fun o2 H2 => L2.wipe o2 own = L2.wipe o own ∧ tt o2 H2 fun b H3 =>
        if b = true then te o2 H3 fun y H4 => ∃ acc, H4 D = some (.lst acc) ∧ acc.length < sizeLine ∧ Nx (upd H4 D (.lst (acc ++ [y]))) else Nx H3) := by
  intro D hD
  refine ⟨fun i m H => ∃ p st acc rest, w.its.drop i = rest ∧ m = rest.length ∧ Acc wd p0 H0 p H D acc ∧ StR wd p H st ∧ FrR wd p H env o ∧ Rd wd W o p0 H0 (vr wd) (compL w.stay tg ce el (wipeE env own) rest acc st) Q, ⟨w.its.length, p0, st0, [], w.its, by simp, rfl, ?_, hs0.upd_out hD, hf0.gr (Gr.upd_out hs0 hD), h⟩, ?_⟩
  · refine ⟨Gr.upd_out hs0 hD, hD, fun hp => ?_, [], upd_same, by unfold VRs; rfl⟩
    obtain ⟨ob, ho, _⟩ := hs0.some_ hp
    rw [hD] at ho
    cases ho
  · rintro i m H ⟨p, st, acc, rest, hr, rfl, A, hs, hf, q⟩
    obtain ⟨vs, hv1, hv2⟩ := A.at_
    cases rest with
    | nil =>
      unfold compL at q
      split at q
      · rename_i hk
        have hi : w.its.length ≤ i := by
          have := congrArg List.length hr
          rw [List.length_drop] at this
          simp at this
          omega
        exact .inl ⟨hw.stop i p H st hi A.gr hs (keeps_of hk), q (p ++ [D]) H _ (Gr.push (st := st) (wd := wd) hs A.out A.gr hD) (hs.push A.out ⟨vs, hv1, hv2⟩) (VR.new hs D H)⟩
      · exact q.elim
    | cons x r =>
      unfold compL at q
      split at q
      · rename_i hk
        have hx : w.its[i]? = some x := by
          have e : (w.its.drop i)[0]? = some x := by rw [hr]; rfl
          rw [List.getElem?_drop] at e
          simpa using e
        have hr' : w.its.drop (i + 1) = r := by
          have e : (w.its.drop i).drop 1 = r := by rw [hr]; rfl
          rw [List.drop_drop] at e
          exact e
        obtain ⟨g1, g2⟩ := hw.go i x p H st hx A.gr hs (keeps_of hk)
        refine .inr ⟨g1, fun H' => ∃ p st acc, Acc wd p0 H0 p H' D acc ∧ StR wd p H' st ∧ FrR wd p H' env o ∧ Rd wd W o p0 H0 (vr wd) (compL w.stay tg ce el (wipeE env own) r acc st) Q, fun H' ⟨p', st', acc', A', s', f', q'⟩ => ⟨r.length, by simp, p', st', acc', r, hr', rfl, A', s', f', q'⟩, fun v H2 hy => ?_⟩
        obtain ⟨gr2, s2, rx⟩ := g2 v H2 hy
        split at q
        · exact q.elim
        · rename_i env' hb
          have f2 := (hf.gr gr2).wipe own
          refine ⟨wipeE env own, p, st, x, env', f2, s2, rx, hb, fun o' fo hwp => ⟨by rw [hwp own hown, wipe_idem fun _ z => z], htt _ _ _ ⟨env', p, st, fo, s2, ?_⟩⟩⟩
          cases hc : ce env' st with
          | ok z st1 =>
            rw [hc] at q
            cases z with
            | bl b =>
              intro p3 H3 b' g3 s3 eb
              cases eb
              have A3 := (A.step gr2).step g3
              cases b with
              | true =>
                rw [if_pos rfl]
                refine hte _ _ _ ⟨env', p3, st1, fo.gr g3, s3, ?_⟩
                simp only at q
                cases he : el env' st1 with
                | ok u st2 =>
                  rw [he] at q
                  simp only at q
                  split at q
                  · rename_i hl
                    intro p4 H4 y g4 s4 ry
                    have A4 := A3.step g4
                    obtain ⟨vs4, w1, w2⟩ := A4.at_
                    refine ⟨vs4, w1, by rw [← w2.len]; exact hl, p4, st2, acc ++ [u], A4.put w1 w2 ry, s4.alter w1 A4.out, ((((hf.gr gr2).gr g3).gr g4)).alter w1, q⟩
                  · exact q.elim
                | exc u st2 =>
                  rw [he] at q
                  exact q.elim
                | bad =>
                  rw [he] at q
                  exact q.elim
              | false =>
                rw [if_neg Bool.false_ne_true]
                exact ⟨p3, st1, acc, A3, s3, (hf.gr gr2).gr g3, q⟩
            | _ => exact q.elim
          | exc z st1 =>
            rw [hc] at q
            exact q.elim
          | bad =>
            rw [hc] at q
            exact q.elim
      · exact q.elim
theorem own_sub {tg : Expr} {t : Tg} {l : List (Str × Nat)} (h : cTg sc N tg = some (t, l)) : ∀ i ∈ slotsOf t, i ∈ l.map (·.2) := by
  unfold cTg at h
  split at h
  · obtain ⟨i, h1, e⟩ := Option.map_eq_some_iff.mp h
    cases e
    intro i hi
    simpa [slotsOf] using hi
  · obtain ⟨l', h1, e⟩ := Option.map_eq_some_iff.mp h
    cases e
    intro i hi
    simpa [slotsOf] using hi
  · cases h
theorem Fit.blkOk (F : Fit c cc cx n N X sc W) {scope : Scope} {own : List (Str × Nat)} (h : blkC N sc scope own = true) : BlkOk X.N X.env.scope scope own := by
  have B := blkOk_by h
  rw [F.N_]
  refine ⟨B.kind, B.uniq, B.ix, fun y hy e => ?_, B.own⟩
  rcases B.free y hy e with z | z
  · exact .inl (F.lk' z (by simp))
  · rcases F.lk _ _ z with q | ⟨_, q⟩
    · exact .inr q
    · exact .inl q
theorem tI.to {o : St} {H : Hp} {wd : Wd} {m : Fr → Store → Res Walk} {g : Walk → Fr → Store → Res PV} {Q : VK} {R : L2.It → Hp → Prop} (h : tE wd W (fun env st => (m env st).bind fun w st1 => g w env st1) o H Q)
    (k : ∀ w env p1 H1 st1 J, FrR wd p1 H1 env o → StR wd p1 H1 st1 → Wk wd w p1 H1 J → Rd wd W o p1 H1 (vr wd) (g w env st1) Q → R J H1) : tI wd W m o H R := by
  obtain ⟨env, p, st, hf, hs, q⟩ := h
  exact tI.go hf hs q fun w st1 p1 H1 J f1 s1 hw g1 q1 => k w env p1 H1 st1 J f1 s1 hw q1
theorem E_comp {k : Nat} (S : ∀ j, j ≤ k → Snd c cc cx n N j) (F : Fit c cc cx n N X sc W) {elt tg iter : Expr} {ifs : List Expr} {scope : Scope} {pos : Pos} {ir : E} (h : cE cc N (k + 1) sc (.ListComp elt [⟨tg, iter, ifs, 0⟩] scope pos) = some ir) :
    ∃ (own : List (Str × Nat)) (wi : TI) (g : TG) (tt : TT) (te : TE), PI X tg iter wi ∧ BlkOk X.N X.env.scope scope own ∧ (∀ (s : Shared) (H : Hp) (C : Addr) (cl : List (Str × Addr)) (fp : List Addr), PG (X.blk s H scope (compEnvC scope cl C X.env) fp) tg g) ∧
      (∀ (s : Shared) (H : Hp) (C : Addr) (cl : List (Str × Addr)) (fp : List Addr), PTs (X.blk s H scope (compEnvC scope cl C X.env) fp) ifs tt) ∧ (∀ (s : Shared) (H : Hp) (C : Addr) (cl : List (Str × Addr)) (fp : List Addr), PE (X.blk s H scope (compEnvC scope cl C X.env) fp) elt te) ∧
      (∀ x, foldedSetIterable iter X.env x = pure x) ∧ ∀ o H Q, tE (wdX X c) W (ev cx ir) o H Q → tLc wi g tt te (own.map (·.2)) o H Q := by
  have kk := Nat.le_refl k
  simp only [cE] at h
  split at h
  · rename_i t own it el h1 h2 h3
    split at h
    · rename_i hb
      have hI : PI X tg iter (tI (wdX X c) W (evI cx it)) ∧ ∀ x, foldedSetIterable iter X.env x = pure x := by
        cases k with
        | zero => simp [cI] at h2
        | succ k => exact I_ok (fun j hj => S j (by omega)) F h2
      have hE : ∀ (s : Shared) (H : Hp) (C : Addr) (cl : List (Str × Addr)) (fp : List Addr), PE (X.blk s H scope (compEnvC scope cl C X.env) fp) elt (tE (wdX X c) W0 (ev cx el)) := fun s H C cl fp => (S k kk).E h3 F.blk
      have hG : ∀ (s : Shared) (H : Hp) (C : Addr) (cl : List (Str × Addr)) (fp : List Addr), PG (X.blk s H scope (compEnvC scope cl C X.env) fp) tg (gTg (wdX X c) t) := fun s H C cl fp => (tg_ok F.blk h1).1
      split at h
      · cases h
        refine ⟨own, _, _, tYes, _, hI.1, F.blkOk hb, hG, fun s H C cl fp => pts_nil, hE, hI.2, fun o H Q q => ?_⟩
        simp only [ev] at q
        refine tI.to (g := fun w env st1 => compL w.stay t (fun _ st => .ok (.bl true) st) (ev cx el) (wipeE env (own.map (·.2))) w.its [] st1) q fun w env p1 H1 st1 J f1 s1 hw q1 => ?_
        exact comp_go (own_sub h1) (fun o H Q ⟨env, p, st, f, s, q⟩ => q p H true (Gr.refl _ _) s rfl) (fun _ _ _ z => z) f1 s1 hw q1
      · rename_i cnd
        obtain ⟨x, h4, rfl⟩ := Option.map_eq_some_iff.mp h
        refine ⟨own, _, _, tT (wdX X c) W0 (ev cx x), _, hI.1, F.blkOk hb, hG, fun s H C cl fp => pts_one ((S k kk).T h4 F.blk), hE, hI.2, fun o H Q q => ?_⟩
        simp only [ev] at q
        refine tI.to (g := fun w env st1 => compL w.stay t (ev cx x) (ev cx el) (wipeE env (own.map (·.2))) w.its [] st1) q fun w env p1 H1 st1 J f1 s1 hw q1 => ?_
        exact comp_go (own_sub h1) (fun _ _ _ z => z) (fun _ _ _ z => z) f1 s1 hw q1
      · cases h
    · cases h
  · cases h
theorem T_val {k : Nat} {e : Expr} {ir : E} (hE : PE X e (tE (wdX X c) W (ev cx ir))) (he : ∀ whole, isTrue e X.env whole = (do let v ← whole; standAt e.pos; holding [v] (truthy v))) : PT X e (tT (wdX X c) W (ev cx ir)) := by
  refine (pt_val hE he).imp fun o H Q ⟨env, p, st, hf, hs, q⟩ => ⟨env, p, st, hf, hs, ?_⟩
  cases hx : ev cx ir env st with
  | ok z st1 =>
    rw [hx] at q
    cases z with
    | bl b =>
      intro p' H' v g s r
      unfold VR at r
      subst r
      exact ⟨b, rfl, q p' H' b g s rfl⟩
    | _ => exact q.elim
  | exc z st1 =>
    rw [hx] at q
    exact q
  | bad =>
    rw [hx] at q
    exact q.elim
theorem E_all {k : Nat} (S : ∀ j, j ≤ k → Snd c cc cx n N j) (F : Fit c cc cx n N X sc W) {e : Expr} {ir : E} (h : cE cc N (k + 1) sc e = some ir) : PE X e (tE (wdX X c) W (ev cx ir)) := by
  have Sk := S k (Nat.le_refl k)
  cases e with
  | Name x pos => exact E_Name F h
  | Constant x j pos => exact E_Const F h
  | BinOp a op b pos => exact E_BinOp Sk F h
  | UnaryOp op a pos =>
    cases op with
    | Not => exact E_not Sk F h
    | USub => exact E_neg Sk F h
    | _ => simp [cE] at h
  | BoolOp op vs pos =>
    match vs, h with
    | [], h => simp [cE] at h
    | [a], h => simp [cE] at h
    | a :: b :: r, h => exact E_bool Sk F h
  | Compare a ops cs pos =>
    match ops, cs, h with
    | [op], [b], h => exact (E_cmp Sk F h).1
    | [op, op'], [b, d], h => exact (E_chain Sk F h).1
    | [], _, h => simp [cE] at h
    | [_], [], h => simp [cE] at h
    | [_], _ :: _ :: _, h => simp [cE] at h
    | [_, _], [], h => simp [cE] at h
    | [_, _], [_], h => simp [cE] at h
    | [_, _], _ :: _ :: _ :: _, h => simp [cE] at h
    | _ :: _ :: _ :: _, _, h => simp [cE] at h
  | IfExp t a b pos => exact E_ite Sk F h
  | Subscript a i pos =>
    cases i with
    | Slice lo hi st p2 =>
      cases st with
      | none =>
        simp only [cE] at h
        split at h
        · rename_i h1 h2 h3
          cases h
          exact E_slc Sk F h1 h2 h3
        · cases h
      | some z =>
        cases k with
        | zero => simp [cE] at h
        | succ k => simp [cE] at h
    | _ =>
      unfold cE at h
      split at h
      · rename_i h1 h2
        cases h
        exact E_idx Sk F h1 h2
      · cases h
  | Tuple es j pos =>
    simp only [cE] at h
    obtain ⟨ir', h1, rfl⟩ := Option.map_eq_some_iff.mp h
    exact E_tup Sk F h1
  | List es pos =>
    simp only [cE] at h
    obtain ⟨ir', h1, rfl⟩ := Option.map_eq_some_iff.mp h
    exact E_lst Sk F h1
  | Call f args kws pos =>
    cases kws with
    | cons _ _ => cases f <;> simp [cE] at h
    | nil =>
      cases f with
      | Name f p0 =>
        unfold cE at h
        split at h
        · rename_i hg
          split at h
          · rename_i id hf
            obtain ⟨es, h1, rfl⟩ := Option.map_eq_some_iff.mp h
            exact E_call Sk F hg hf h1
          · split at h
            · rename_i hi
              have e0 : f = "isinstance" := by simpa using hi
              subst e0
              split at h
              · rename_i a t p1
                split at h
                · rename_i ht
                  split at h
                  · rename_i ty x h1 h2
                    cases h
                    exact E_isi Sk F hg ht h1 h2
                  · cases h
                · cases h
              · cases h
            · split at h
              · rename_i b es h1 h2
                cases h
                cases args with
                | nil =>
                  exfalso
                  unfold biOf at h1
                  simp at h1
                | cons e r => exact E_bi Sk F hg h1 h2
              · cases h
        · cases h
      | Attribute o m apos =>
        simp only [cE] at h
        split at h
        · rename_i hc
          obtain ⟨c1, c2⟩ := Bool.and_eq_true_iff.mp hc
          split at h
          · rename_i mt x es h0 h1 h2
            cases h
            exact E_mth Sk F c1 c2 h0 h1 h2
          · cases h
        · cases h
      | _ => simp [cE] at h
  | ListComp elt gens scope pos =>
    match gens, h with
    | [⟨tg, iter, ifs, a⟩], h =>
      by_cases ha : a = 0
      · subst ha
        obtain ⟨own, wi, g, tt, te, h1, h2, h3, h4, h5, h6, h7⟩ := E_comp S F h
        exact (pe_lc F.calm (by rw [F.N_]; exact F.nd) h1 h2 h3 h4 h5 h6).imp h7
      · exfalso
        unfold cE at h
        split at h <;> first
          | (cases h; done)
          | (rename_i e; cases e; done)
          | (rename_i e; cases e; exact ha rfl)
          | simp_all
    | [], h => simp [cE] at h
    | _ :: _ :: _, h => simp [cE] at h
  | _ => simp [cE] at h
theorem T_all {k : Nat} (S : ∀ j, j ≤ k → Snd c cc cx n N j) (F : Fit c cc cx n N X sc W) {e : Expr} {ir : E} (h : cT cc N (k + 1) sc e = some ir) : PT X e (tT (wdX X c) W (ev cx ir)) := by
  have Sk := S k (Nat.le_refl k)
  have val : cT cc N (k + 1) sc e = cE cc N k sc e → (∀ whole, isTrue e X.env whole = (do let v ← whole; standAt e.pos; holding [v] (truthy v))) → PT X e (tT (wdX X c) W (ev cx ir)) := fun e1 e2 => by
    rw [e1] at h
    exact T_val (k := k) (Sk.E h F) e2
  cases e with
  | UnaryOp op a pos =>
    cases op with
    | Not => exact T_not Sk F h
    | USub => exact val (by simp [cT]) (fun _ => rfl)
    | _ => exact val (by simp [cT]) (fun _ => rfl)
  | BoolOp op vs pos =>
    match vs, h with
    | [], h => cases k <;> simp [cT, cE] at h
    | [a], h => cases k <;> simp [cT, cE] at h
    | a :: b :: r, h => exact (T_bool Sk F h).pt
  | IfExp t a b pos => simp [cT] at h
  | Compare a ops cs pos =>
    have h0 : cE cc N k sc (.Compare a ops cs pos) = some ir := by
      rw [← h]
      simp [cT]
    cases k with
    | zero => simp [cE] at h0
    | succ j =>
    have Sk := S j (Nat.le_succ j)
    have h' : cE cc N (j + 1) sc (.Compare a ops cs pos) = some ir := h0
    match ops, cs, h' with
    | [op], [b], h => exact (E_cmp Sk F h).2
    | [op, op'], [b, d], h => exact (E_chain Sk F h).2
    | [], _, h => simp [cE] at h
    | [_], [], h => simp [cE] at h
    | [_], _ :: _ :: _, h => simp [cE] at h
    | [_, _], [], h => simp [cE] at h
    | [_, _], [_], h => simp [cE] at h
    | [_, _], _ :: _ :: _ :: _, h => simp [cE] at h
    | _ :: _ :: _ :: _, _, h => simp [cE] at h
  | _ => exact val (by simp [cT]) (fun _ => rfl)
theorem O_all {k : Nat} (S : ∀ j, j < k → Snd c cc cx n N j) (F : Fit c cc cx n N X sc W) {e : Option Expr} {ir : E} (h : cO cc N k sc e = some ir) : PO X e (tO (wdX X c) W ir (ev cx ir)) := by
  cases e with
  | none =>
    have : ir = .non := by cases k <;> (simp [cO] at h; exact h.symm)
    subst this
    refine po_none.imp fun o H Q ⟨env, p, st, hf, hs, q, _⟩ => ?_
    rw [ev] at q
    exact q p H none (Gr.refl _ _) hs rfl
  | some e =>
    cases k with
    | zero => simp [cO] at h
    | succ k =>
      unfold cO at h
      have h1 : cE cc N k sc e = some ir ∧ ir ≠ .non := by
        cases hx : cE cc N k sc e with
        | none =>
          rw [hx] at h
          cases h
        | some x =>
          rw [hx] at h
          cases x <;> first
            | (cases h; done)
            | (cases h; exact ⟨rfl, fun z => by cases z⟩)
      refine (po_some ((S k (Nat.lt_succ_self k)).E h1.1 F)).imp fun o H Q ⟨env, p, st, hf, hs, q, hq⟩ => ⟨env, p, st, hf, hs, ?_⟩
      cases hx : ev cx ir env st with
      | ok z st1 =>
        rw [hx] at q
        obtain ⟨r, hr⟩ := hq z st1 hx
        have hz : ∃ i, z = .int i ∧ r = some i := by
          cases ir <;> first
            | exact absurd rfl h1.2
            | (cases z <;> first | (cases hr; done) | (cases hr; exact ⟨_, rfl, rfl⟩))
        obtain ⟨i, rfl, rfl⟩ := hz
        intro p' H' v g s rv
        unfold VR at rv
        subst rv
        exact ⟨i, rfl, q p' H' (some i) g s hr⟩
      | exc z st1 =>
        rw [hx] at q
        exact q
      | bad =>
        rw [hx] at q
        exact q
theorem A_all {k : Nat} (S : ∀ j, j < k → Snd c cc cx n N j) (F : Fit c cc cx n N X sc W) {es : List Expr} {ir : Es} (h : cEs cc N k sc es = some ir) : PA X es (tA (wdX X c) W (evs cx ir)) := by
  cases ir with
  | nil =>
    have := cEs_nil h
    subst this
    refine pa_nil.imp fun o H Q ⟨env, p, st, hf, hs, q⟩ => ?_
    rw [evs] at q
    exact q p H [] (Gr.refl _ _) hs (by unfold VRs; rfl)
  | cons a r =>
    obtain ⟨e, es', j, rfl, rfl, h1, h2⟩ := cEs_cons h
    refine (pa_cons ((S j (Nat.lt_succ_self j)).E h1 F) ((S j (Nat.lt_succ_self j)).A h2 F) (cE_star h1 _ _)).imp fun o H Q ⟨env, p, st, hf, hs, q⟩ => ?_
    rw [evs] at q
    refine tE.go hf hs q fun x st1 p1 H1 v hf1 hs1 r1 g1 q1 => ?_
    refine tA.go hf1 hs1 q1 fun xs st2 p2 H2 vs hf2 hs2 r2 g2 q2 => ?_
    exact q2 p2 H2 _ (Gr.refl _ _) hs2 (by unfold VRs; exact ⟨v, vs, rfl, r1.gr g2, r2⟩)
end
theorem snd (c : Cl) (cc : CC) (cx : Ck) (n : Nat) (N : List Str) : ∀ k, Snd c cc cx n N k := by
  intro k
  induction k using Nat.strongRecOn with
  | ind k ih =>
    refine ⟨fun {sc e ir X W} h F => ?_, fun {sc e ir X W} h F => ?_, fun {sc op vs pos ir X W} h F => ?_, fun {sc e ir X W} h F => O_all ih F h, fun {sc e ir X W} h F => A_all ih F h, fun {sc tg e ir X W} h F => ?_⟩
    · cases k with
      | zero => simp [cE] at h
      | succ k => exact E_all (fun j hj => ih j (by omega)) F h
    · cases k with
      | zero => simp [cT] at h
      | succ k => exact T_all (fun j hj => ih j (by omega)) F h
    · cases k with
      | zero => simp [cT] at h
      | succ k =>
        match vs, h with
        | [], h => cases k <;> simp [cT, cE] at h
        | [a], h => cases k <;> simp [cT, cE] at h
        | a :: b :: r, h => exact T_bool (ih k (Nat.lt_succ_self k)) F h
    · cases k with
      | zero => simp [cI] at h
      | succ k => exact I_ok (fun j hj => ih j (by omega)) F h
end GI
set_option maxRecDepth 10000
set_option maxHeartbeats 4000000
/-! GT: statements. -/
namespace GI
open PySem L2
/-- a def's body: the scope that runs is the written one -/
structure FitS (c : Cl) (cc : CC) (cx : Ck) (n : Nat) (N : List Str) (X : Cx) (sc : Scope) (W : WX) : Prop where
  F : Fit c cc cx n N X sc W
  sc_ : X.env.scope = sc
  kind : sc.kind = .function
  po : PassesOwn (model X.prog X.w) X.A X.env X.xe
structure SndS (c : Cl) (cc : CC) (cx : Ck) (n : Nat) (N : List Str) (k : Nat) : Prop where
  S : ∀ {sc s ir X W}, cS cc N k sc s = some ir → FitS c cc cx n N X sc W → PS X s (tS (wdX X c) W (xS cx ir))
  Ss : ∀ {sc s ir X W}, cSs cc N k sc s = some ir → FitS c cc cx n N X sc W → PSs X s (tS (wdX X c) W (xSs cx ir))
section
variable {wd : Wd} {W : WX} {o : St} {H : Hp} {env : Fr} {p : List Addr} {st : Store} {D : Ends}
theorem tE.goS {m : Fr → Store → Res PV} {f : PV → Store → Res (Fl × Fr)} {R : V → Hp → Prop} (hf : FrR wd p H env o) (hs : StR wd p H st)
    (h : RdS wd W p H ((m env st).lift env f) D) (k : ∀ x st' p' H' v, FrR wd p' H' env o → StR wd p' H' st' → VR wd.K p' H' x v → Gr p H p' H' → RdS wd W p' H' (f x st') D → R v H') : tE wd W m o H R :=
  ⟨env, p, st, hf, hs, RdS.lift (rel := vr wd) h hf fun x st' p' H' v g s r q => k x st' p' H' v (hf.gr g) s r g q⟩
theorem tI.goS {m : Fr → Store → Res Walk} {f : Walk → Store → Res (Fl × Fr)} {R : L2.It → Hp → Prop} (hf : FrR wd p H env o) (hs : StR wd p H st)
    (h : RdS wd W p H ((m env st).lift env f) D) (k : ∀ x st' p' H' v, FrR wd p' H' env o → StR wd p' H' st' → Wk wd x p' H' v → Gr p H p' H' → RdS wd W p' H' (f x st') D → R v H') : tI wd W m o H R :=
  ⟨env, p, st, hf, hs, RdS.lift (rel := fun p' H' w J => Wk wd w p' H' J) h hf fun x st' p' H' v g s r q => k x st' p' H' v (hf.gr g) s r g q⟩
theorem tT.goS {m : Fr → Store → Res PV} {f : PV → Store → Res (Fl × Fr)} {R : Bool → Hp → Prop} (hf : FrR wd p H env o) (hs : StR wd p H st) (hb : ∀ x st, (∀ b, x ≠ .bl b) → f x st = .bad)
    (h : RdS wd W p H ((m env st).lift env f) D) (k : ∀ b st' p' H', FrR wd p' H' env o → StR wd p' H' st' → Gr p H p' H' → RdS wd W p' H' (f (.bl b) st') D → R b H') : tT wd W m o H R := by
  rw [toB_lift hb] at h
  refine ⟨env, p, st, hf, hs, RdS.lift (rel := br) h hf fun x st' p' H' v g s r q => ?_⟩
  cases r
  exact k x st' p' H' (hf.gr g) s g q
end
section
variable {c : Cl} {cc : CC} {cx : Ck} {n : Nat} {N : List Str} {X : Cx} {sc : Scope} {W : WX}
theorem sw_false {e : Expr} {t : Option Expr} {l : Nat} {env : Env} (h : ∀ a b d f, e ≠ .ListComp a b d f) (hc : ∃ k sc ir, cE cc N k sc e = some ir) : swapsWith e t l env = pure false := by
  obtain ⟨k, sc, ir, hc⟩ := hc
  unfold swapsWith
  cases e <;> first
    | rfl
    | exact absurd rfl (h _ _ _ _)
    | (cases k <;> simp [cE] at hc)
theorem swap_sole {t e : Expr} {l : Nat} {env : Env} (h : swapsWith e (some t) l env = pure false) : swapsWithSole [t] e l env = pure false := by
  unfold swapsWithSole
  exact h
theorem plainE_ne {e : Expr} (h : plainE e = true) : (∀ a b d f, e ≠ .ListComp a b d f) ∧ ∀ a b d, e ≠ .Tuple a b d := by
  cases e <;> first
    | (exact absurd (show false = true from h) (by simp))
    | exact ⟨fun _ _ _ _ z => (by cases z), fun _ _ _ z => by cases z⟩
theorem S_asg {k : Nat} (F : FitS c cc cx n N X sc W) {x : Str} {py pos : Pos} {e : Expr} {ir : S} (h : cS cc N (k + 1) sc (.Assign [.Name x py] e pos) = some ir) : PS X (.Assign [.Name x py] e pos) (tS (wdX X c) W (xS cx ir)) := by
  simp only [cS] at h
  split at h
  · rename_i i v h1 h2
    cases h
    obtain ⟨hg, hi, hx, hfn⟩ := F.F.tgt (pos := py) h1
    have hN : X.N.Nodup := by rw [F.F.N_]; exact F.F.nd
    have fin : ∀ (D : Ends) (o : St) (H : Hp), tS (wdX X c) W (xS cx (.asg i v)) D o H → tAsg (tE (wdX X c) W (ev cx v)) (gName i) D o H := by
      rintro D o H ⟨env, p, st, hf, hs, q⟩
      rw [xS] at q
      exact tE.goS hf hs q fun x1 st1 p1 H1 v1 hf1 hs1 r1 g1 q1 => q1 p1 H1 _ (Gr.refl _ _) hs1 (hf1.set r1)
    by_cases hc : ∃ a b d f, e = .ListComp a b d f
    · obtain ⟨a, b, d, f, rfl⟩ := hc
      by_cases hsw : sw sc x py (.ListComp a b d f) = true
      · unfold sw at hsw
        simp only [Bool.and_eq_true, beq_iff_eq, Bool.not_eq_true'] at hsw
        obtain ⟨⟨s1, s2⟩, s3⟩ := hsw
        cases k with
        | zero => simp [cE] at h2
        | succ k =>
          match b, h2 with
          | [⟨tg, iter, ifs, aa⟩], h2 =>
            by_cases ha : aa = 0
            · subst ha
              obtain ⟨own, wi, g, tt, te, q1, q2, q3, q4, q5, q6, q7⟩ := E_comp (fun j hj => snd c cc cx n N j) F.F h2
              refine (ps_setLc F.F.calm hN hi (by rw [F.sc_]; exact s1) (sw_true (by rw [F.sc_]; exact F.kind) (by rw [F.sc_]; exact s1) (by rw [s2]; simp) s3) q1 q2 q3 q4 q5 q6).imp fun D o H q => ?_
              have := fin D o H q
              exact q7 o H _ this
            · exfalso
              unfold cE at h2
              split at h2 <;> first
                | (cases h2; done)
                | (rename_i e; cases e; done)
                | (rename_i e; cases e; exact ha rfl)
                | simp_all
          | [], h2 => simp [cE] at h2
          | _ :: _ :: _, h2 => simp [cE] at h2
      · refine (ps_set hN hi hx ((snd c cc cx n N k).E h2 F.F) ?_ hfn).imp fin
        have hsw' : sw sc x py (.ListComp a b d f) = false := by simpa using hsw
        unfold sw at hsw'
        unfold swapsWith
        have hk : X.env.blockKind = .function := by
          unfold Env.blockKind
          rw [F.sc_, F.kind]
          rfl
        have hl : (X.env.kindOf x == some .local) = (sc.names.lookup x == some .local) := by
          show (X.env.scope.names.lookup x == some .local) = _
          rw [F.sc_]
        simp only [hk, hl]
        show pure _ = pure false
        rw [← hsw']
        congr 1
    · exact (ps_set hN hi hx ((snd c cc cx n N k).E h2 F.F) (sw_false (fun a b d f z => hc ⟨a, b, d, f, z⟩) ⟨k, sc, _, h2⟩) hfn).imp fin
  · cases h
theorem PG.or' {e : Expr} {t t' : TG} (h : PG X e t) (h' : PG X e t') : PG X e (fun v o H Q => t v o H Q ∨ t' v o H Q) := ⟨fun pins s o H v u Q I r q => by
  rcases q with q | q
  · exact h.run pins s o H v u Q I r q
  · exact h'.run pins s o H v u Q I r q⟩
theorem S_asgT {k : Nat} (F : FitS c cc cx n N X sc W) {ts : List Expr} {j : Nat} {tp pos : Pos} {e : Expr} {ir : S} (h : cS cc N (k + 1) sc (.Assign [.Tuple ts j tp] e pos) = some ir) : PS X (.Assign [.Tuple ts j tp] e pos) (tS (wdX X c) W (xS cx ir)) := by
  simp only [cS] at h
  split at h
  · rename_i hp
    split at h
    · rename_i l v h1 h2
      cases h
      obtain ⟨n1, n2⟩ := plainE_ne hp
      obtain ⟨q1, q2, q3⟩ := names_ok F.F h1
      have hg := PG.or' (pg_tup (k := j) (pos := tp) F.F.calm q1 q2 q3) (pg_unl (k := j) (pos := tp) F.F.calm q1 q2 q3)
      have hw : swappedStores [.Tuple ts j tp] e X.env = pure none := by
        cases e <;> first
          | rfl
          | exact absurd rfl (n2 _ _ _)
      refine (ps_asg ((snd c cc cx n N k).E h2 F.F) hg (swap_sole (sw_false n1 ⟨k, sc, _, h2⟩)) hw (by rfl)).imp fun D o H ⟨env, p, st, hf, hs, q⟩ => ?_
      rw [xS] at q
      refine tE.goS hf hs q fun x1 st1 p1 H1 v1 hf1 hs1 r1 g1 q1 => ?_
      split at q1
      · rename_i vs hvs
        split at q1
        · rename_i env' hb
          have fin : ∀ {us : List V}, VRs X.K p1 H1 vs us → us.length = l.length ∧ gMany (l.map (·.2)) us o H1 D.nx := fun {us} r => by
            obtain ⟨h4, h5⟩ := bindMany_ok r.paired hf1 hb
            exact ⟨by rw [h4, List.length_map], h4, q1 p1 H1 _ (Gr.refl _ _) hs1 h5⟩
          obtain ⟨a, us, rfl, hq, hv⟩ := items_ok hs1 r1 hvs
          obtain ⟨f1, f2⟩ := fin hv
          rcases hq with hq | hq
          · exact .inr ⟨a, us, rfl, hq, f1, f2⟩
          · exact .inl ⟨a, us, rfl, hq, f1, f2⟩
        · exact q1.elim
      · exact q1.elim
    · cases h
  · cases h
theorem S_setI {k : Nat} (F : FitS c cc cx n N X sc W) {ob i : Expr} {tp pos : Pos} {e : Expr} {ir : S} (h : cS cc N (k + 1) sc (.Assign [.Subscript ob i tp] e pos) = some ir) : PS X (.Assign [.Subscript ob i tp] e pos) (tS (wdX X c) W (xS cx ir)) := by
  simp only [cS] at h
  split at h
  · rename_i hp
    split at h
    · rename_i v x y h1 h2 h3
      cases h
      obtain ⟨n1, n2⟩ := plainE_ne hp
      have Sk := snd c cc cx n N k
      have hg : PG X (.Subscript ob i tp) (gSub (tE (wdX X c) W (ev cx x)) (tE (wdX X c) W (ev cx y)) (rSet (wdX X c))) := by
        refine pg_sub (Sk.E h2 F.F) (Sk.E h3 F.F) set_P ?_
        cases i <;> first
          | (intro v; rfl)
          | (cases k <;> simp [cE] at h3)
      refine (ps_asg (Sk.E h1 F.F) hg (swap_sole (sw_false n1 ⟨k, sc, _, h1⟩)) (by rfl) (by rfl)).imp fun D o H ⟨env, p, st, hf, hs, q⟩ => ?_
      rw [xS] at q
      refine tE.goS hf hs q fun x1 st1 p1 H1 v1 hf1 hs1 r1 g1 q1 => ?_
      refine tE.goS hf1 hs1 q1 fun x2 st2 p2 H2 v2 hf2 hs2 r2 g2 q2 => ?_
      refine tE.goS hf2 hs2 q2 fun x3 st3 p3 H3 v3 hf3 hs3 r3 g3 q3 => ?_
      split at q3
      · rename_i st4 h4
        exact ⟨p3, st3, x2, x3, x1, st4, hs3, r2.gr g3, r3, (r1.gr g2).gr g3, h4, fun p' H' g s => q3 p' H' o g s (hf3.gr g)⟩
      · exact q3.elim
    · cases h
  · cases h
theorem S_aug {k : Nat} (F : FitS c cc cx n N X sc W) {x : Str} {op : Operator} {py pos : Pos} {e : Expr} {ir : S} (h : cS cc N (k + 1) sc (.AugAssign (.Name x py) op e pos) = some ir) : PS X (.AugAssign (.Name x py) op e pos) (tS (wdX X c) W (xS cx ir)) := by
  simp only [cS] at h
  have hN : X.N.Nodup := by rw [F.F.N_]; exact F.F.nd
  split at h
  · rename_i i v h1 h2
    cases h
    obtain ⟨hg, hi, hx, hfn⟩ := F.F.tgt (pos := py) h1
    refine (ps_aug hN hi hx ((snd c cc cx n N k).E h2 F.F) ip_add hfn).imp fun D o H ⟨env, p, st, hf, hs, q⟩ => ?_
    rw [xS] at q
    split at q
    · rename_i y hy
      obtain ⟨w, h3, h4⟩ := hf.at_ i y hy
      refine ⟨w, h3, tE.goS hf hs q fun x1 st1 p1 H1 v1 hf1 hs1 r1 g1 q1 => ?_⟩
      cases y with
      | int a =>
        cases x1 with
        | int b =>
          unfold VR at h4 r1
          subst h4 r1
          exact ⟨_, _, rfl, rfl, q1 p1 H1 _ (Gr.refl _ _) hs1 (hf1.set .int')⟩
        | _ => exact q1.elim
      | _ => exact q1.elim
    · exact q.elim
  · rename_i i v h1 h2
    cases h
    obtain ⟨hg, hi, hx, hfn⟩ := F.F.tgt (pos := py) h1
    refine (ps_aug hN hi hx ((snd c cc cx n N k).E h2 F.F) ip_sub hfn).imp fun D o H ⟨env, p, st, hf, hs, q⟩ => ?_
    rw [xS] at q
    split at q
    · rename_i y hy
      obtain ⟨w, h3, h4⟩ := hf.at_ i y hy
      refine ⟨w, h3, tE.goS hf hs q fun x1 st1 p1 H1 v1 hf1 hs1 r1 g1 q1 => ?_⟩
      cases y with
      | int a =>
        cases x1 with
        | int b =>
          unfold VR at h4 r1
          subst h4 r1
          exact ⟨_, _, rfl, rfl, q1 p1 H1 _ (Gr.refl _ _) hs1 (hf1.set .int')⟩
        | _ => exact q1.elim
      | _ => exact q1.elim
    · exact q.elim
  · cases h
theorem S_if {k : Nat} (T : SndS c cc cx n N k) (F : FitS c cc cx n N X sc W) {t : Expr} {a b : List Stmt} {pos : Pos} {ir : S} (h : cS cc N (k + 1) sc (.If t a b pos) = some ir) : PS X (.If t a b pos) (tS (wdX X c) W (xS cx ir)) := by
  simp only [cS] at h
  split at h
  · rename_i x y z h1 h2 h3
    cases h
    refine (ps_if ((snd c cc cx n N k).T h1 F.F) (T.Ss h2 F) (T.Ss h3 F)).imp fun D o H ⟨env, p, st, hf, hs, q⟩ => ?_
    rw [xS] at q
    refine tT.goS hf hs (fun x st' hx => ?_) q fun b st1 p1 H1 hf1 hs1 g1 q1 => ?_
    · cases x <;> first | exact absurd rfl (hx _) | rfl
    · cases b with
      | true =>
        rw [if_pos rfl]
        exact ⟨env, p1, st1, hf1, hs1, q1⟩
      | false =>
        rw [if_neg Bool.false_ne_true]
        exact ⟨env, p1, st1, hf1, hs1, q1⟩
  · cases h
theorem for_go {wd : Wd} {tg : Tg} {b : Fr → Store → Res (Fl × Fr)} {J : L2.It} {w : Walk} {env0 : Fr} {o0 : St} {p0 : List Addr} {H0 : Hp} {st0 : Store} {D : Ends} (hf0 : FrR wd p0 H0 env0 o0) (hs0 : StR wd p0 H0 st0) (hw : Wk wd w p0 H0 J) (h : RdS wd W p0 H0 (forL w.stay tg b w.its env0 st0) D) :
    ∃ Iv : Nat → Nat → St → Hp → Prop, (∃ m, Iv 0 m o0 H0) ∧ ∀ i m o H, Iv i m o H →
      (J.stop i H ∧ D.nx o H) ∨ (J.go i H ∧ ∃ Nx : St → Hp → Prop, (∀ o' H', Nx o' H' → ∃ m', m' < m ∧ Iv (i + 1) m' o' H') ∧ ∀ x H', J.yld i H x H' → gTg wd tg x o H' fun o2 H2 => tS wd W b { D with nx := Nx, ct := Nx, bk := D.nx } o2 H2) := by
  refine ⟨fun i m o H => ∃ env p st rest, w.its.drop i = rest ∧ m = rest.length ∧ Gr p0 H0 p H ∧ FrR wd p H env o ∧ StR wd p H st ∧ RdS wd W p0 H0 (forL w.stay tg b rest env st) D, ⟨w.its.length, env0, p0, st0, w.its, by simp, rfl, Gr.refl _ _, hf0, hs0, h⟩, ?_⟩
  rintro i m o H ⟨env, p, st, rest, hr, rfl, g0, hf, hs, q⟩
  cases rest with
  | nil =>
    unfold forL at q
    split at q
    · rename_i hk
      have hi : w.its.length ≤ i := by
        have := congrArg List.length hr
        rw [List.length_drop] at this
        simp at this
        omega
      exact .inl ⟨hw.stop i p H st hi g0 hs (keeps_of hk), q p H o g0 hs hf⟩
    · exact q.elim
  | cons x r =>
    unfold forL at q
    split at q
    · rename_i hk
      have hx : w.its[i]? = some x := by
        have e : (w.its.drop i)[0]? = some x := by rw [hr]; rfl
        rw [List.getElem?_drop] at e
        simpa using e
      have hr' : w.its.drop (i + 1) = r := by
        have e : (w.its.drop i).drop 1 = r := by rw [hr]; rfl
        rw [List.drop_drop] at e
        exact e
      obtain ⟨g1, g2⟩ := hw.go i x p H st hx g0 hs (keeps_of hk)
      refine .inr ⟨g1, fun o' H' => ∃ env p st, Gr p0 H0 p H' ∧ FrR wd p H' env o' ∧ StR wd p H' st ∧ RdS wd W p0 H0 (forL w.stay tg b r env st) D, fun o' H' ⟨env', p', st', g', f', s', q'⟩ => ⟨r.length, by simp, env', p', st', r, hr', rfl, g', f', s', q'⟩, fun v H2 hy => ?_⟩
      obtain ⟨gr2, s2, rx⟩ := g2 v H2 hy
      split at q
      · exact q.elim
      · rename_i env' hb
        refine ⟨env, p, st, x, env', hf.gr gr2, s2, rx, hb, fun o' fo _ => ⟨env', p, st, fo, s2, ?_⟩⟩
        cases hc : b env' st with
        | ok z st1 =>
          obtain ⟨fl, env2⟩ := z
          rw [hc] at q
          intro p3 H3 o3 g3 s3 f3
          have g03 := (g0.trans gr2).trans g3
          cases fl with
          | nx => exact ⟨env2, p3, st1, g03, f3, s3, q⟩
          | ct => exact ⟨env2, p3, st1, g03, f3, s3, q⟩
          | br => exact q p3 H3 o3 g03 s3 f3
          | rt u => exact q p3 H3 o3 g03 s3 f3
          | xc u => exact q p3 H3 o3 g03 s3 f3
        | exc z st1 =>
          rw [hc] at q
          exact q.elim
        | bad =>
          rw [hc] at q
          exact q.elim
    · exact q.elim
theorem S_for {k : Nat} (T : SndS c cc cx n N k) (F : FitS c cc cx n N X sc W) {tg it : Expr} {b : List Stmt} {pos : Pos} {ir : S} (h : cS cc N (k + 1) sc (.For tg it b [] pos) = some ir) : PS X (.For tg it b [] pos) (tS (wdX X c) W (xS cx ir)) := by
  simp only [cS] at h
  split at h
  · rename_i t l w y h1 h2 h3
    cases h
    obtain ⟨i1, i2⟩ := (snd c cc cx n N k).I h2 F.F
    refine (ps_for F.po F.F.calm i1 (tg_ok F.F h1).1 (T.Ss h3 F) i2).imp fun D o H ⟨env, p, st, hf, hs, q⟩ => ?_
    rw [xS] at q
    exact tI.goS hf hs q fun w1 st1 p1 H1 J hf1 hs1 hw g1 q1 => for_go hf1 hs1 hw q1
  · cases h
theorem S_whl {k : Nat} (T : SndS c cc cx n N k) (F : FitS c cc cx n N X sc W) {t : Expr} {b : List Stmt} {pos : Pos} {ir : S} (h : cS cc N (k + 1) sc (.While t b [] pos) = some ir) : PS X (.While t b [] pos) (tS (wdX X c) W (xS cx ir)) := by
  simp only [cS] at h
  split at h
  · rename_i x y h1 h2
    cases h
    refine (ps_while F.po ((snd c cc cx n N k).T h1 F.F) (T.Ss h2 F)).imp fun D o H ⟨env, p, st, hf, hs, q⟩ => ?_
    rw [xS] at q
    refine ⟨fun m o H' => ∃ env p1 st, FrR (wdX X c) p1 H' env o ∧ StR (wdX X c) p1 H' st ∧ RdS (wdX X c) W p1 H' (whlL (ev cx x) (xSs cx y) m env st) D, ⟨cx.wf, env, p, st, hf, hs, q⟩, ?_⟩
    rintro m o1 H1 ⟨env1, p1, st1, f1, s1, q1⟩
    cases m with
    | zero => exact q1.elim
    | succ m =>
      unfold whlL at q1
      refine tT.goS f1 s1 (fun x st' hx => ?_) q1 fun b st2 p2 H2 hf2 hs2 g2 q2 => ?_
      · cases x <;> first | exact absurd rfl (hx _) | rfl
      · cases b with
        | true =>
          rw [if_pos rfl]
          refine ⟨fun o' H' => ∃ env p3 st, FrR (wdX X c) p3 H' env o' ∧ StR (wdX X c) p3 H' st ∧ RdS (wdX X c) W p3 H' (whlL (ev cx x) (xSs cx y) m env st) D, fun o' H' z => ⟨m, Nat.lt_succ_self m, z⟩, ⟨env1, p2, st2, hf2, hs2, ?_⟩⟩
          simp only at q2
          cases hc : xSs cx y env1 st2 with
          | ok z st3 =>
            obtain ⟨fl, env2⟩ := z
            rw [hc] at q2
            intro p3 H3 o3 g3 s3 f3
            cases fl with
            | nx => exact ⟨env2, p3, st3, f3, s3, RdS.mono q2 g3⟩
            | ct => exact ⟨env2, p3, st3, f3, s3, RdS.mono q2 g3⟩
            | br => exact q2 p3 H3 o3 g3 s3 f3
            | rt u => exact q2 p3 H3 o3 g3 s3 f3
            | xc u => exact q2 p3 H3 o3 g3 s3 f3
          | exc z st3 =>
            rw [hc] at q2
            exact q2.elim
          | bad =>
            rw [hc] at q2
            exact q2.elim
        | false =>
          rw [if_neg Bool.false_ne_true]
          exact q2 p2 H2 o1 (Gr.refl _ _) hs2 hf2
  · cases h
theorem S_all {k : Nat} (T : SndS c cc cx n N k) (F : FitS c cc cx n N X sc W) {s : Stmt} {ir : S} (h : cS cc N (k + 1) sc s = some ir) : PS X s (tS (wdX X c) W (xS cx ir)) := by
  have Sk := snd c cc cx n N k
  have ex1 : ∀ {e : Expr} {v : E} {pos : Pos}, plainE e = true → cE cc N k sc e = some v → PS X (.Expr e pos) (tS (wdX X c) W (xS cx (.ex v))) := fun {e v pos} hp h1 =>
    (ps_expr (Sk.E h1 F.F) (sw_false (plainE_ne hp).1 ⟨k, sc, _, h1⟩)).imp fun D o H ⟨env, p, st, hf, hs, q⟩ => by
      rw [xS] at q
      exact tE.goS hf hs q fun x1 st1 p1 H1 v1 hf1 hs1 r1 g1 q1 => q1 p1 H1 o (Gr.refl _ _) hs1 hf1
  cases s with
  | Assign ts e pos =>
    match ts, h with
    | [.Name x py], h => exact S_asg F h
    | [.Tuple ts j tp], h => exact S_asgT F h
    | [.Subscript ob i tp], h => exact S_setI F h
    | [], h => simp [cS] at h
    | a :: b :: r, h =>
      unfold cS at h
      split at h <;> first
        | (cases h; done)
        | (rename_i z; cases z)
        | (rename_i z _; cases z)
    | [.BoolOp ..], h => simp [cS] at h
    | [.NamedExpr ..], h => simp [cS] at h
    | [.BinOp ..], h => simp [cS] at h
    | [.UnaryOp ..], h => simp [cS] at h
    | [.Lambda ..], h => simp [cS] at h
    | [.IfExp ..], h => simp [cS] at h
    | [.Dict ..], h => simp [cS] at h
    | [.Set ..], h => simp [cS] at h
    | [.ListComp ..], h => simp [cS] at h
    | [.SetComp ..], h => simp [cS] at h
    | [.DictComp ..], h => simp [cS] at h
    | [.GeneratorExp ..], h => simp [cS] at h
    | [.Await ..], h => simp [cS] at h
    | [.Yield ..], h => simp [cS] at h
    | [.YieldFrom ..], h => simp [cS] at h
    | [.Compare ..], h => simp [cS] at h
    | [.Call ..], h => simp [cS] at h
    | [.FormattedValue ..], h => simp [cS] at h
    | [.JoinedStr ..], h => simp [cS] at h
    | [.Constant ..], h => simp [cS] at h
    | [.Attribute ..], h => simp [cS] at h
    | [.Starred ..], h => simp [cS] at h
    | [.List ..], h => simp [cS] at h
    | [.Slice ..], h => simp [cS] at h
  | AugAssign t op e pos =>
    cases t <;> first
      | exact S_aug F h
      | simp [cS] at h
  | Return e pos =>
    cases e with
    | none =>
      simp only [cS] at h
      cases h
      exact ps_retN.imp fun D o H ⟨env, p, st, hf, hs, q⟩ => by
        rw [xS] at q
        exact q p H o (Gr.refl _ _) hs hf _ .non'
    | some e =>
      simp only [cS] at h
      obtain ⟨v, h1, rfl⟩ := Option.map_eq_some_iff.mp h
      exact (ps_ret (Sk.E h1 F.F)).imp fun D o H ⟨env, p, st, hf, hs, q⟩ => by
        rw [xS] at q
        exact tE.goS hf hs q fun x1 st1 p1 H1 v1 hf1 hs1 r1 g1 q1 => q1 p1 H1 o (Gr.refl _ _) hs1 hf1 v1 r1
  | Expr e pos =>
    simp only [cS] at h
    split at h
    · rename_i hp
      obtain ⟨v, h1, rfl⟩ := Option.map_eq_some_iff.mp h
      exact ex1 hp h1
    · cases h
  | «If» t a b pos => exact S_if T F h
  | For tg it b el pos =>
    cases el with
    | nil => exact S_for T F h
    | cons _ _ => simp [cS] at h
  | While t b el pos =>
    cases el with
    | nil => exact S_whl T F h
    | cons _ _ => simp [cS] at h
  | Pass pos =>
    simp only [cS] at h
    cases h
    exact ps_pass.imp fun D o H ⟨env, p, st, hf, hs, q⟩ => by
      rw [xS] at q
      exact q p H o (Gr.refl _ _) hs hf
  | Break pos =>
    simp only [cS] at h
    cases h
    exact ps_break.imp fun D o H ⟨env, p, st, hf, hs, q⟩ => by
      rw [xS] at q
      exact q p H o (Gr.refl _ _) hs hf
  | Continue pos =>
    simp only [cS] at h
    cases h
    exact ps_continue.imp fun D o H ⟨env, p, st, hf, hs, q⟩ => by
      rw [xS] at q
      exact q p H o (Gr.refl _ _) hs hf
  | _ => simp [cS] at h
theorem Ss_all {k : Nat} (T : ∀ j, j < k → SndS c cc cx n N j) (F : FitS c cc cx n N X sc W) {s : List Stmt} {ir : Ss} (h : cSs cc N k sc s = some ir) : PSs X s (tS (wdX X c) W (xSs cx ir)) := by
  cases s with
  | nil =>
    have : ir = .nil := by cases k <;> (simp [cSs] at h; exact h.symm)
    subst this
    exact pss_nil.imp fun D o H ⟨env, p, st, hf, hs, q⟩ => by
      rw [xSs] at q
      exact q p H o (Gr.refl _ _) hs hf
  | cons s r =>
    cases k with
    | zero => simp [cSs] at h
    | succ k =>
      unfold cSs at h
      split at h
      · rename_i x y h1 h2
        cases h
        have Tk := T k (Nat.lt_succ_self k)
        refine (pss_cons (Tk.S h1 F) (Tk.Ss h2 F)).imp fun D o H ⟨env, p, st, hf, hs, q⟩ => ⟨env, p, st, hf, hs, ?_⟩
        rw [xSs] at q
        cases hc : xS cx x env st with
        | ok z st1 =>
          obtain ⟨fl, env1⟩ := z
          rw [hc] at q
          intro p1 H1 o1 g1 s1 f1
          cases fl with
          | nx => exact ⟨env1, p1, st1, f1, s1, RdS.mono q g1⟩
          | br => exact q p1 H1 o1 g1 s1 f1
          | ct => exact q p1 H1 o1 g1 s1 f1
          | rt u => exact q p1 H1 o1 g1 s1 f1
          | xc u => exact q p1 H1 o1 g1 s1 f1
        | exc z st1 =>
          rw [hc] at q
          exact q.elim
        | bad =>
          rw [hc] at q
          exact q.elim
      · cases h
end
theorem sndS (c : Cl) (cc : CC) (cx : Ck) (n : Nat) (N : List Str) : ∀ k, SndS c cc cx n N k := by
  intro k
  induction k using Nat.strongRecOn with
  | ind k ih =>
    refine ⟨fun {sc s ir X W} h F => ?_, fun {sc s ir X W} h F => Ss_all ih F h⟩
    cases k with
    | zero => simp [cS] at h
    | succ k => exact S_all (ih k (Nat.lt_succ_self k)) F h
end GI
set_option maxRecDepth 10000
set_option maxHeartbeats 4000000
/-! GF: defs, by induction over the depth of calls; the law's end. -/
namespace GI
open PySem L2
theorem FrR_start {wd : Wd} {p : List Addr} {H : Hp} {N : List Str} {as : List PV} {vs : List V} {m : Nat} (h : VRs wd.K p H as vs) (hm : m = N.length - vs.length) : FrR wd p H (as.map some ++ List.replicate m none) (L2.start N vs) := by
  subst hm
  unfold L2.start
  refine ⟨by rw [List.length_append, List.length_append, List.length_map, List.length_map, List.length_replicate, List.length_replicate, h.len], fun i x e => ?_⟩
  by_cases hi : i < as.length
  · rw [List.getElem?_append_left (by rw [List.length_map]; exact hi), List.getElem?_map] at e
    obtain ⟨y, hy, ey⟩ := Option.map_eq_some_iff.mp e
    cases ey
    obtain ⟨v, h1, h2⟩ := Paired.at' h.paired hy
    refine ⟨v, ?_, h2⟩
    rw [List.getElem?_append_left (by rw [List.length_map, ← h.len]; exact hi), List.getElem?_map, h1]
    rfl
  · rw [List.getElem?_append_right (by rw [List.length_map]; omega), List.getElem?_replicate] at e
    split at e <;> cases e
section
variable {P : Program} {w : World} {K : PySem.W.Frag} {mg : Str → Option Value} {base : Heap} {c : Cl}
/-- a def of the text: its body compiled, its arguments bound -/
structure DefOk (cc : CC) (K : PySem.W.Frag) (mg : Str → Option Value) (x : Str) (fn : Fn) : Prop where
  ex : ∃ (f : Addr) (fd : FuncData) (st : Stmt) (N ps : List Str) (k : Nat), mg x = some (.ref f) ∧ FunD K x x (defArgs st) (defBody st) (defScope st) [] [] f fd ∧ Binds K fd ps [] ∧ FnScope N ps (defScope st) ∧
    cSs cc N k (defScope st) (defBody st) = some fn.body ∧ fn.np = ps.length ∧ fn.nl = N.length
/-- what the top leaves, for the names that are no defs -/
structure Top (cc : CC) (K : PySem.W.Frag) (mg : Str → Option Value) (gl : Nat → Option PV) : Prop where
  nb : ∀ x ∈ bNames, mg x = none
  gl : ∀ x g, cc.gls.lookup x = some g → ∀ v, gl g = some v → ∃ u w, mg x = some u ∧ RelV w u ∧ ∀ p H, VR K p H v w
theorem fn_run {cc : CC} {ft : Nat → Option Fn} {gl : Nat → Option PV} {wf n id : Nat} {x : Str} {fn : Fn} (hid : ft id = some fn) (T : Top cc K mg gl) (hfs : ∀ y j, cc.fns.lookup y = some j → FnI P w K mg base c n (callF ft gl wf n j) y)
    {f : Addr} {fd : FuncData} {st : Stmt} {N ps : List Str} {k : Nat} (F : FunD K x x (defArgs st) (defBody st) (defScope st) [] [] f fd) (S : FnScope N ps (defScope st)) (hc : cSs cc N k (defScope st) (defBody st) = some fn.body) (hnp : fn.np = ps.length) (hnl : fn.nl = N.length) :
    ∀ (A : Around) (outer : List Env) (s : Shared) (H : Hp) (args : Args) (us : List Value) (vs : List V) (p : List Addr) (st : Store) (as : List PV) (Q : VK) (E : XK), RoomF (n + 1) A → Env0 P w K mg base A outer s H → BindsTo s fd args (ps.zip us) → Vals vs us →
      StR ⟨K, c.cl, c.fn⟩ p H st → VRs K p H as vs → Rd ⟨K, c.cl, c.fn⟩ (fun cls d _ H' => E cls d H') [] p H (vr ⟨K, c.cl, c.fn⟩) (callF ft gl wf (n + 1) id as st) Q →
      codeAny (model P w) A (.call (.ref f) args) (CR (L2.CX P w) outer P w H s Q E) s := by
  obtain ⟨oc, od, dV, kV, doc, pm, an, cdv, ct, osl, rfl, lk, hcd, _, _⟩ := F.ex
  intro A outer s H args us vs p stq as Q E hr e0 hbd r hs ra q
  have e1 : as.length = fn.np := by
    by_cases e : as.length = fn.np
    · exact e
    · exfalso
      unfold callF at q
      rw [hid] at q
      simp only [if_neg e] at q
      exact q
  have hl : vs.length = ps.length := by rw [← Paired.len' ra.paired, e1, hnp]
  have KX : K.In s.heap := e0.mod.kin.keeps fun b o e => (e0.bs b o e).1
  have lim : s.heap.NoLimit := e0.mod.nolimit.keeps fun b o e => (e0.bs b o e).1
  have hk : ∀ y ∈ ps.zip us, (defScope st).names.lookup y.1 = some .local ∨ ((defScope st).names.lookup y.1 = some .cell ∧ ((cellsFrom (s.heap.objs.size + 1) (defScope st).names []).lookup y.1).isSome = true) := fun y hy => by
    rcases S.par y.1 (List.of_mem_zip hy).1 with z | z
    · exact .inl z
    · exact .inr ⟨z, PySem.W.cellsFrom_some _ _ _ (.inl z)⟩
  have hdp : A.depth < recursionLimit := by
    have := hr.dp
    omega
  refine codeAny_call_function hdp (KX _ _ lk) rfl S.co S.gen rfl (PySem.W.codeRec_of KX hcd) (hbd _ _ _ _ ?_)
  refine wpAny_newFunctionEnv_cells S.kind hk fun env he s1 x1 => ?_
  subst he
  refine ⟨lim.keeps x1.toInCall.keep, codeAny_func ?_⟩
  let X : Cx := cxOf (L2.CX P w) P w K mg base N x (defScope st) f cdv A outer s H E
  have I : L2.Inv X [] (L2.start N vs) H s1 := inv_start S hr.hd e0 hl r x1
  have Ft : FitS c cc ⟨gl, callF ft gl wf n, wf⟩ n N X (defScope st) (fun cls d _ H' => E cls d H') :=
    ⟨⟨rfl, S.nd, fun y z h => .inl h, rfl, hr.deeper _, takes_of rfl rfl rfl rfl, fun _ _ => rfl, T.nb, T.gl, fun y j h => hfs y j h⟩, rfl, S.kind, passes_of rfl⟩
  have body := (sndS c cc ⟨gl, callF ft gl wf n, wf⟩ n N k).Ss hc Ft
  have fin : ∀ {o' : St} {H' : Hp} {v : V} {u : Value} {s' : Shared}, L2.Inv X [] o' H' s' → RelV v u → Q v H' → CE outer P w H s Q u s' := fun {o' H' v u s'} J rv z => ⟨v, H', J.os, J.bare, J.base, J.hok, rv, z⟩
  have rd : tS (wdX X c) (fun cls d _ H' => E cls d H') (xSs ⟨gl, callF ft gl wf n, wf⟩ fn.body) { nx := fun _ H' => Q .non H', rt := Q } (L2.start N vs) H := by
    refine ⟨_, p, stq, FrR_start (wd := ⟨K, c.cl, c.fn⟩) (m := fn.nl - fn.np) ra (by rw [hnl, hnp, hl]), hs, ?_⟩
    unfold callF at q
    rw [hid] at q
    simp only [if_pos e1] at q
    cases hx : xSs ⟨gl, callF ft gl wf n, wf⟩ fn.body (as.map some ++ List.replicate (fn.nl - fn.np) none) stq with
    | ok z st1 =>
      obtain ⟨fl, env'⟩ := z
      rw [hx] at q
      intro p' H' o' g s' f'
      cases fl with
      | nx => exact q p' H' _ g s' .non'
      | rt y => exact fun v rv => q p' H' v g s' rv
      | xc y => exact fun cls d hy => q p' H' cls d g s' hy
      | br => exact q.elim
      | ct => exact q.elim
    | exc z st1 =>
      rw [hx] at q
      exact q
    | bad =>
      rw [hx] at q
      exact q
  refine wpAny_mono (body.run [] s1 (L2.start N vs) H _ I rd) (fun fl s' hq => ?_) fun e s' hq => hq
  cases fl with
  | ret u =>
    obtain ⟨v, o', H', J, rv, z⟩ := hq
    exact fin J rv z
  | next =>
    obtain ⟨o', H', J, z⟩ := hq
    exact fin (v := V.non) (u := Value.none) J rfl z
  | brk =>
    obtain ⟨_, _, _, z⟩ := hq
    exact z.elim
  | cont =>
    obtain ⟨_, _, _, z⟩ := hq
    exact z.elim
theorem fn_step {cc : CC} {ft : Nat → Option Fn} {gl : Nat → Option PV} {wf n id : Nat} {x : Str} {fn : Fn} (hid : ft id = some fn) (D : DefOk cc K mg x fn) (T : Top cc K mg gl) (hfs : ∀ y j, cc.fns.lookup y = some j → FnI P w K mg base c n (callF ft gl wf n j) y) :
    FnI P w K mg base c (n + 1) (callF ft gl wf (n + 1) id) x := by
  obtain ⟨f, fd, st, N, ps, k, hm, F, hb, S, hc, hnp, hnl⟩ := D.ex
  refine ⟨f, fd, ps, hm, F.kp, hb, fun as s hl => ?_, fn_run hid T hfs F S hc hnp hnl⟩
  unfold callF
  rw [hid]
  show (if as.length = fn.np then _ else _) = _
  rw [if_neg (by rw [hnp]; exact hl)]
/-- every def, at every depth -/
theorem fn_all {cc : CC} {ft : Nat → Option Fn} {gl : Nat → Option PV} {wf : Nat} (T : Top cc K mg gl) (hD : ∀ x id, cc.fns.lookup x = some id → ∃ fn, ft id = some fn ∧ DefOk cc K mg x fn) :
    ∀ n x id, cc.fns.lookup x = some id → FnI P w K mg base c n (callF ft gl wf n id) x
  | 0, x, id, h => by
    obtain ⟨fn, h1, D⟩ := hD x id h
    obtain ⟨f, fd, st, N, ps, k, hm, F, hb, S, hc, hnp, hnl⟩ := D.ex
    exact ⟨f, fd, ps, hm, F.kp, hb, fun _ _ _ => rfl, fun A outer s H args us vs p stq as Q E hr e0 hbd r hs ra q => q.elim⟩
  | n + 1, x, id, h => by
    obtain ⟨fn, h1, D⟩ := hD x id h
    exact fn_step h1 D T (fn_all T hD n)
/-- what a law promises -/
def spL (K : PySem.W.Frag) : Sp := fun vs H Q _ => ∃ (a : Addr) (ns : List Int), vs = [.ref a] ∧ SqL K H a (ns.map V.int) ∧ ns.length ≤ 63 ∧ Only H ∧ ∀ H', Q (.bl true) H'
theorem script_ok {K : PySem.W.Frag} {H : Hp} {a : Addr} {ns : List Int} (h : SqL K H a (ns.map V.int)) (hO : Only H) : VR K [] H (.frl (ns.map PV.int)) (.ref a) := by
  unfold VR
  refine ⟨a, _, rfl, ?_, VRs.ints (wd := ⟨K, fun _ => none, fun _ => ""⟩) ns⟩
  rcases h with (h | ⟨o, h⟩) | h
  · rcases hO a with z | ⟨o, xs, z⟩
    · rw [h] at z
      cases z
    · rw [h] at z
      cases z
  · exact .inl ⟨o, h⟩
  · exact .inr (.inr h)
/-- the law's def, from its interpreted run -/
theorem law_ok (c : Cl) {cc : CC} {ft : Nat → Option Fn} {gl : Nat → Option PV} {wf id : Nat} {x px : Str} {fn : Fn} (T : Top cc K mg gl) (hD : ∀ x id, cc.fns.lookup x = some id → ∃ fn, ft id = some fn ∧ DefOk cc K mg x fn) (hid : ft id = some fn)
    {f : Addr} {fd : FuncData} {st : Stmt} {N : List Str} {k : Nat} (F : FunD K x x (defArgs st) (defBody st) (defScope st) [] [] f fd) (S : FnScope N [px] (defScope st)) (hc : cSs cc N k (defScope st) (defBody st) = some fn.body) (hnp : fn.np = 1) (hnl : fn.nl = N.length)
    (run : ∀ ns : List Int, ns.length ≤ 63 → ∃ st, callF ft gl wf 680 id [.frl (ns.map PV.int)] [] = .ok (.bl true) st) : FnOk P w K mg base (L2.CX P w) 231 f fd [px] (spL K) := by
  refine ⟨fun vs H Q E ⟨a, ns, e, _⟩ => by rw [e]; rfl, fun A outer s H args us vs Q E hr e0 hbd r ⟨a, ns, e, hS, hl, hO, q⟩ => ?_⟩
  subst e
  obtain ⟨st1, hrun⟩ := run ns hl
  have rm : RoomF 680 A := ⟨hr.hd, by have := hr.dp; omega, by have := hr.un; omega⟩
  refine fn_run (P := P) (w := w) (base := base) (c := c) (wf := wf) hid T (fn_all T hD 679) F S hc hnp hnl A outer s H args us [.ref a] [] [] [.frl (ns.map PV.int)] Q E rm e0 hbd r ⟨rfl, .nil, fun k c a e _ => by simp at e⟩ (by unfold VRs; exact ⟨_, _, rfl, script_ok hS hO, by unfold VRs; rfl⟩) ?_
  rw [hrun]
  intro p' H' v g s' rv
  unfold VR at rv
  subst rv
  exact q H'
end
end GI
set_option maxRecDepth 100000
set_option maxHeartbeats 4000000
/-! GH: the head's facts for the interpreter; the law's end. -/
namespace GI
open PySem L2 PySem.Spec PyProof.Rows
mutual
/-- is the value, as the top left it, this one? -/
def gvB (K : PySem.W.Frag) : PV → Value → Bool
  | .non, .none => true
  | .bl b, .bool c => b == c
  | .int i, .int j _ => decide (i = j)
  | .str x, .str y _ => decide (y.cps.toList = x)
  | .tup xs, .ref a => (match K.lookup a with
    | some ⟨.type c, _, .seq its _, _⟩ => decide (c = "tuple") && (decide (its.size ≤ sizeLine) && gvBs K xs its.toList)
    | _ => false)
  | .frl xs, .ref a => (match K.lookup a with
    | some ⟨.type c, none, .seq its _, _⟩ => decide (c = "list") && (decide (its.size ≤ sizeLine) && gvBs K xs its.toList)
    | _ => false)
  | _, _ => false
def gvBs (K : PySem.W.Frag) : List PV → List Value → Bool
  | [], [] => true
  | x :: xs, u :: us => gvB K x u && gvBs K xs us
  | _, _ => false
end
mutual
theorem gvB_ok {K : PySem.W.Frag} : ∀ {x : PV} {u : Value}, gvB K x u = true → ∃ w, RelV w u ∧ ∀ p H, VR K p H x w
  | .non, u, h => by
    cases u <;> first | exact ⟨.non, rfl, fun _ _ => by unfold VR; rfl⟩ | (cases h; done)
  | .bl b, u, h => by
    cases u <;> first
      | (cases h)
      | (rename_i c
         have e : b = c := eq_of_beq (by unfold gvB at h; exact h)
         exact ⟨.bl b, by rw [e]; rfl, fun _ _ => by unfold VR; rfl⟩)
  | .int i, u, h => by
    cases u <;> first
      | (cases h)
      | (rename_i j t
         have e : i = j := of_decide_eq_true (by unfold gvB at h; exact h)
         exact ⟨.int i, ⟨t, by rw [e]⟩, fun _ _ => by unfold VR; rfl⟩)
  | .str x, u, h => by
    cases u <;> first
      | (cases h)
      | (rename_i y t
         have e : y.cps.toList = x := of_decide_eq_true (by unfold gvB at h; exact h)
         exact ⟨.str y, ⟨t, rfl⟩, fun _ _ => by unfold VR; rw [← e]⟩)
  | .tup xs, u, h => by
    cases u <;> first
      | (cases h)
      | (rename_i a
         unfold gvB at h
         cases q : K.lookup a with
         | none => rw [q] at h; cases h
         | some o =>
           obtain ⟨oc, od, dt, sl⟩ := o
           rw [q] at h
           cases oc with
           | type c =>
             cases dt with
             | seq its n =>
               obtain ⟨h1, h2⟩ := He.ba h
               obtain ⟨h3, h4⟩ := He.ba h2
               have e1 : c = "tuple" := of_decide_eq_true h1
               subst e1
               obtain ⟨ws, r1, r2⟩ := gvBs_ok h4
               exact ⟨.ref a, rfl, fun p H => by
                 unfold VR
                 exact ⟨a, ws, rfl, .inr ⟨_, its, n, q, rfl, rfl, of_decide_eq_true h3, r1⟩, r2 p H⟩⟩
             | _ => cases h
           | _ => cases h)
  | .frl xs, u, h => by
    cases u <;> first
      | (cases h)
      | (rename_i a
         unfold gvB at h
         cases q : K.lookup a with
         | none => rw [q] at h; cases h
         | some o =>
           obtain ⟨oc, od, dt, sl⟩ := o
           rw [q] at h
           cases oc with
           | type c =>
             cases od with
             | some _ => cases h
             | none =>
             cases dt with
             | seq its n =>
               obtain ⟨h1, h2⟩ := He.ba h
               obtain ⟨h3, h4⟩ := He.ba h2
               have e1 : c = "list" := of_decide_eq_true h1
               subst e1
               obtain ⟨ws, r1, r2⟩ := gvBs_ok h4
               exact ⟨.ref a, rfl, fun p H => by
                 unfold VR
                 exact ⟨a, ws, rfl, .inr (.inr ⟨_, its, n, q, rfl, rfl, rfl, of_decide_eq_true h3, r1⟩), r2 p H⟩⟩
             | _ => cases h
           | _ => cases h)
  | .ref k, u, h => by cases u <;> cases h
theorem gvBs_ok {K : PySem.W.Frag} : ∀ {xs : List PV} {us : List Value}, gvBs K xs us = true → ∃ ws, Vals ws us ∧ ∀ p H, VRs K p H xs ws
  | [], [], _ => ⟨[], .nil, fun _ _ => by unfold VRs; rfl⟩
  | [], _ :: _, h => by cases h
  | _ :: _, [], h => by cases h
  | x :: xs, u :: us, h => by
    unfold gvBs at h
    obtain ⟨h1, h2⟩ := He.ba h
    obtain ⟨w, r1, r2⟩ := gvB_ok h1
    obtain ⟨ws, r3, r4⟩ := gvBs_ok h2
    exact ⟨w :: ws, .cons r1 r3, fun p H => by
      unfold VRs
      exact ⟨w, ws, rfl, r2 p H, r4 p H⟩⟩
end
theorem lookup_memS {α : Type} {x : Str} {v : α} : ∀ {l : List (Str × α)}, l.lookup x = some v → (x, v) ∈ l
  | [], h => by cases h
  | (b, u) :: r, h => by
    have h2 : (match x == b with | true => some u | false => r.lookup x) = some v := h
    cases q : (x == b) with
    | true =>
      rw [q] at h2
      have e : u = v := Option.some.inj h2
      rw [eq_of_beq q, e]
      exact List.mem_cons_self
    | false =>
      rw [q] at h2
      exact List.mem_cons_of_mem _ (lookup_memS h2)
/-- the global constants as the top left them -/
def glB (gls : List (Str × Nat)) (gl : Nat → Option PV) (K : PySem.W.Frag) : Bool := gls.all fun q => match gl q.2 with
  | some v => (match PySem.W.nsIn K mainGlobals q.1 with
    | some (some u) => gvB K v u
    | _ => false)
  | none => true
theorem top_of {cc : CC} {gl : Nat → Option PV} {K : PySem.W.Frag} {h : Heap} {mg : Str → Option Value} {fa : List He.Fa} {fn : List He.DefD} (X : K.In h) (G : h.Ns mainGlobals mg) (c : He.SaysD fa fn K) (hf : ∀ x ∈ bNames, He.Fa.free x ∈ fa) (hg : glB cc.gls gl K = true) : Top cc K mg gl where
  nb := fun x hx => He.free_ok X G (c.facts (hf x hx))
  gl := fun x g hl v hv => by
    have h1 := List.all_eq_true.mp hg (x, g) (lookup_memS hl)
    rw [show gl (x, g).2 = some v from hv] at h1
    have h2 : (match PySem.W.nsIn K mainGlobals x with
      | some (some u) => gvB K v u
      | _ => false) = true := h1
    cases e : PySem.W.nsIn K mainGlobals x with
    | none =>
      rw [e] at h2
      cases h2
    | some o =>
      rw [e] at h2
      cases o with
      | none => cases h2
      | some u =>
        obtain ⟨w, r1, r2⟩ := gvB_ok h2
        exact ⟨u, w, PySem.W.mg_of X G e, r1, r2⟩
/-- a def of the text -/
structure Dd where
  x : Str
  id : Nat
  at_ : Nat
  N : List Str
  ps : List Str
  fn : Fn
def stAt (q : Program) (i : Nat) : Stmt := q.main.body.getD i (.Pass ⟨0, 0, 0, 0⟩)
def ddD (q : Program) (d : Dd) : He.DefD := ⟨(d.x, none), d.x, d.x, defArgs (stAt q d.at_), defBody (stAt q d.at_), defScope (stAt q d.at_), [], []⟩
structure DdOk (q : Program) (cc : CC) (d : Dd) : Prop where
  bind : ∀ (kV doc pm : Value) (an : Option Addr) (cdv ct : Value) (us : List Value), us.length = d.ps.length → bindArgs (PySem.W.fnOf d.x d.x (defArgs (stAt q d.at_)) (defBody (stAt q d.at_)) (defScope (stAt q d.at_)) .none kV doc pm an cdv ct) ⟨us, []⟩ = pure (d.ps.zip us)
  sc : FnScope d.N d.ps (defScope (stAt q d.at_))
  comp : cSs cc d.N 60 (defScope (stAt q d.at_)) (defBody (stAt q d.at_)) = some d.fn.body
  np : d.fn.np = d.ps.length
  nl : d.fn.nl = d.N.length
theorem def_of {q : Program} {cc : CC} {K : PySem.W.Frag} {h : Heap} {mg : Str → Option Value} {fa : List He.Fa} {fn : List He.DefD} {d : Dd} (X : K.In h) (G : h.Ns mainGlobals mg) (c : He.SaysD fa fn K) (hf : He.Fa.glo d.x ∈ fa) (hd : ddD q d ∈ fn) (o : DdOk q cc d) : DefOk cc K mg d.x d.fn := by
  obtain ⟨fd, F⟩ := c.defs hd
  exact ⟨⟨_, fd, stAt q d.at_, d.N, d.ps, 60, He.glo_ok X G (c.facts hf), F, F.bindsN o.bind, o.sc, o.comp, o.np, o.nl⟩⟩
/-- a law's text: its defs, its constants -/
structure Tx where
  q : Program
  dds : List Dd
  gls : List (Str × Nat)
  gl : Nat → Option PV
def Tx.cc (t : Tx) : CC := ⟨t.dds.map fun d => (d.x, d.id), t.gls⟩
def Tx.ft (t : Tx) (i : Nat) : Option Fn := (t.dds.find? fun d => d.id == i).map (·.fn)
def Tx.fa (t : Tx) : List He.Fa := t.dds.map (fun d => .glo d.x) ++ bNames.map .free
def Tx.fn (t : Tx) : List He.DefD := t.dds.map (ddD t.q)
def Tx.ex (t : Tx) (K : PySem.W.Frag) : Bool := glB t.gls t.gl K
def Tx.hk (t : Tx) (n : Nat) : PySem.W.Hook := He.hookX n t.fa t.fn [] [] t.ex
def Tx.ob (t : Tx) (n : Nat) (s : PySem.W.SharedT) : He.AlX := He.obsX n t.fa t.fn [] [] t.ex (HandSHeadRun.getT s)
theorem Tx.ob_eq (t : Tx) (n : Nat) (s : PySem.W.SharedT) : t.ob n s = (t.hk n).obs s.abs := He.obsX_eq (HandSHeadRun.getT_eq s)
structure Tx.Ok (t : Tx) : Prop where
  all : ∀ d ∈ t.dds, DdOk t.q t.cc d
  one : ∀ d ∈ t.dds, t.ft d.id = some d.fn
theorem Tx.hD {t : Tx} (T : t.Ok) {K : PySem.W.Frag} {h : Heap} {mg : Str → Option Value} (X : K.In h) (G : h.Ns mainGlobals mg) (c : He.SaysD t.fa t.fn K) : ∀ x id, t.cc.fns.lookup x = some id → ∃ fn, t.ft id = some fn ∧ DefOk t.cc K mg x fn := fun x id e => by
  obtain ⟨d, hd, e2⟩ := List.mem_map.mp (lookup_memS e)
  cases e2
  exact ⟨d.fn, T.one d hd, def_of X G c (List.mem_append_left _ (List.mem_map.mpr ⟨d, hd, rfl⟩)) (List.mem_map.mpr ⟨d, hd, rfl⟩) (T.all d hd)⟩
/-- a law, from what holds of every written part -/
theorem walk_ofG {l : PySem.W.OpenLaw} {n k : Nat} {q : Program} {loose : List Str} {XP : (Str → Option Value) → Heap → Prop} {YP : World → Heap → Prop} {d : DefRec} {x : Str}
    (hn : l.most = some n) (hn2 : n ≤ sizeLine) (hdf : d.params.defaults = []) (hr : Room k callerA)
    (F : ∀ (w : World) (mg : Str → Option Value) (fa : Addr) (h : Heap), YP w h → h.Ns mainGlobals mg → mg d.name = some (.ref fa) →
      ∃ (K : PySem.W.Frag) (fd : FuncData) (sp : Sp), K.In h ∧ (∀ (s : Shared) (u : Value), BindsTo s fd ⟨[u], []⟩ [(x, u)]) ∧
        (∀ (H : Hp) (a : Addr) (ns : List Int), ns.length ≤ n → Only H → SqL K H a (ns.map V.int) → sp [.ref a] H (fun v _ => v = .bl true) fun _ _ _ => False) ∧
        ∀ base : Heap, K.In base → base.Ns mainGlobals mg → FnOk l.prog w K mg base (L2.CX l.prog w) k fa fd [x] sp) :
    PySem.W.WalkO q loose XP YP l.row.toRowW d [] (fun f vs => PySem.call f vs) := by
  refine Att.attach_call hn hdf fun w s₀ s₁ mg mb fa o pm cd doc a vs ns G Y ho hd hcd hmg hobj hints hlen hg => ?_
  obtain ⟨K, fd, sp, KX, hb, hsp, hF⟩ := F w mg fa _ Y G.T.g hmg
  exact law_call KX G.T.g G.T.b G.T.builtins G.T.nolimit hg hobj hints (Nat.le_trans hlen hn2) hr hF hb (fun H hO hS => hsp H a ns hlen hO hS) fun H e s' c => by
    obtain ⟨_, _, _, _, _, _, _, _, _, _, _, _, z⟩ := c
    exact z
theorem Tx.walk {l : PySem.W.OpenLaw} {q : Program} {loose : List Str} {XP : (Str → Option Value) → Heap → Prop} {dr : DefRec} {px : Str} {n wf : Nat} (t : Tx) (T : t.Ok) {d : Dd} (hd : d ∈ t.dds) (hps : d.ps = [px]) (hx : dr.name = d.x) (hn : l.most = some 63) (hdf : dr.params.defaults = []) (hp : l.prog = t.q)
    (run : ∀ ns : List Int, ns.length ≤ 63 → ∃ st, callF t.ft t.gl wf 680 d.id [.frl (ns.map PV.int)] [] = .ok (.bl true) st) :
    PySem.W.WalkO q loose XP (t.hk n).says l.row.toRowW dr [] (fun f vs => PySem.call f vs) := by
  refine walk_ofG (l := l) (n := 63) (k := 231) (x := px) hn (by decide) hdf ⟨rfl, by decide, by decide⟩ ?_
  intro w mg fa h Y G hmg
  obtain ⟨K, KX, c⟩ := Y
  have cD := c.t.d
  obtain ⟨fd, F⟩ := cD.defs (List.mem_map.mpr ⟨d, hd, rfl⟩ : ddD t.q d ∈ t.fn)
  have e1 : mg d.x = some (.ref (He.fAd K (ddD t.q d).at_)) := He.glo_ok KX G (cD.facts (List.mem_append_left _ (List.mem_map.mpr ⟨d, hd, rfl⟩)))
  rw [hx] at hmg
  cases hmg.symm.trans e1
  have O := T.all d hd
  refine ⟨K, fd, spL K, KX, fun s u => ?_, fun H a ns hl hO hS => ⟨a, ns, rfl, hS, hl, hO, fun _ => rfl⟩, fun base KB GB => ?_⟩
  · have := F.bindsA O.bind s [u] (by rw [hps]; rfl)
    rw [hps] at this
    exact this
  · refine law_ok (wf := wf) (px := px) ⟨fun _ => none, fun _ => ""⟩ (top_of (cc := t.cc) (gl := t.gl) KB GB cD (fun x hx => List.mem_append_right _ (List.mem_map.mpr ⟨x, hx, rfl⟩)) c.more) (Tx.hD T KB GB cD) (T.one d hd) F (by rw [← hps]; exact O.sc) O.comp (by rw [O.np, hps]; rfl) O.nl run
end GI
set_option maxRecDepth 100000
/-! GA: reckoning with the interpreter: its equations in a handy form. -/
namespace GI
open PySem
def fin : Res (Fl × Fr) → Res PV
  | .ok (.rt v, _) st => .ok v st
  | .ok (.nx, _) st => .ok .non st
  | .ok (.xc x, _) st => .exc x st
  | _ => .bad
@[simp] theorem fin_rt {v env st} : fin (.ok (.rt v, env) st) = .ok v st := rfl
@[simp] theorem fin_nx {env st} : fin (.ok (.nx, env) st) = .ok .non st := rfl
@[simp] theorem fin_xc {x env st} : fin (.ok (.xc x, env) st) = .exc x st := rfl
theorem callF_def {ft : Nat → Option Fn} {gl : Nat → Option PV} {wf n f : Nat} {fn : Fn} {args : List PV} {st : Store} (h : ft f = some fn) (hl : args.length = fn.np) :
    callF ft gl wf (n + 1) f args st = fin (xSs ⟨gl, callF ft gl wf n, wf⟩ fn.body (args.map some ++ List.replicate (fn.nl - fn.np) none) st) := by
  conv => lhs; unfold callF
  rw [h]
  simp only [hl, if_true]
  cases xSs ⟨gl, callF ft gl wf n, wf⟩ fn.body (args.map some ++ List.replicate (fn.nl - fn.np) none) st with
  | ok z st1 => obtain ⟨fl, e⟩ := z; cases fl <;> rfl
  | exc x st1 => rfl
  | bad => rfl
def bcase {α : Type} (x : PV) (t f : Res α) : Res α := match x with
  | .bl true => t
  | .bl false => f
  | _ => .bad
@[simp] theorem bcase_bl {α : Type} (b : Bool) (t f : Res α) : bcase (.bl b) t f = if b = true then t else f := by cases b <;> rfl
def nots (x : PV) (st : Store) : Res PV := match x with
  | .bl b => .ok (.bl (!b)) st
  | _ => .bad
@[simp] theorem nots_bl (b : Bool) (st : Store) : nots (.bl b) st = .ok (.bl (!b)) st := rfl
section
variable {cx : Ck} {env : Fr} {st : Store}
@[simp] theorem qev_and {a b : E} : ev cx (.and a b) env st = (ev cx a env st).bind fun x st1 => bcase x (ev cx b env st1) (.ok (.bl false) st1) := by
  conv => lhs; unfold ev
  rfl
@[simp] theorem qev_or {a b : E} : ev cx (.or a b) env st = (ev cx a env st).bind fun x st1 => bcase x (.ok (.bl true) st1) (ev cx b env st1) := by
  conv => lhs; unfold ev
  rfl
@[simp] theorem qev_not {a : E} : ev cx (.not a) env st = (ev cx a env st).bind nots := by
  conv => lhs; unfold ev
  rfl
@[simp] theorem qev_ite {c a b : E} : ev cx (.ite c a b) env st = (ev cx c env st).bind fun x st1 => bcase x (ev cx a env st1) (ev cx b env st1) := by
  conv => lhs; unfold ev
  rfl
@[simp] theorem qev_chain {o p : Cop} {a b c : E} : ev cx (.chain o p a b c) env st = (ev cx a env st).bind fun x st1 => (ev cx b env st1).bind fun y st2 => (cmpF o x y st2).bind fun k st3 => bcase k ((ev cx c env st3).bind fun z st4 => cmpF p y z st4) (.ok (.bl false) st3) := by
  conv => lhs; unfold ev
  rfl
@[simp] theorem qxS_ife {c : E} {a b : Ss} : xS cx (.ife c a b) env st = (ev cx c env st).lift env fun x st1 => bcase x (xSs cx a env st1) (xSs cx b env st1) := by
  conv => lhs; unfold xS
  rfl
noncomputable def nxt (cx : Ck) (r : Ss) (fe : Fl × Fr) (st : Store) : Res (Fl × Fr) := match fe with
  | (.nx, env1) => xSs cx r env1 st
  | fe => .ok fe st
@[simp] theorem nxt_nx {r : Ss} : nxt cx r (.nx, env) st = xSs cx r env st := rfl
@[simp] theorem nxt_br {r : Ss} : nxt cx r (.br, env) st = .ok (.br, env) st := rfl
@[simp] theorem nxt_ct {r : Ss} : nxt cx r (.ct, env) st = .ok (.ct, env) st := rfl
@[simp] theorem nxt_rt {r : Ss} {v : PV} : nxt cx r (.rt v, env) st = .ok (.rt v, env) st := rfl
@[simp] theorem nxt_xc {r : Ss} {x : Ex} : nxt cx r (.xc x, env) st = .ok (.xc x, env) st := rfl
@[simp] theorem qxSs_cons {s : S} {r : Ss} : xSs cx (.cons s r) env st = (xS cx s env st).bind (nxt cx r) := by
  conv => lhs; unfold xSs
  rfl
@[simp] theorem qxSs_nil : xSs cx .nil env st = .ok (.nx, env) st := by
  unfold xSs
  rfl
def lpn (go : Fr → Store → Res (Fl × Fr)) (fe : Fl × Fr) (st : Store) : Res (Fl × Fr) := match fe with
  | (.nx, env2) => go env2 st
  | (.ct, env2) => go env2 st
  | (.br, env2) => .ok (.nx, env2) st
  | (f, env2) => .ok (f, env2) st
section
variable {go : Fr → Store → Res (Fl × Fr)}
@[simp] theorem lpn_nx : lpn go (.nx, env) st = go env st := rfl
@[simp] theorem lpn_br : lpn go (.br, env) st = .ok (.nx, env) st := rfl
@[simp] theorem lpn_ct : lpn go (.ct, env) st = go env st := rfl
@[simp] theorem lpn_rt {v : PV} : lpn go (.rt v, env) st = .ok (.rt v, env) st := rfl
@[simp] theorem lpn_xc {x : Ex} : lpn go (.xc x, env) st = .ok (.xc x, env) st := rfl
end
theorem forL_nil {w : List (Nat × List PV)} {tg : Tg} {b : Fr → Store → Res (Fl × Fr)} : forL w tg b [] env st = if keeps w st = true then .ok (.nx, env) st else .bad := by
  unfold forL
  rfl
theorem forL_cons {w : List (Nat × List PV)} {tg : Tg} {b : Fr → Store → Res (Fl × Fr)} {x : PV} {r : List PV} : forL w tg b (x :: r) env st = if keeps w st = true then (match bindTg tg x env with
    | none => .bad
    | some env' => (b env' st).bind (lpn (forL w tg b r))) else .bad := by
  conv => lhs; unfold forL
  rfl
theorem whlL_succ {c : Fr → Store → Res PV} {b : Fr → Store → Res (Fl × Fr)} {n : Nat} : whlL c b (n + 1) env st = (c env st).lift env fun v st1 => bcase v ((b env st1).bind (lpn (whlL c b n))) (.ok (.nx, env) st1) := by
  conv => lhs; unfold whlL
  rfl
@[simp] theorem keeps_nil : keeps [] st = true := by
  unfold keeps
  exact @decide_eq_true _ (Classical.propDecidable _) trivial
theorem keeps_one {k : Nat} {xs : List PV} (h : st[k]? = some (.lst xs)) : keeps [(k, xs)] st = true := by
  unfold keeps
  exact @decide_eq_true _ (Classical.propDecidable _) ⟨h, trivial⟩
@[simp] theorem bindTg_one {i : Nat} {v : PV} : bindTg (.one i) v env = some (env.set i (some v)) := rfl
@[simp] theorem bindTg_tup2 {i j : Nat} {v u : PV} : bindTg (.tup [i, j]) (.tup [v, u]) env = some ((env.set i (some v)).set j (some u)) := rfl
@[simp] theorem lift_ite {α : Type} {c : Prop} [Decidable c] {a b : Res α} {f : α → Store → Res (Fl × Fr)} : (if c then a else b).lift env f = if c then a.lift env f else b.lift env f := by split <;> rfl
@[simp] theorem bind_ite {α β : Type} {c : Prop} [Decidable c] {a b : Res α} {f : α → Store → Res β} : (if c then a else b).bind f = if c then a.bind f else b.bind f := by split <;> rfl
@[simp] theorem fin_ite {c : Prop} [Decidable c] {a b : Res (Fl × Fr)} : fin (if c then a else b) = if c then fin a else fin b := by split <;> rfl
@[simp] theorem nxt_ite {cx : Ck} {r : Ss} {c : Prop} [Decidable c] {a b : Fl} : nxt cx r (if c then a else b, env) st = if c then nxt cx r (a, env) st else nxt cx r (b, env) st := by split <;> rfl
@[simp] theorem lpn_ite {go : Fr → Store → Res (Fl × Fr)} {c : Prop} [Decidable c] {a b : Fl} : lpn go (if c then a else b, env) st = if c then lpn go (a, env) st else lpn go (b, env) st := by split <;> rfl
@[simp] theorem ite_bl_false {b c : Bool} : (if b = true then (Res.ok (PV.bl c) st) else .ok (.bl false) st) = .ok (.bl (b && c)) st := by cases b <;> rfl
@[simp] theorem ite_bl_true {b c : Bool} : (if b = true then (Res.ok (PV.bl true) st) else .ok (.bl c) st) = .ok (.bl (b || c)) st := by cases b <;> rfl
theorem bind_bind {α β γ : Type} (r : Res α) (f : α → Store → Res β) (g : β → Store → Res γ) : (r.bind f).bind g = r.bind fun a st => (f a st).bind g := by cases r <;> rfl
end
section
variable {cx : Ck} {env : Fr} {st : Store}
def getV (x : Option (Option PV)) (st : Store) : Res PV := match x with
  | some (some v) => .ok v st
  | _ => .bad
@[simp] theorem getV_ok {v : PV} : getV (some (some v)) st = .ok v st := rfl
@[simp] theorem qev_var {i : Nat} : ev cx (.var i) env st = getV env[i]? st := by
  conv => lhs; unfold ev
  rfl
def getG (x : Option PV) (st : Store) : Res PV := match x with
  | some v => .ok v st
  | none => .bad
@[simp] theorem getG_ok {v : PV} : getG (some v) st = .ok v st := rfl
@[simp] theorem qev_glo {g : Nat} : ev cx (.glo g) env st = getG (cx.gl g) st := by
  conv => lhs; unfold ev
  rfl
@[simp] theorem qev_non : ev cx .non env st = .ok .non st := by unfold ev; rfl
@[simp] theorem qev_bl {b : Bool} : ev cx (.bl b) env st = .ok (.bl b) st := by unfold ev; rfl
@[simp] theorem qev_int {i : Int} : ev cx (.int i) env st = .ok (.int i) st := by unfold ev; rfl
@[simp] theorem qev_str {x : List Nat} : ev cx (.str x) env st = .ok (.str x) st := by unfold ev; rfl
@[simp] theorem qev_bin {op : Bop} {a b : E} : ev cx (.bin op a b) env st = (ev cx a env st).bind fun x st1 => (ev cx b env st1).bind fun y st2 => binF op x y st2 := by conv => lhs; unfold ev
@[simp] theorem qev_cmp {op : Cop} {a b : E} : ev cx (.cmp op a b) env st = (ev cx a env st).bind fun x st1 => (ev cx b env st1).bind fun y st2 => cmpF op x y st2 := by conv => lhs; unfold ev
def negs (x : PV) (st : Store) : Res PV := match x with
  | .int i => .ok (.int (-i)) st
  | _ => .bad
@[simp] theorem negs_int {i : Int} : negs (.int i) st = .ok (.int (-i)) st := rfl
@[simp] theorem qev_neg {a : E} : ev cx (.neg a) env st = (ev cx a env st).bind negs := by
  conv => lhs; unfold ev
  rfl
@[simp] theorem qev_idx {a i : E} : ev cx (.idx a i) env st = (ev cx a env st).bind fun x st1 => (ev cx i env st1).bind fun y st2 => idxF x y st2 := by conv => lhs; unfold ev
def slcG (l h : E) (x y z : PV) (st : Store) : Res PV := match partI l y with
  | none => .bad
  | some lo => match partI h z with
    | none => .bad
    | some hi => slcF lo hi x st
theorem slcG_eq {l h : E} {x y z : PV} {lo hi : Option Int} (h1 : partI l y = some lo) (h2 : partI h z = some hi) : slcG l h x y z st = slcF lo hi x st := by
  unfold slcG
  rw [h1, h2]
@[simp] theorem qev_slc {a l h : E} : ev cx (.slc a l h) env st = (ev cx a env st).bind fun x st1 => (ev cx l env st1).bind fun y st2 => match partI l y with
    | none => .bad
    | some lo => (ev cx h env st2).bind fun z st3 => match partI h z with
      | none => .bad
      | some hi => slcF lo hi x st3 := by
  conv => lhs; unfold ev
  try rfl
def tupG (vs : List PV) (st : Store) : Res PV := if vs.length ≤ SL then .ok (.tup vs) st else .bad
def lstG (vs : List PV) (st : Store) : Res PV := if vs.length ≤ SL then new st (.lst vs) else .bad
@[simp] theorem qev_tup {es : Es} : ev cx (.tup es) env st = (evs cx es env st).bind tupG := by
  conv => lhs; unfold ev
  rfl
@[simp] theorem qev_lst {es : Es} : ev cx (.lst es) env st = (evs cx es env st).bind lstG := by
  conv => lhs; unfold ev
  rfl
@[simp] theorem qev_call {f : Nat} {es : Es} : ev cx (.call f es) env st = (evs cx es env st).bind fun vs st1 => cx.cf f vs st1 := by conv => lhs; unfold ev
@[simp] theorem qev_bi {b : Bi} {es : Es} : ev cx (.bi b es) env st = (evs cx es env st).bind fun vs st1 => biF b vs st1 := by conv => lhs; unfold ev
@[simp] theorem qev_mth {m : Mt} {a : E} {es : Es} : ev cx (.mth m a es) env st = (ev cx a env st).bind fun x st1 => if isLst st1 x = true then (evs cx es env st1).bind fun vs st2 => mtF m x vs st2 else .bad := by conv => lhs; unfold ev
@[simp] theorem qev_comp {own : List Nat} {tg : Tg} {it : It} {el : E} : ev cx (.comp own tg it el) env st = (evI cx it env st).bind fun w st1 => compL w.stay tg (fun _ st => .ok (.bl true) st) (ev cx el) (wipeE env own) w.its [] st1 := by conv => lhs; unfold ev
@[simp] theorem qev_compIf {own : List Nat} {tg : Tg} {it : It} {c el : E} : ev cx (.compIf own tg it c el) env st = (evI cx it env st).bind fun w st1 => compL w.stay tg (ev cx c) (ev cx el) (wipeE env own) w.its [] st1 := by conv => lhs; unfold ev
@[simp] theorem qevs_nil : evs cx .nil env st = .ok [] st := by unfold evs; rfl
@[simp] theorem qevs_cons {e : E} {r : Es} : evs cx (.cons e r) env st = (ev cx e env st).bind fun v st1 => (evs cx r env st1).bind fun vs st2 => .ok (v :: vs) st2 := by conv => lhs; unfold evs
theorem items_ref {k : Nat} {z : List PV} (h : st[k]? = some (.lst z)) : items st (.ref k) = some z := by
  simp [items, h]
theorem listOf_ref {k : Nat} {z : List PV} (h : st[k]? = some (.lst z)) : listOf st (.ref k) = some z := by
  simp [listOf, h]
def walkG (x : PV) (st : Store) : Res Walk := match x with
  | .str z => .ok ⟨z.map fun c => .str [c], []⟩ st
  | x => match items st x with
    | some xs => .ok ⟨xs, stayOf x xs⟩ st
    | none => .bad
@[simp] theorem walkG_str {z : List Nat} : walkG (.str z) st = .ok ⟨z.map fun c => .str [c], []⟩ st := rfl
@[simp] theorem walkG_tup {z : List PV} : walkG (.tup z) st = .ok ⟨z, []⟩ st := rfl
@[simp] theorem walkG_frl {z : List PV} : walkG (.frl z) st = .ok ⟨z, []⟩ st := rfl
theorem walkG_ref {k : Nat} {z : List PV} (h : st[k]? = some (.lst z)) : walkG (.ref k) st = .ok ⟨z, [(k, z)]⟩ st := by
  show (match items st (.ref k) with
    | some xs => Res.ok (⟨xs, stayOf (.ref k) xs⟩ : Walk) st
    | none => .bad) = _
  rw [items_ref h]
  rfl
@[simp] theorem qevI_seq {e : E} : evI cx (.seq e) env st = (ev cx e env st).bind walkG := by
  conv => lhs; unfold evI
  rfl
def rng1G (x : PV) (st : Store) : Res Walk := match x with
  | .int j => if in62 j then .ok ⟨rngI 0 1 j.toNat, []⟩ st else .bad
  | _ => .bad
@[simp] theorem qevI_rng1 {a : E} : evI cx (.rng1 a) env st = (ev cx a env st).bind rng1G := by
  conv => lhs; unfold evI
  rfl
def rng2G (x y : PV) (st : Store) : Res Walk := match x, y with
  | .int i, .int j => if in62 i && in62 j then .ok ⟨rngI i 1 (j - i).toNat, []⟩ st else .bad
  | _, _ => .bad
@[simp] theorem qevI_rng2 {a b : E} : evI cx (.rng2 a b) env st = (ev cx a env st).bind fun x st1 => (ev cx b env st1).bind fun y st2 => rng2G x y st2 := by
  conv => lhs; unfold evI
  rfl
def rng3G (x y z : PV) (st : Store) : Res Walk := match x, y, z with
  | .int i, .int j, .int c => if in62 i && in62 j && c == -1 then .ok ⟨rngI i c (i - j).toNat, []⟩ st else .bad
  | _, _, _ => .bad
@[simp] theorem qevI_rng3 {a b c : E} : evI cx (.rng3 a b c) env st = (ev cx a env st).bind fun x st1 => (ev cx b env st1).bind fun y st2 => (ev cx c env st2).bind fun z st3 => rng3G x y z st3 := by
  conv => lhs; unfold evI
  rfl
def enumG (x : PV) (st : Store) : Res Walk := match listOf st x with
  | some xs => .ok ⟨enumI 0 xs, stayOf x xs⟩ st
  | none => .bad
@[simp] theorem enumG_frl {z : List PV} : enumG (.frl z) st = .ok ⟨enumI 0 z, []⟩ st := rfl
theorem enumG_ref {k : Nat} {z : List PV} (h : st[k]? = some (.lst z)) : enumG (.ref k) st = .ok ⟨enumI 0 z, [(k, z)]⟩ st := by
  unfold enumG
  rw [listOf_ref h]
  rfl
@[simp] theorem qevI_enum {e : E} : evI cx (.enum e) env st = (ev cx e env st).bind enumG := by
  conv => lhs; unfold evI
  rfl
def zipG (x y : PV) (st : Store) : Res Walk := match x, y with
  | .tup xs, .tup ys => .ok ⟨zipI xs ys, []⟩ st
  | x, y => match listOf st x, listOf st y with
    | some xs, some ys => .ok ⟨zipI xs ys, stayOf x xs ++ stayOf y ys⟩ st
    | _, _ => .bad
@[simp] theorem zipG_tup {xs ys : List PV} : zipG (.tup xs) (.tup ys) st = .ok ⟨zipI xs ys, []⟩ st := rfl
theorem zipG_ref {k l : Nat} {xs ys : List PV} (h : st[k]? = some (.lst xs)) (h2 : st[l]? = some (.lst ys)) : zipG (.ref k) (.ref l) st = .ok ⟨zipI xs ys, [(k, xs), (l, ys)]⟩ st := by
  show (match listOf st (.ref k), listOf st (.ref l) with
    | some xs, some ys => Res.ok (⟨zipI xs ys, stayOf (.ref k) xs ++ stayOf (.ref l) ys⟩ : Walk) st
    | _, _ => .bad) = _
  rw [listOf_ref h, listOf_ref h2]
  rfl
@[simp] theorem qevI_zip {a b : E} : evI cx (.zip a b) env st = (ev cx a env st).bind fun x st1 => (ev cx b env st1).bind fun y st2 => zipG x y st2 := by
  conv => lhs; unfold evI
  rfl
def revG (x : PV) (st : Store) : Res Walk := match items st x with
  | some xs => .ok ⟨xs.reverse, stayOf x xs⟩ st
  | none => .bad
@[simp] theorem revG_tup {xs : List PV} : revG (.tup xs) st = .ok ⟨xs.reverse, []⟩ st := rfl
@[simp] theorem qevI_rev {e : E} : evI cx (.rev e) env st = (ev cx e env st).bind revG := by
  conv => lhs; unfold evI
  rfl
/-! statements -/
@[simp] theorem qxS_asg {i : Nat} {e : E} : xS cx (.asg i e) env st = (ev cx e env st).lift env fun v st1 => .ok (.nx, env.set i (some v)) st1 := by conv => lhs; unfold xS
def asgTG (is : List Nat) (env : Fr) (v : PV) (st : Store) : Res (Fl × Fr) := match items st v with
    | some vs => match bindMany is vs env with
      | some env' => .ok (.nx, env') st
      | none => .bad
    | none => .bad
@[simp] theorem asgTG_tup2 {i j : Nat} {v u : PV} : asgTG [i, j] env (.tup [v, u]) st = .ok (.nx, (env.set i (some v)).set j (some u)) st := rfl
@[simp] theorem asgTG_tup3 {i j k : Nat} {v u w : PV} : asgTG [i, j, k] env (.tup [v, u, w]) st = .ok (.nx, ((env.set i (some v)).set j (some u)).set k (some w)) st := rfl
theorem asgTG_ref2 {i j k : Nat} {v u : PV} (h : st[k]? = some (.lst [v, u])) : asgTG [i, j] env (.ref k) st = .ok (.nx, (env.set i (some v)).set j (some u)) st := by
  unfold asgTG
  rw [items_ref h]
  rfl
@[simp] theorem qxS_asgT {is : List Nat} {e : E} : xS cx (.asgT is e) env st = (ev cx e env st).lift env (asgTG is env) := by
  conv => lhs; unfold xS
  rfl
def setG (v x y : PV) (env : Fr) (st : Store) : Res (Fl × Fr) := match setF v x y st with
  | some st4 => .ok (.nx, env) st4
  | none => .bad
@[simp] theorem qxS_setI {e o i : E} : xS cx (.setI e o i) env st = (ev cx e env st).lift env fun v st1 => (ev cx o env st1).lift env fun x st2 => (ev cx i env st2).lift env fun y st3 => setG v x y env st3 := by
  conv => lhs; unfold xS
  rfl
def augG (i : Nat) (op : Bop) (x y : PV) (env : Fr) (st : Store) : Res (Fl × Fr) := match op, x, y with
  | .add, .int a, .int b => .ok (.nx, env.set i (some (.int (a + b)))) st
  | .sub, .int a, .int b => .ok (.nx, env.set i (some (.int (a - b)))) st
  | _, _, _ => .bad
@[simp] theorem augG_add {i : Nat} {a b : Int} : augG i .add (.int a) (.int b) env st = .ok (.nx, env.set i (some (.int (a + b)))) st := rfl
@[simp] theorem augG_sub {i : Nat} {a b : Int} : augG i .sub (.int a) (.int b) env st = .ok (.nx, env.set i (some (.int (a - b)))) st := rfl
noncomputable def augV (cx : Ck) (i : Nat) (op : Bop) (e : E) (env : Fr) (st : Store) (x : Option (Option PV)) : Res (Fl × Fr) := match x with
  | some (some x) => (ev cx e env st).lift env fun y st1 => augG i op x y env st1
  | _ => .bad
@[simp] theorem augV_ok {i : Nat} {op : Bop} {e : E} {x : PV} : augV cx i op e env st (some (some x)) = (ev cx e env st).lift env fun y st1 => augG i op x y env st1 := rfl
@[simp] theorem qxS_aug {i : Nat} {op : Bop} {e : E} : xS cx (.aug i op e) env st = augV cx i op e env st env[i]? := by
  conv => lhs; unfold xS
  rfl
@[simp] theorem qxS_ex {e : E} : xS cx (.ex e) env st = (ev cx e env st).lift env fun _ st1 => .ok (.nx, env) st1 := by conv => lhs; unfold xS
@[simp] theorem qxS_ret {e : E} : xS cx (.ret e) env st = (ev cx e env st).lift env fun v st1 => .ok (.rt v, env) st1 := by conv => lhs; unfold xS
@[simp] theorem qxS_retN : xS cx .retN env st = .ok (.rt .non, env) st := by unfold xS; rfl
@[simp] theorem qxS_brk : xS cx .brk env st = .ok (.br, env) st := by unfold xS; rfl
@[simp] theorem qxS_cnt : xS cx .cnt env st = .ok (.ct, env) st := by unfold xS; rfl
@[simp] theorem qxS_pass : xS cx .pass env st = .ok (.nx, env) st := by unfold xS; rfl
@[simp] theorem qxS_forr {tg : Tg} {it : It} {b : Ss} : xS cx (.forr tg it b) env st = (evI cx it env st).lift env fun w st1 => forL w.stay tg (xSs cx b) w.its env st1 := by conv => lhs; unfold xS
@[simp] theorem qxS_whl {c : E} {b : Ss} : xS cx (.whl c b) env st = whlL (ev cx c) (xSs cx b) cx.wf env st := by conv => lhs; unfold xS
@[simp] theorem partI_non {v : PV} : partI .non v = some none := rfl
@[simp] theorem partI_var {j : Nat} {i : Int} : partI (.var j) (.int i) = some (some i) := rfl
@[simp] theorem partI_int {j : Int} {i : Int} : partI (.int j) (.int i) = some (some i) := rfl
@[simp] theorem partI_bin {o : Bop} {a b : E} {i : Int} : partI (.bin o a b) (.int i) = some (some i) := rfl
@[simp] theorem partI_neg {a : E} {i : Int} : partI (.neg a) (.int i) = some (some i) := rfl
theorem slcR {k : Nat} {xs : List PV} {lo hi : Option Int} (h : st[k]? = some (.lst xs)) : slcF lo hi (.ref k) st = .ok (.ref st.length) (st ++ [.lst (cutP xs lo hi)]) := by
  show (match listOf st (.ref k) with
    | some xs => new st (.lst (cutP xs lo hi))
    | none => .bad) = _
  rw [listOf_ref h]
  rfl
theorem slcFr {xs : List PV} {lo hi : Option Int} : slcF lo hi (.frl xs) st = .ok (.ref st.length) (st ++ [.lst (cutP xs lo hi)]) := rfl
theorem slcT {xs : List PV} {lo hi : Option Int} : slcF lo hi (.tup xs) st = .ok (.tup (cutP xs lo hi)) st := rfl
theorem slcS {xs : List Nat} {lo hi : Option Int} : slcF lo hi (.str xs) st = if xs.length ≤ SL then .ok (.str (cutP xs lo hi)) st else .bad := rfl
theorem cutP_nat {α : Type} (xs : List α) (a b : Nat) : cutP xs (some (a : Int)) (some (b : Int)) = (xs.drop a).take (b - a) := by
  unfold cutP
  rw [HT.sIx_nat, HT.sIx_nat]
  by_cases h : a ≤ xs.length
  · rw [Nat.min_eq_left h]
    by_cases h2 : b ≤ xs.length
    · rw [Nat.min_eq_left h2]
    · rw [Nat.min_eq_right (by omega), List.take_of_length_le (by simp), List.take_of_length_le (by simp; omega)]
  · rw [List.drop_eq_nil_of_le (by omega), List.drop_eq_nil_of_le (by omega)]
    simp
theorem cutP_from {α : Type} (xs : List α) (a : Nat) : cutP xs (some (a : Int)) none = xs.drop a := by
  unfold cutP
  rw [HT.sIx_nat, HT.sIx_none]
  by_cases h : a ≤ xs.length
  · rw [Nat.min_eq_left h, List.take_of_length_le (by simp)]
  · rw [List.drop_eq_nil_of_le (by omega), List.drop_eq_nil_of_le (by omega)]
    simp
theorem isLst_ref {k : Nat} {xs : List PV} (h : st[k]? = some (.lst xs)) : isLst st (.ref k) = true := by
  simp [isLst, h]
theorem mt_append {k : Nat} {xs : List PV} {y : PV} (h : st[k]? = some (.lst xs)) : mtF .append (.ref k) [y] st = if xs.length < SL then .ok .non (st.set k (.lst (xs ++ [y]))) else .bad := by
  simp [mtF, h, putC]
theorem mt_pop {k : Nat} {xs : List PV} {y : PV} (h : st[k]? = some (.lst (xs ++ [y]))) : mtF .pop (.ref k) [] st = .ok y (st.set k (.lst xs)) := by
  simp [mtF, h, putC]
@[simp] theorem at_end {c : Cell} : (st ++ [c])[st.length]? = some c := by simp
@[simp] theorem set_end {c d : Cell} : (st ++ [c]).set st.length d = st ++ [d] := by simp
/-! operations -/
@[simp] theorem bin_addI {i j : Int} : binF .add (.int i) (.int j) st = .ok (.int (i + j)) st := rfl
@[simp] theorem bin_subI {i j : Int} : binF .sub (.int i) (.int j) st = .ok (.int (i - j)) st := rfl
@[simp] theorem bin_addS {x y : List Nat} : binF .add (.str x) (.str y) st = if x.length + y.length ≤ SL then .ok (.str (x ++ y)) st else .bad := rfl
@[simp] theorem bin_addT {x y : List PV} : binF .add (.tup x) (.tup y) st = if x.length + y.length ≤ SL then .ok (.tup (x ++ y)) st else .bad := rfl
@[simp] theorem bin_mod {i j : Int} : binF .mod (.int i) (.int j) st = if 0 < j then .ok (.int (i % j)) st else .bad := rfl
@[simp] theorem bin_fdiv {i j : Int} : binF .fdiv (.int i) (.int j) st = if 0 < j ∧ j < 1073741824 then .ok (.int (i / j)) st else .bad := rfl
@[simp] theorem bin_mul {i j : Int} : binF .mul (.int i) (.int j) st = if (-(2 ^ 64) < i ∧ i < 2 ^ 64) ∨ (-(2 ^ 64) < j ∧ j < 2 ^ 64) then .ok (.int (i * j)) st else .bad := rfl
@[simp] theorem bin_pow {i j : Int} : binF .pow (.int i) (.int j) st = if 0 ≤ j ∧ j ≤ 1000000 ∧ i.natAbs < 2 ^ 64 then .ok (.int (i ^ j.toNat)) st else .bad := rfl
@[simp] theorem cmp_eq {a b : PV} : cmpF .eq a b st = ofB st (eqF a b st) := rfl
@[simp] theorem cmp_ne {a b : PV} : cmpF .ne a b st = ofB st ((eqF a b st).map (! ·)) := rfl
@[simp] theorem cmp_lt {i j : Int} : cmpF .lt (.int i) (.int j) st = .ok (.bl (decide (i < j))) st := rfl
@[simp] theorem cmp_gt {i j : Int} : cmpF .gt (.int i) (.int j) st = .ok (.bl (decide (j < i))) st := rfl
@[simp] theorem cmp_le {i j : Int} : cmpF .le (.int i) (.int j) st = .ok (.bl (!decide (j < i))) st := rfl
@[simp] theorem cmp_ge {i j : Int} : cmpF .ge (.int i) (.int j) st = .ok (.bl (!decide (i < j))) st := rfl
@[simp] theorem cmp_leS {i j : List Nat} : cmpF .le (.str i) (.str j) st = .ok (.bl (!decide (j < i))) st := rfl
@[simp] theorem cmp_isN {a : PV} : cmpF .isN a .non st = .ok (.bl (isNon a)) st := rfl
@[simp] theorem cmp_notN {a : PV} : cmpF .notN a .non st = .ok (.bl (!isNon a)) st := rfl
@[simp] theorem cmp_inn {a b : PV} : cmpF .inn a b st = ofB st (inF a b st) := rfl
@[simp] theorem cmp_nin {a b : PV} : cmpF .nin a b st = ofB st ((inF a b st).map (! ·)) := rfl
@[simp] theorem eqF_str {x y : List Nat} : eqF (.str x) (.str y) st = some (x == y) := rfl
@[simp] theorem eqF_int {x y : Int} : eqF (.int x) (.int y) st = some (x == y) := rfl
@[simp] theorem eqF_bl {x y : Bool} : eqF (.bl x) (.bl y) st = some (x == y) := rfl
theorem atI_nat {α : Type} (xs : List α) (k : Nat) : L2.atI xs (k : Int) = xs[k]? := by
  unfold L2.atI L2.ixN
  rw [if_pos (by omega)]
  by_cases h : k < xs.length
  · rw [if_pos (by omega)]
    simp
  · rw [if_neg (by omega), List.getElem?_eq_none (by omega)]
    rfl
def ixS (c : Option Nat) (st : Store) : Res PV := match c with
  | some c => .ok (.str [c]) st
  | none => .bad
@[simp] theorem ixS_some {c : Nat} : ixS (some c) st = .ok (.str [c]) st := rfl
def ixV (c : Option PV) (st : Store) : Res PV := match c with
  | some v => .ok v st
  | none => .bad
@[simp] theorem ixV_some {c : PV} : ixV (some c) st = .ok c st := rfl
theorem idxS {x : List Nat} {i : Int} : idxF (.str x) (.int i) st = if x.length ≤ SL then ixS (L2.atI x i) st else .bad := rfl
theorem idxT {x : List PV} {i : Int} : idxF (.tup x) (.int i) st = ixV (L2.atI x i) st := rfl
theorem idxFr {x : List PV} {i : Int} : idxF (.frl x) (.int i) st = ixV (L2.atI x i) st := rfl
theorem idxR {k : Nat} {x : List PV} {i : Int} (h : st[k]? = some (.lst x)) : idxF (.ref k) (.int i) st = ixV (L2.atI x i) st := by
  show (match items st (.ref k) with
    | some xs => (match L2.atI xs i with
      | some v => Res.ok v st
      | none => .bad)
    | none => .bad) = _
  rw [items_ref h]
  rfl
@[simp] theorem idxS0 {c : Nat} {r : List Nat} : idxF (.str (c :: r)) (.int 0) st = if r.length + 1 ≤ SL then .ok (.str [c]) st else .bad := by
  rw [idxS, show (0 : Int) = ((0 : Nat) : Int) from rfl, atI_nat]
  rfl
@[simp] theorem idxT0 {c : PV} {r : List PV} : idxF (.tup (c :: r)) (.int 0) st = .ok c st := by
  rw [idxT, show (0 : Int) = ((0 : Nat) : Int) from rfl, atI_nat]
  rfl
@[simp] theorem idxT1 {a c : PV} {r : List PV} : idxF (.tup (a :: c :: r)) (.int 1) st = .ok c st := by
  rw [idxT, show (1 : Int) = ((1 : Nat) : Int) from rfl, atI_nat]
  rfl
@[simp] theorem idxT2 {a b c : PV} {r : List PV} : idxF (.tup (a :: b :: c :: r)) (.int 2) st = .ok c st := by
  rw [idxT, show (2 : Int) = ((2 : Nat) : Int) from rfl, atI_nat]
  rfl
@[simp] theorem isNon_non : isNon .non = true := rfl
@[simp] theorem isNon_tup {xs : List PV} : isNon (.tup xs) = false := rfl
@[simp] theorem isNon_str {xs : List Nat} : isNon (.str xs) = false := rfl
@[simp] theorem isNon_int {i : Int} : isNon (.int i) = false := rfl
@[simp] theorem isNon_bl {i : Bool} : isNon (.bl i) = false := rfl
@[simp] theorem isNon_ref {i : Nat} : isNon (.ref i) = false := rfl
@[simp] theorem bi_lenS {x : List Nat} : biF .len [.str x] st = if x.length ≤ SL then .ok (.int x.length) st else .bad := rfl
@[simp] theorem bi_lenT {x : List PV} : biF .len [.tup x] st = .ok (.int x.length) st := rfl
@[simp] theorem bi_lenF {x : List PV} : biF .len [.frl x] st = .ok (.int x.length) st := rfl
theorem bi_lenR {k : Nat} {x : List PV} (h : st[k]? = some (.lst x)) : biF .len [.ref k] st = .ok (.int x.length) st := by
  have e : items st (.ref k) = some x := items_ref h
  show (match items st (.ref k) with
    | some xs => Res.ok (PV.int xs.length) st
    | none => .bad) = _
  rw [e]
@[simp] theorem bi_isi {t : Ty} {a : PV} : biF (.isi t) [a] st = ofB st (tyF st t a) := rfl
@[simp] theorem ty_str {x : List Nat} : tyF st .str (.str x) = some true := rfl
@[simp] theorem ty_tup {x : List PV} : tyF st .tuple (.tup x) = some true := rfl
@[simp] theorem ty_strT {x : List PV} : tyF st .str (.tup x) = some false := rfl
@[simp] theorem ty_boolB {x : Bool} : tyF st .bool (.bl x) = some true := rfl
@[simp] theorem ty_boolI {x : Int} : tyF st .bool (.int x) = some false := rfl
@[simp] theorem ty_boolS {x : List Nat} : tyF st .bool (.str x) = some false := rfl
@[simp] theorem ty_boolT {x : List PV} : tyF st .bool (.tup x) = some false := rfl
@[simp] theorem ty_boolN : tyF st .bool .non = some false := rfl
@[simp] theorem bi_intI {i : Int} : biF .int [.int i] st = .ok (.int i) st := rfl
@[simp] theorem bi_intB {b : Bool} : biF .int [.bl b] st = .ok (.int (if b then 1 else 0)) st := rfl
@[simp] theorem bi_strI {i : Int} : biF .str [.int i] st = if i.natAbs.log2 < 1920 then .ok (.str (numTxt i)) st else .bad := rfl
end
section
variable {st : Store} {a b c d e f g h i j k l : PV}
@[simp] theorem tupG_0 : tupG [] st = .ok (.tup []) st := rfl
@[simp] theorem lstG_0 : lstG [] st = .ok (.ref st.length) (st ++ [.lst []]) := rfl
@[simp] theorem tupG_1 : tupG [a] st = .ok (.tup [a]) st := rfl
@[simp] theorem lstG_1 : lstG [a] st = .ok (.ref st.length) (st ++ [.lst [a]]) := rfl
@[simp] theorem tupG_2 : tupG [a, b] st = .ok (.tup [a, b]) st := rfl
@[simp] theorem lstG_2 : lstG [a, b] st = .ok (.ref st.length) (st ++ [.lst [a, b]]) := rfl
@[simp] theorem tupG_3 : tupG [a, b, c] st = .ok (.tup [a, b, c]) st := rfl
@[simp] theorem lstG_3 : lstG [a, b, c] st = .ok (.ref st.length) (st ++ [.lst [a, b, c]]) := rfl
@[simp] theorem tupG_4 : tupG [a, b, c, d] st = .ok (.tup [a, b, c, d]) st := rfl
@[simp] theorem lstG_4 : lstG [a, b, c, d] st = .ok (.ref st.length) (st ++ [.lst [a, b, c, d]]) := rfl
@[simp] theorem tupG_5 : tupG [a, b, c, d, e] st = .ok (.tup [a, b, c, d, e]) st := rfl
@[simp] theorem lstG_5 : lstG [a, b, c, d, e] st = .ok (.ref st.length) (st ++ [.lst [a, b, c, d, e]]) := rfl
@[simp] theorem tupG_6 : tupG [a, b, c, d, e, f] st = .ok (.tup [a, b, c, d, e, f]) st := rfl
@[simp] theorem lstG_6 : lstG [a, b, c, d, e, f] st = .ok (.ref st.length) (st ++ [.lst [a, b, c, d, e, f]]) := rfl
@[simp] theorem tupG_7 : tupG [a, b, c, d, e, f, g] st = .ok (.tup [a, b, c, d, e, f, g]) st := rfl
@[simp] theorem lstG_7 : lstG [a, b, c, d, e, f, g] st = .ok (.ref st.length) (st ++ [.lst [a, b, c, d, e, f, g]]) := rfl
@[simp] theorem tupG_8 : tupG [a, b, c, d, e, f, g, h] st = .ok (.tup [a, b, c, d, e, f, g, h]) st := rfl
@[simp] theorem lstG_8 : lstG [a, b, c, d, e, f, g, h] st = .ok (.ref st.length) (st ++ [.lst [a, b, c, d, e, f, g, h]]) := rfl
@[simp] theorem tupG_9 : tupG [a, b, c, d, e, f, g, h, i] st = .ok (.tup [a, b, c, d, e, f, g, h, i]) st := rfl
@[simp] theorem lstG_9 : lstG [a, b, c, d, e, f, g, h, i] st = .ok (.ref st.length) (st ++ [.lst [a, b, c, d, e, f, g, h, i]]) := rfl
@[simp] theorem tupG_10 : tupG [a, b, c, d, e, f, g, h, i, j] st = .ok (.tup [a, b, c, d, e, f, g, h, i, j]) st := rfl
@[simp] theorem lstG_10 : lstG [a, b, c, d, e, f, g, h, i, j] st = .ok (.ref st.length) (st ++ [.lst [a, b, c, d, e, f, g, h, i, j]]) := rfl
@[simp] theorem tupG_11 : tupG [a, b, c, d, e, f, g, h, i, j, k] st = .ok (.tup [a, b, c, d, e, f, g, h, i, j, k]) st := rfl
@[simp] theorem lstG_11 : lstG [a, b, c, d, e, f, g, h, i, j, k] st = .ok (.ref st.length) (st ++ [.lst [a, b, c, d, e, f, g, h, i, j, k]]) := rfl
@[simp] theorem tupG_12 : tupG [a, b, c, d, e, f, g, h, i, j, k, l] st = .ok (.tup [a, b, c, d, e, f, g, h, i, j, k, l]) st := rfl
@[simp] theorem lstG_12 : lstG [a, b, c, d, e, f, g, h, i, j, k, l] st = .ok (.ref st.length) (st ++ [.lst [a, b, c, d, e, f, g, h, i, j, k, l]]) := rfl
end
@[simp] theorem ofB_some (st : Store) (b : Bool) : ofB st (some b) = .ok (.bl b) st := rfl
/-- a loop that ends early by return, at the first item that is not so -/
theorem forL_all {α : Type} {w : List (Nat × List PV)} {b : Fr → Store → Res (Fl × Fr)} {env : Fr} {st : Store} {i : Nat} {f : α → PV} {p : α → Bool} {v : PV} (hw : keeps w st = true) : ∀ (r : List α) (o : Option PV),
    (∀ c ∈ r, b (env.set i (some (f c))) st = .ok (if p c = true then .nx else .rt v, env.set i (some (f c))) st) → ∃ o', forL w (.one i) b (r.map f) (env.set i o) st = .ok (if r.all p = true then .nx else .rt v, env.set i o') st
  | [], o, _ => ⟨o, by simp [forL_nil, hw]⟩
  | c :: r, o, h => by
    obtain ⟨o', ih⟩ := forL_all hw r (some (f c)) fun d hd => h d (List.mem_cons_of_mem _ hd)
    cases hp : p c with
    | true =>
      refine ⟨o', ?_⟩
      rw [List.map_cons, forL_cons, if_pos hw]
      simp only [bindTg_one, List.set_set, h c List.mem_cons_self, hp, if_true, Res.bind_ok, lpn_nx, ih, List.all_cons, Bool.true_and]
    | false =>
      refine ⟨some (f c), ?_⟩
      rw [List.map_cons, forL_cons, if_pos hw]
      simp [List.set_set, h c List.mem_cons_self, hp]
theorem SL_eq : SL = 16777216 := by decide
end GI
set_option maxRecDepth 100000
/-! GP: the program's defs as terms. -/
namespace GP
open GI
def b_is_name0 : Ss := (.cons (.ife (.cmp .nin (.var 1) (.glo 141)) (.cons (.ret (.bl false)) .nil) .nil) .nil)
def fn_is_name : Fn := ⟨1, 2, (.cons (.ife (.or (.not (.bi (.isi .str) (.cons (.var 0) .nil))) (.or (.not (.chain .le .le (.int 1) (.bi .len (.cons (.var 0) .nil)) (.int 8))) (.cmp .inn (.var 0) (.glo 143)))) (.cons (.ret (.bl false)) .nil) .nil) (.cons (.forr (.one 1) (.seq (.var 0)) b_is_name0) (.cons (.ret (.bl true)) .nil)))⟩
def b_is_number0 : Ss := (.cons (.ife (.cmp .nin (.var 1) (.glo 140)) (.cons (.ret (.bl false)) .nil) .nil) .nil)
def fn_is_number : Fn := ⟨1, 2, (.cons (.ife (.or (.not (.bi (.isi .str) (.cons (.var 0) .nil))) (.or (.not (.chain .le .le (.int 1) (.bi .len (.cons (.var 0) .nil)) (.int 18))) (.and (.cmp .eq (.idx (.var 0) (.int 0)) (.str [48])) (.cmp .gt (.bi .len (.cons (.var 0) .nil)) (.int 1))))) (.cons (.ret (.bl false)) .nil) .nil) (.cons (.forr (.one 1) (.seq (.var 0)) b_is_number0) (.cons (.ret (.bl true)) .nil)))⟩
def b_is_odd0 : Ss := (.cons (.ife (.or (.not (.chain .le .le (.str [33]) (.var 1) (.str [126]))) (.cmp .inn (.var 1) (.str [40, 41]))) (.cons (.ret (.bl false)) .nil) .nil) .nil)
def fn_is_odd : Fn := ⟨1, 2, (.cons (.ife (.or (.not (.bi (.isi .str) (.cons (.var 0) .nil))) (.not (.chain .le .le (.int 1) (.bi .len (.cons (.var 0) .nil)) (.int 60)))) (.cons (.ret (.bl false)) .nil) .nil) (.cons (.ife (.or (.call 142 (.cons (.var 0) .nil)) (.or (.cmp .inn (.var 0) (.glo 142)) (.call 144 (.cons (.var 0) .nil)))) (.cons (.ret (.bl false)) .nil) .nil) (.cons (.forr (.one 1) (.seq (.var 0)) b_is_odd0) (.cons (.ret (.bl true)) .nil))))⟩
def b_held_pieces0 : Ss := (.cons (.ife (.and (.cmp .eq (.var 3) (.str [41])) (.cmp .eq (.var 2) (.int 0))) (.cons .cnt .nil) .nil) (.cons (.ife (.cmp .eq (.var 3) (.str [40])) (.cons (.aug 2 .add (.int 1)) .nil) .nil) (.cons (.ife (.cmp .eq (.var 3) (.str [41])) (.cons (.aug 2 .sub (.int 1)) .nil) .nil) (.cons (.ex (.mth .append (.var 1) (.cons (.var 3) .nil))) .nil))))
def fn_held_pieces : Fn := ⟨1, 4, (.cons (.asg 1 (.lst .nil)) (.cons (.asg 2 (.int 0)) (.cons (.forr (.one 3) (.seq (.var 0)) b_held_pieces0) (.cons (.ret (.var 1)) .nil))))⟩
def b_pieces_of0 : Ss := (.cons (.ife (.cmp .inn (.var 3) (.str [32, 9, 10, 40, 41])) (.cons (.ife (.cmp .ne (.var 2) (.str [])) (.cons (.ex (.mth .append (.var 1) (.cons (.var 2) .nil))) .nil) .nil) (.cons (.asg 2 (.str [])) (.cons (.ife (.cmp .inn (.var 3) (.str [40, 41])) (.cons (.ex (.mth .append (.var 1) (.cons (.var 3) .nil))) .nil) .nil) .nil))) (.cons (.asg 2 (.bin .add (.var 2) (.var 3))) .nil)) .nil)
def fn_pieces_of : Fn := ⟨1, 4, (.cons (.asg 1 (.lst .nil)) (.cons (.asg 2 (.str [])) (.cons (.forr (.one 3) (.seq (.var 0)) b_pieces_of0) (.cons (.ife (.cmp .ne (.var 2) (.str [])) (.cons (.ex (.mth .append (.var 1) (.cons (.var 2) .nil))) .nil) .nil) (.cons (.ret (.var 1)) .nil)))))⟩
def fn_leaf_of : Fn := ⟨2, 2, (.cons (.ife (.cmp .eq (.var 0) (.str [63])) (.cons (.ret (.glo 7)) .nil) .nil) (.cons (.ife (.or (.cmp .eq (.var 0) (.str [121, 101, 115])) (.cmp .eq (.var 0) (.str [110, 111]))) (.cons (.ret (.tup (.cons (.str [116, 114, 117, 116, 104]) (.cons (.cmp .eq (.var 0) (.str [121, 101, 115])) (.cons (.tup .nil) .nil))))) .nil) .nil) (.cons (.ife (.call 144 (.cons (.var 0) .nil)) (.cons (.ret (.tup (.cons (.str [110, 117, 109]) (.cons (.bi .int (.cons (.var 0) .nil)) (.cons (.tup .nil) .nil))))) .nil) .nil) (.cons (.ife (.call 142 (.cons (.var 0) .nil)) (.cons (.ret (.tup (.cons (.str [110, 97, 109, 101]) (.cons (.var 0) (.cons (.tup .nil) .nil))))) .nil) .nil) (.cons (.ife (.and (.call 145 (.cons (.var 0) .nil)) (.cmp .nin (.var 0) (.var 1))) (.cons (.ret (.tup (.cons (.str [111, 100, 100]) (.cons (.var 0) (.cons (.tup .nil) .nil))))) .nil) .nil) (.cons (.ret .non) .nil))))))⟩
def fn_name_from : Fn := ⟨2, 2, (.cons (.ife (.and (.cmp .lt (.var 1) (.bi .len (.cons (.var 0) .nil))) (.call 142 (.cons (.idx (.var 0) (.var 1)) .nil))) (.cons (.ret (.tup (.cons (.idx (.var 0) (.var 1)) (.cons (.bin .add (.var 1) (.int 1)) .nil)))) .nil) .nil) (.cons (.ret (.tup (.cons (.str [95]) (.cons (.var 1) .nil)))) .nil))⟩
def fn_part_begins : Fn := ⟨3, 3, (.cons (.ife (.cmp .ge (.var 1) (.bi .len (.cons (.var 0) .nil))) (.cons (.ret (.bl false)) .nil) .nil) (.cons (.ret (.or (.cmp .inn (.idx (.var 0) (.var 1)) (.tup (.cons (.str [40]) (.cons (.str [102, 110]) (.cons (.str [114, 101, 99]) (.cons (.str [108, 101, 116]) (.cons (.str [105, 102]) .nil))))))) (.cmp .notN (.call 340 (.cons (.idx (.var 0) (.var 1)) (.cons (.var 2) .nil))) .non))) .nil))⟩
def fn_past_word : Fn := ⟨3, 3, (.cons (.ife (.cmp .eq (.slc (.var 0) (.var 1) (.bin .add (.var 1) (.int 1))) (.lst (.cons (.var 2) .nil))) (.cons (.ret (.bin .add (.var 1) (.int 1))) .nil) .nil) (.cons (.ret (.var 1)) .nil))⟩
def fn_read : Fn := ⟨1, 3, (.cons (.asgT [1, 2] (.call 346 (.cons (.call 320 (.cons (.call 321 (.cons (.var 0) .nil)) .nil)) (.cons (.int 0) (.cons (.tup .nil) .nil))))) (.cons (.ret (.var 1)) .nil))⟩
def c_read_call0 : E := (.call 342 (.cons (.var 0) (.cons (.var 1) (.cons (.var 2) .nil))))
def b_read_call0 : Ss := (.cons (.asgT [4, 1] (.call 350 (.cons (.var 0) (.cons (.var 1) (.cons (.var 2) .nil))))) (.cons (.asg 3 (.tup (.cons (.str [99, 97, 108, 108]) (.cons .non (.cons (.tup (.cons (.var 3) (.cons (.var 4) .nil))) .nil))))) .nil))
def fn_read_call : Fn := ⟨3, 5, (.cons (.asgT [3, 1] (.call 350 (.cons (.var 0) (.cons (.var 1) (.cons (.var 2) .nil))))) (.cons (.whl c_read_call0 b_read_call0) (.cons (.ret (.tup (.cons (.var 3) (.cons (.var 1) .nil)))) .nil)))⟩
def c_read_form0 : E := (.cmp .gt (.call 343 (.cons (.var 0) (.cons (.var 1) (.cons (.str [60]) .nil)))) (.var 1))
def b_read_form0 : Ss := (.cons (.asgT [4, 1] (.call 351 (.cons (.var 0) (.cons (.bin .add (.var 1) (.int 1)) (.cons (.var 2) .nil))))) (.cons (.asg 3 (.tup (.cons (.str [108, 101, 115, 115]) (.cons .non (.cons (.tup (.cons (.var 3) (.cons (.var 4) .nil))) .nil))))) .nil))
def fn_read_form : Fn := ⟨3, 5, (.cons (.asgT [3, 1] (.call 351 (.cons (.var 0) (.cons (.var 1) (.cons (.var 2) .nil))))) (.cons (.whl c_read_form0 b_read_form0) (.cons (.ret (.tup (.cons (.var 3) (.cons (.var 1) .nil)))) .nil)))⟩
def fn_read_function : Fn := ⟨4, 7, (.cons (.asgT [4, 1] (.call 341 (.cons (.var 0) (.cons (.var 1) .nil)))) (.cons (.ife (.cmp .eq (.var 3) (.str [114, 101, 99])) (.cons (.asgT [5, 1] (.call 341 (.cons (.var 0) (.cons (.var 1) .nil)))) (.cons (.asg 4 (.tup (.cons (.var 4) (.cons (.var 5) .nil)))) .nil)) .nil) (.cons (.asgT [6, 1] (.call 346 (.cons (.var 0) (.cons (.call 343 (.cons (.var 0) (.cons (.var 1) (.cons (.str [61, 62]) .nil)))) (.cons (.var 2) .nil))))) (.cons (.ret (.tup (.cons (.tup (.cons (.var 3) (.cons (.var 4) (.cons (.tup (.cons (.var 6) .nil)) .nil)))) (.cons (.var 1) .nil)))) .nil))))⟩
def fn_read_if : Fn := ⟨3, 6, (.cons (.asgT [3, 1] (.call 346 (.cons (.var 0) (.cons (.var 1) (.cons (.bin .add (.var 2) (.tup (.cons (.str [116, 104, 101, 110]) (.cons (.str [101, 108, 115, 101]) .nil)))) .nil))))) (.cons (.asgT [4, 1] (.call 346 (.cons (.var 0) (.cons (.call 343 (.cons (.var 0) (.cons (.var 1) (.cons (.str [116, 104, 101, 110]) .nil)))) (.cons (.bin .add (.var 2) (.tup (.cons (.str [101, 108, 115, 101]) .nil))) .nil))))) (.cons (.asgT [5, 1] (.call 346 (.cons (.var 0) (.cons (.call 343 (.cons (.var 0) (.cons (.var 1) (.cons (.str [101, 108, 115, 101]) .nil)))) (.cons (.var 2) .nil))))) (.cons (.ret (.tup (.cons (.tup (.cons (.str [105, 102]) (.cons .non (.cons (.tup (.cons (.var 3) (.cons (.var 4) (.cons (.var 5) .nil)))) .nil)))) (.cons (.var 1) .nil)))) .nil))))⟩
def fn_read_let : Fn := ⟨3, 6, (.cons (.asgT [3, 1] (.call 341 (.cons (.var 0) (.cons (.var 1) .nil)))) (.cons (.asgT [4, 1] (.call 346 (.cons (.var 0) (.cons (.call 343 (.cons (.var 0) (.cons (.var 1) (.cons (.str [61]) .nil)))) (.cons (.bin .add (.var 2) (.tup (.cons (.str [105, 110]) .nil))) .nil))))) (.cons (.asgT [5, 1] (.call 346 (.cons (.var 0) (.cons (.call 343 (.cons (.var 0) (.cons (.var 1) (.cons (.str [105, 110]) .nil)))) (.cons (.var 2) .nil))))) (.cons (.ret (.tup (.cons (.tup (.cons (.str [108, 101, 116]) (.cons (.var 3) (.cons (.tup (.cons (.var 4) (.cons (.var 5) .nil))) .nil)))) (.cons (.var 1) .nil)))) .nil))))⟩
def fn_read_part : Fn := ⟨3, 5, (.cons (.ife (.not (.call 342 (.cons (.var 0) (.cons (.var 1) (.cons (.var 2) .nil))))) (.cons (.ret (.tup (.cons (.glo 7) (.cons (.var 1) .nil)))) .nil) .nil) (.cons (.asg 3 (.idx (.var 0) (.var 1))) (.cons (.asg 1 (.bin .add (.var 1) (.int 1))) (.cons (.ife (.cmp .eq (.var 3) (.str [40])) (.cons (.asgT [4, 1] (.call 346 (.cons (.var 0) (.cons (.var 1) (.cons (.tup .nil) .nil))))) (.cons (.ret (.tup (.cons (.var 4) (.cons (.call 343 (.cons (.var 0) (.cons (.var 1) (.cons (.str [41]) .nil)))) .nil)))) .nil)) .nil) (.cons (.ife (.or (.cmp .eq (.var 3) (.str [102, 110])) (.cmp .eq (.var 3) (.str [114, 101, 99]))) (.cons (.ret (.call 347 (.cons (.var 0) (.cons (.var 1) (.cons (.var 2) (.cons (.var 3) .nil)))))) .nil) .nil) (.cons (.ife (.cmp .eq (.var 3) (.str [108, 101, 116])) (.cons (.ret (.call 349 (.cons (.var 0) (.cons (.var 1) (.cons (.var 2) .nil))))) .nil) .nil) (.cons (.ife (.cmp .eq (.var 3) (.str [105, 102])) (.cons (.ret (.call 348 (.cons (.var 0) (.cons (.var 1) (.cons (.var 2) .nil))))) .nil) .nil) (.cons (.ret (.tup (.cons (.call 340 (.cons (.var 3) (.cons (.var 2) .nil))) (.cons (.var 1) .nil)))) .nil))))))))⟩
def c_read_sum0 : E := (.and (.cmp .lt (.var 1) (.bi .len (.cons (.var 0) .nil))) (.cmp .inn (.idx (.var 0) (.var 1)) (.tup (.cons (.str [43]) (.cons (.str [45]) .nil)))))
def b_read_sum0 : Ss := (.cons (.asg 4 (.ite (.cmp .eq (.idx (.var 0) (.var 1)) (.str [43])) (.str [112, 108, 117, 115]) (.str [109, 105, 110, 117, 115]))) (.cons (.asgT [5, 1] (.call 345 (.cons (.var 0) (.cons (.bin .add (.var 1) (.int 1)) (.cons (.var 2) .nil))))) (.cons (.asg 3 (.tup (.cons (.var 4) (.cons .non (.cons (.tup (.cons (.var 3) (.cons (.var 5) .nil))) .nil))))) .nil)))
def fn_read_sum : Fn := ⟨3, 6, (.cons (.asgT [3, 1] (.call 345 (.cons (.var 0) (.cons (.var 1) (.cons (.var 2) .nil))))) (.cons (.whl c_read_sum0 b_read_sum0) (.cons (.ret (.tup (.cons (.var 3) (.cons (.var 1) .nil)))) .nil)))⟩
def fn_level_of : Fn := ⟨1, 1, (.cons (.ife (.cmp .inn (.var 0) (.tup (.cons (.str [105, 102]) (.cons (.str [102, 110]) (.cons (.str [114, 101, 99]) (.cons (.str [108, 101, 116]) .nil)))))) (.cons (.ret (.int 0)) .nil) .nil) (.cons (.ife (.cmp .eq (.var 0) (.str [108, 101, 115, 115])) (.cons (.ret (.int 1)) .nil) .nil) (.cons (.ife (.or (.cmp .eq (.var 0) (.str [112, 108, 117, 115])) (.cmp .eq (.var 0) (.str [109, 105, 110, 117, 115]))) (.cons (.ret (.int 2)) .nil) .nil) (.cons (.ife (.cmp .eq (.var 0) (.str [99, 97, 108, 108])) (.cons (.ret (.int 3)) .nil) .nil) (.cons (.ret (.int 4)) .nil)))))⟩
def fn_printed : Fn := ⟨1, 4, (.cons (.asgT [1, 2, 3] (.var 0)) (.cons (.ife (.cmp .eq (.var 3) (.tup .nil)) (.cons (.ret (.call 362 (.cons (.var 1) (.cons (.var 2) .nil)))) .nil) .nil) (.cons (.ife (.cmp .eq (.call 360 (.cons (.var 1) .nil)) (.int 0)) (.cons (.ret (.call 364 (.cons (.var 1) (.cons (.var 2) (.cons (.var 3) .nil))))) .nil) .nil) (.cons (.ret (.call 363 (.cons (.var 1) (.cons (.idx (.var 3) (.int 0)) (.cons (.idx (.var 3) (.int 1)) .nil))))) .nil))))⟩
def fn_printed_leaf : Fn := ⟨2, 2, (.cons (.ife (.cmp .eq (.var 0) (.str [103, 97, 112])) (.cons (.ret (.str [63])) .nil) .nil) (.cons (.ife (.cmp .eq (.var 0) (.str [111, 100, 100])) (.cons (.ret (.bin .add (.bin .add (.str [40]) (.var 1)) (.str [41]))) .nil) .nil) (.cons (.ife (.cmp .eq (.var 0) (.str [110, 117, 109])) (.cons (.ret (.bi .str (.cons (.var 1) .nil))) .nil) .nil) (.cons (.ife (.cmp .eq (.var 0) (.str [110, 97, 109, 101])) (.cons (.ret (.var 1)) .nil) .nil) (.cons (.ret (.ite (.var 1) (.str [121, 101, 115]) (.str [110, 111]))) .nil)))))⟩
def fn_printed_pair : Fn := ⟨3, 4, (.cons (.ife (.cmp .eq (.var 0) (.str [99, 97, 108, 108])) (.cons (.ret (.bin .add (.bin .add (.call 365 (.cons (.var 1) (.cons (.int 3) .nil))) (.str [32])) (.call 365 (.cons (.var 2) (.cons (.int 4) .nil))))) .nil) .nil) (.cons (.ife (.cmp .eq (.var 0) (.str [108, 101, 115, 115])) (.cons (.ret (.bin .add (.bin .add (.call 365 (.cons (.var 1) (.cons (.int 1) .nil))) (.str [32, 60, 32])) (.call 365 (.cons (.var 2) (.cons (.int 2) .nil))))) .nil) .nil) (.cons (.asg 3 (.ite (.cmp .eq (.var 0) (.str [112, 108, 117, 115])) (.str [32, 43, 32]) (.str [32, 45, 32]))) (.cons (.ret (.bin .add (.bin .add (.call 365 (.cons (.var 1) (.cons (.int 2) .nil))) (.var 3)) (.call 365 (.cons (.var 2) (.cons (.int 3) .nil))))) .nil))))⟩
def fn_printed_wide : Fn := ⟨3, 5, (.cons (.asg 3 (.comp [4] (.one 4) (.seq (.var 2)) (.call 361 (.cons (.var 4) .nil)))) (.cons (.ife (.cmp .eq (.var 0) (.str [105, 102])) (.cons (.ret (.bin .add (.bin .add (.bin .add (.bin .add (.bin .add (.str [105, 102, 32]) (.idx (.var 3) (.int 0))) (.str [32, 116, 104, 101, 110, 32])) (.idx (.var 3) (.int 1))) (.str [32, 101, 108, 115, 101, 32])) (.idx (.var 3) (.int 2)))) .nil) .nil) (.cons (.ife (.cmp .eq (.var 0) (.str [108, 101, 116])) (.cons (.ret (.bin .add (.bin .add (.bin .add (.bin .add (.bin .add (.str [108, 101, 116, 32]) (.var 1)) (.str [32, 61, 32])) (.idx (.var 3) (.int 0))) (.str [32, 105, 110, 32])) (.idx (.var 3) (.int 1)))) .nil) .nil) (.cons (.ife (.cmp .eq (.var 0) (.str [102, 110])) (.cons (.ret (.bin .add (.bin .add (.bin .add (.str [102, 110, 32]) (.var 1)) (.str [32, 61, 62, 32])) (.idx (.var 3) (.int 0)))) .nil) .nil) (.cons (.ret (.bin .add (.bin .add (.bin .add (.bin .add (.bin .add (.str [114, 101, 99, 32]) (.idx (.var 1) (.int 0))) (.str [32])) (.idx (.var 1) (.int 1))) (.str [32, 61, 62, 32])) (.idx (.var 3) (.int 0)))) .nil)))))⟩
def fn_printed_within : Fn := ⟨2, 2, (.cons (.ife (.cmp .lt (.call 360 (.cons (.idx (.var 0) (.int 0)) .nil)) (.var 1)) (.cons (.ret (.bin .add (.bin .add (.str [40]) (.call 361 (.cons (.var 0) .nil))) (.str [41]))) .nil) .nil) (.cons (.ret (.call 361 (.cons (.var 0) .nil))) .nil))⟩
end GP
set_option maxRecDepth 100000
/-! GQ: helpers that several laws share, as terms. -/
namespace GQ
open GI
/-! 2001 -/
def b__law_alike0 : Ss := (.cons (.ife (.not (.call 2001 (.cons (.var 2) (.cons (.var 3) .nil)))) (.cons (.ret (.bl false)) .nil) .nil) .nil)
def fn__law_alike : Fn := ⟨2, 4, (.cons (.ife (.or (.not (.bi (.isi .tuple) (.cons (.var 0) .nil))) (.or (.cmp .ne (.bi .len (.cons (.var 0) .nil)) (.int 3)) (.not (.bi (.isi .tuple) (.cons (.idx (.var 0) (.int 2)) .nil))))) (.cons (.ret (.bl false)) .nil) .nil) (.cons (.ife (.or (.cmp .ne (.idx (.var 0) (.int 0)) (.idx (.var 1) (.int 0))) (.or (.cmp .ne (.idx (.var 0) (.int 1)) (.idx (.var 1) (.int 1))) (.cmp .ne (.bi (.isi .bool) (.cons (.idx (.var 0) (.int 1)) .nil)) (.bi (.isi .bool) (.cons (.idx (.var 1) (.int 1)) .nil))))) (.cons (.ret (.bl false)) .nil) .nil) (.cons (.ife (.cmp .ne (.bi .len (.cons (.idx (.var 0) (.int 2)) .nil)) (.bi .len (.cons (.idx (.var 1) (.int 2)) .nil))) (.cons (.ret (.bl false)) .nil) .nil) (.cons (.forr (.tup [2, 3]) (.zip (.idx (.var 0) (.int 2)) (.idx (.var 1) (.int 2))) b__law_alike0) (.cons (.ret (.bl true)) .nil)))))⟩
/-! 2020 -/
def fn__law_cells : Fn := ⟨3, 6, (.cons (.asg 3 (.slc (.var 0) (.var 1) (.bin .add (.var 1) (.var 2)))) (.cons (.ret (.comp [4, 5] (.tup [4, 5]) (.enum (.var 3)) (.bin .add (.bin .mul (.bin .mod (.var 5) (.bin .pow (.int 10) (.int 40))) (.int 982451653)) (.bin .mul (.int 7919) (.var 4))))) .nil))⟩
/-! 2029 -/
def fn__law_free_cells : Fn := ⟨3, 4, (.cons (.ret (.comp [3] (.one 3) (.seq (.slc (.var 0) (.var 1) (.bin .add (.var 1) (.var 2)))) (.bin .mod (.var 3) (.bin .mul (.bin .pow (.int 10) (.int 60)) (.bin .pow (.int 10) (.int 64)))))) .nil)⟩
/-! 2033 -/
def b__law_free_odd_v10 : Ss := (.cons (.asg 1 (.bin .add (.var 1) (.idx (.call 2079 .nil) (.bin .mod (.var 2) (.int 91))))) (.cons (.asg 2 (.bin .fdiv (.var 2) (.int 91))) .nil))
def fn__law_free_odd_v1 : Fn := ⟨1, 4, (.cons (.asg 1 (.str [])) (.cons (.asg 2 (.bin .fdiv (.var 0) (.int 60))) (.cons (.forr (.one 3) (.rng1 (.bin .add (.int 1) (.bin .mod (.var 0) (.int 60)))) b__law_free_odd_v10) (.cons (.ife (.call 2088 (.cons (.var 1) .nil)) (.cons (.asg 1 (.bin .add (.var 1) (.str [33]))) .nil) .nil) (.cons (.ret (.var 1)) .nil)))))⟩
/-! 2045 -/
def fn__law_leaf_v1 : Fn := ⟨1, 2, (.cons (.asg 1 (.bin .fdiv (.var 0) (.int 6))) (.cons (.ife (.cmp .eq (.bin .mod (.var 0) (.int 6)) (.int 0)) (.cons (.ret (.lst (.cons (.str [63]) (.cons (.tup (.cons (.str [103, 97, 112]) (.cons .non (.cons (.tup .nil) .nil)))) .nil)))) .nil) .nil) (.cons (.ife (.cmp .eq (.bin .mod (.var 0) (.int 6)) (.int 1)) (.cons (.ret (.lst (.cons (.idx (.lst (.cons (.str [121, 101, 115]) (.cons (.str [110, 111]) .nil))) (.bin .mod (.var 1) (.int 2))) (.cons (.tup (.cons (.str [116, 114, 117, 116, 104]) (.cons (.cmp .eq (.bin .mod (.var 1) (.int 2)) (.int 0)) (.cons (.tup .nil) .nil)))) .nil)))) .nil) .nil) (.cons (.ife (.cmp .eq (.bin .mod (.var 0) (.int 6)) (.int 2)) (.cons (.ret (.lst (.cons (.bi .str (.cons (.call 2062 (.cons (.var 1) .nil)) .nil)) (.cons (.tup (.cons (.str [110, 117, 109]) (.cons (.call 2062 (.cons (.var 1) .nil)) (.cons (.tup .nil) .nil)))) .nil)))) .nil) .nil) (.cons (.ife (.cmp .eq (.bin .mod (.var 0) (.int 6)) (.int 3)) (.cons (.ret (.lst (.cons (.call 2064 (.cons (.var 1) .nil)) (.cons (.tup (.cons (.str [111, 100, 100]) (.cons (.call 2064 (.cons (.var 1) .nil)) (.cons (.tup .nil) .nil)))) .nil)))) .nil) .nil) (.cons (.ret (.lst (.cons (.call 2056 (.cons (.var 1) .nil)) (.cons (.tup (.cons (.str [110, 97, 109, 101]) (.cons (.call 2056 (.cons (.var 1) .nil)) (.cons (.tup .nil) .nil)))) .nil)))) .nil))))))⟩
/-! 2049 -/
def b__law_long0 : Ss := (.cons (.asg 3 (.bin .add (.var 3) (.idx (.var 2) (.bin .mod (.var 4) (.bi .len (.cons (.var 2) .nil)))))) (.cons (.asg 4 (.bin .add (.bin .fdiv (.var 4) (.bi .len (.cons (.var 2) .nil))) (.bin .mul (.int 7919) (.var 5)))) .nil))
def fn__law_long : Fn := ⟨1, 6, (.cons (.asg 1 (.bin .add (.int 1) (.bin .mod (.bin .fdiv (.var 0) (.int 4)) (.int 19)))) (.cons (.asg 2 (.idx (.lst (.cons (.str [48, 49, 50, 51, 52, 53, 54, 55, 56, 57]) (.cons (.str [48, 49, 50, 51, 52, 53, 54, 55, 56, 57]) (.cons (.str [97, 98, 99, 100, 101, 102, 103, 104, 105, 106, 107, 108, 109, 110, 111, 112, 113, 114, 115, 116, 117, 118, 119, 120, 121, 122, 95]) (.cons (.str [65, 66, 67, 68, 69, 70, 71, 72, 73, 74, 75, 76, 77, 78, 79, 80, 81, 82, 83, 84, 85, 86, 87, 88, 89, 90]) .nil))))) (.bin .mod (.var 0) (.int 4)))) (.cons (.ife (.or (.cmp .eq (.bin .mod (.var 0) (.int 4)) (.int 0)) (.cmp .eq (.bin .mod (.var 0) (.int 4)) (.int 2))) (.cons (.asg 1 (.bin .add (.idx (.lst (.cons (.int 19) (.cons (.int 9) .nil))) (.bin .mod (.bin .fdiv (.var 0) (.int 2)) (.int 2))) (.bin .mod (.bin .fdiv (.var 0) (.int 4)) (.int 41)))) .nil) .nil) (.cons (.asg 3 (.idx (.lst (.cons (.str []) (.cons (.str [48]) (.cons (.str []) (.cons (.str []) .nil))))) (.bin .mod (.var 0) (.int 4)))) (.cons (.asg 4 (.bin .fdiv (.var 0) (.int 700))) (.cons (.forr (.one 5) (.rng1 (.var 1)) b__law_long0) (.cons (.ret (.var 3)) .nil)))))))⟩
/-! 2056 -/
def b__law_name_v10 : Ss := (.cons (.asg 1 (.bin .add (.var 1) (.idx (.str [97, 98, 99, 100, 101, 102, 103, 104, 105, 106, 107, 108, 109, 110, 111, 112, 113, 114, 115, 116, 117, 118, 119, 120, 121, 122, 95]) (.bin .mod (.var 2) (.int 27))))) (.cons (.asg 2 (.bin .fdiv (.var 2) (.int 27))) .nil))
def fn__law_name_v1 : Fn := ⟨1, 4, (.cons (.asg 1 (.str [])) (.cons (.asg 2 (.bin .fdiv (.var 0) (.int 8))) (.cons (.forr (.one 3) (.rng1 (.bin .add (.int 1) (.bin .mod (.var 0) (.int 8)))) b__law_name_v10) (.cons (.ife (.cmp .inn (.var 1) (.lst (.cons (.str [108, 101, 116]) (.cons (.str [105, 110]) (.cons (.str [105, 102]) (.cons (.str [116, 104, 101, 110]) (.cons (.str [101, 108, 115, 101]) (.cons (.str [102, 110]) (.cons (.str [114, 101, 99]) (.cons (.str [121, 101, 115]) (.cons (.str [110, 111]) .nil))))))))))) (.cons (.asg 1 (.bin .add (.var 1) (.str [95]))) .nil) .nil) (.cons (.ret (.var 1)) .nil)))))⟩
/-! 2062 -/
def fn__law_number_v1 : Fn := ⟨1, 1, (.cons (.ife (.cmp .eq (.bin .mod (.var 0) (.int 4)) (.int 0)) (.cons (.ret (.bin .sub (.bin .sub (.bin .pow (.int 10) (.int 18)) (.int 1)) (.bin .mod (.bin .fdiv (.var 0) (.int 4)) (.bin .pow (.int 10) (.int 18))))) .nil) .nil) (.cons (.ife (.cmp .eq (.bin .mod (.var 0) (.int 4)) (.int 1)) (.cons (.ret (.bin .mod (.bin .fdiv (.var 0) (.int 4)) (.bin .pow (.int 10) (.int 18)))) .nil) .nil) (.cons (.ret (.bin .mod (.bin .fdiv (.var 0) (.int 4)) (.int 12))) .nil)))⟩
/-! 2064 -/
def b__law_odd_v10 : Ss := (.cons (.asg 4 (.bin .add (.var 4) (.idx (.call 2079 .nil) (.bin .mod (.var 2) (.int 91))))) (.cons (.asg 2 (.bin .add (.bin .fdiv (.var 2) (.int 91)) (.bin .mul (.int 7919) (.var 5)))) .nil))
def fn__law_odd_v1 : Fn := ⟨1, 6, (.cons (.asg 1 (.lst (.cons (.str [116, 104, 101, 110]) (.cons (.str [101, 108, 115, 101]) (.cons (.str [105, 110]) (.cons (.str [61]) (.cons (.str [61, 62]) (.cons (.str [48, 48, 55]) (.cons (.str [49, 50, 51, 52, 53, 54, 55, 56, 57, 48, 49, 50, 51, 52, 53, 54, 55, 56, 57]) (.cons (.str [60, 61]) (.cons (.str [110, 105, 110, 101, 115, 105, 103, 110, 115]) .nil))))))))))) (.cons (.asg 1 (.bin .add (.var 1) (.lst (.cons (.str [120, 49]) (.cons (.str [76, 101, 116]) (.cons (.str [63, 63]) (.cons (.str [45, 45]) (.cons (.str [48, 48]) (.cons (.str [97, 61, 98]) .nil))))))))) (.cons (.asg 2 (.bin .fdiv (.var 0) (.int 3))) (.cons (.ife (.cmp .eq (.bin .mod (.var 0) (.int 3)) (.int 0)) (.cons (.ret (.idx (.var 1) (.bin .mod (.var 2) (.int 15)))) .nil) .nil) (.cons (.ife (.cmp .eq (.bin .mod (.var 0) (.int 9)) (.int 1)) (.cons (.ret (.call 2049 (.cons (.bin .fdiv (.var 2) (.int 3)) .nil))) .nil) .nil) (.cons (.asg 3 (.bin .add (.int 1) (.bin .mod (.var 2) (.int 5)))) (.cons (.ife (.cmp .eq (.bin .mod (.bin .fdiv (.var 2) (.int 5)) (.int 6)) (.int 0)) (.cons (.asg 3 (.bin .add (.int 1) (.bin .mod (.bin .fdiv (.var 2) (.int 30)) (.int 60)))) .nil) .nil) (.cons (.asg 2 (.bin .fdiv (.var 2) (.int 1800))) (.cons (.asg 4 (.str [])) (.cons (.forr (.one 5) (.rng1 (.var 3)) b__law_odd_v10) (.cons (.ife (.call 2088 (.cons (.var 4) .nil)) (.cons (.asg 4 (.bin .add (.var 4) (.str [33]))) .nil) .nil) (.cons (.ret (.var 4)) .nil))))))))))))⟩
/-! 2071 -/
def b__law_row_v10 : Ss := (.cons (.ife (.cmp .lt (.bin .mod (.var 3) (.int 5)) (.int 3)) (.cons (.ex (.mth .append (.var 2) (.cons (.idx (.var 1) (.bin .mod (.bin .fdiv (.var 3) (.int 5)) (.int 14))) .nil))) .nil) (.cons (.ex (.mth .append (.var 2) (.cons (.idx (.call 2045 (.cons (.bin .fdiv (.var 3) (.int 5)) .nil)) (.int 0)) .nil))) .nil)) .nil)
def fn__law_row_v1 : Fn := ⟨1, 4, (.cons (.asg 1 (.lst (.cons (.str [102, 110]) (.cons (.str [114, 101, 99]) (.cons (.str [108, 101, 116]) (.cons (.str [105, 102]) (.cons (.str [116, 104, 101, 110]) (.cons (.str [101, 108, 115, 101]) (.cons (.str [105, 110]) (.cons (.str [61]) (.cons (.str [61, 62]) (.cons (.str [43]) (.cons (.str [45]) (.cons (.str [60]) (.cons (.str [40]) (.cons (.str [41]) .nil)))))))))))))))) (.cons (.asg 2 (.lst .nil)) (.cons (.forr (.one 3) (.seq (.var 0)) b__law_row_v10) (.cons (.ret (.var 2)) .nil))))⟩
/-! 2079 -/
def fn__law_signs : Fn := ⟨0, 1, (.cons (.asg 0 (.str [33, 34, 35, 36, 38, 39, 42, 43, 44, 45, 46, 47, 48, 49, 50, 51, 52, 53, 54, 55, 56, 57, 58, 59, 60, 61, 62, 63, 64, 65, 66, 67, 68, 69, 70, 71, 72, 73, 74, 75, 76, 77, 78, 79, 80, 81, 82, 83, 84, 85, 86, 87, 88, 89, 90, 91, 92, 93, 94, 95, 96])) (.cons (.ret (.bin .add (.var 0) (.str [97, 98, 99, 100, 101, 102, 103, 104, 105, 106, 107, 108, 109, 110, 111, 112, 113, 114, 115, 116, 117, 118, 119, 120, 121, 122, 123, 124, 125, 126]))) .nil))⟩
/-! 2088 -/
def fn__law_taken_v1 : Fn := ⟨1, 4, (.cons (.ife (.cmp .inn (.var 0) (.lst (.cons (.str [108, 101, 116]) (.cons (.str [105, 102]) (.cons (.str [102, 110]) (.cons (.str [114, 101, 99]) (.cons (.str [121, 101, 115]) (.cons (.str [110, 111]) (.cons (.str [63]) (.cons (.str [43]) (.cons (.str [45]) (.cons (.str [60]) .nil)))))))))))) (.cons (.ret (.bl true)) .nil) .nil) (.cons (.asg 1 (.bi .len (.cons (.compIf [3] (.one 3) (.seq (.var 0)) (.cmp .inn (.var 3) (.str [48, 49, 50, 51, 52, 53, 54, 55, 56, 57])) (.var 3)) .nil))) (.cons (.ife (.and (.cmp .eq (.var 1) (.bi .len (.cons (.var 0) .nil))) (.and (.cmp .le (.bi .len (.cons (.var 0) .nil)) (.int 18)) (.or (.cmp .eq (.var 0) (.str [48])) (.cmp .ne (.idx (.var 0) (.int 0)) (.str [48]))))) (.cons (.ret (.bl true)) .nil) .nil) (.cons (.asg 2 (.bi .len (.cons (.compIf [3] (.one 3) (.seq (.var 0)) (.cmp .inn (.var 3) (.str [97, 98, 99, 100, 101, 102, 103, 104, 105, 106, 107, 108, 109, 110, 111, 112, 113, 114, 115, 116, 117, 118, 119, 120, 121, 122, 95])) (.var 3)) .nil))) (.cons (.ret (.and (.cmp .eq (.var 2) (.bi .len (.cons (.var 0) .nil))) (.and (.cmp .le (.bi .len (.cons (.var 0) .nil)) (.int 8)) (.cmp .nin (.var 0) (.lst (.cons (.str [105, 110]) (.cons (.str [116, 104, 101, 110]) (.cons (.str [101, 108, 115, 101]) .nil)))))))) .nil)))))⟩
/-! 2089 -/
def b__law_text0 : Ss := (.cons (.asg 5 (.idx (.lst (.cons (.str [32]) (.cons (.str [10]) (.cons (.str [9]) (.cons (.str [32, 32]) .nil))))) (.bin .mod (.bin .fdiv (.var 1) (.bin .add (.var 3) (.int 1))) (.int 4)))) (.cons (.ife (.or (.cmp .inn (.var 4) (.lst (.cons (.str [40]) (.cons (.str [41]) .nil)))) (.cmp .inn (.slc (.var 2) (.neg (.int 1)) .non) (.lst (.cons (.str []) (.cons (.str [40]) (.cons (.str [41]) .nil)))))) (.cons (.ife (.cmp .eq (.bin .mod (.bin .add (.bin .fdiv (.var 1) (.bin .add (.var 3) (.int 3))) (.var 3)) (.int 2)) (.int 0)) (.cons (.asg 5 (.str [])) .nil) .nil) .nil) .nil) (.cons (.asg 2 (.bin .add (.bin .add (.var 2) (.var 5)) (.var 4))) .nil)))
def fn__law_text : Fn := ⟨2, 6, (.cons (.asg 2 (.str [])) (.cons (.forr (.tup [3, 4]) (.enum (.var 0)) b__law_text0) (.cons (.ret (.bin .add (.var 2) (.idx (.lst (.cons (.str []) (.cons (.str [32]) (.cons (.str [10]) (.cons (.str [32, 9]) .nil))))) (.bin .mod (.var 1) (.int 4))))) .nil)))⟩
end GQ
set_option maxRecDepth 100000
set_option maxHeartbeats 4000000
/-! L82: the text of k82 as terms; its facts. -/
namespace L82
open PySem GI GP
def dd_is_name : Dd := ⟨"is_name", 142, 6, ["thing", "sign"], ["thing"], GP.fn_is_name⟩
def dd_is_number : Dd := ⟨"is_number", 144, 7, ["thing", "sign"], ["thing"], GP.fn_is_number⟩
def dd_is_odd : Dd := ⟨"is_odd", 145, 8, ["thing", "sign"], ["thing"], GP.fn_is_odd⟩
def dd_pieces_of : Dd := ⟨"pieces_of", 321, 10, ["text", "found", "word", "sign"], ["text"], GP.fn_pieces_of⟩
def dd_held_pieces : Dd := ⟨"held_pieces", 320, 11, ["row", "found", "depth", "piece"], ["row"], GP.fn_held_pieces⟩
def dd_leaf_of : Dd := ⟨"leaf_of", 340, 13, ["word", "waited"], ["word", "waited"], GP.fn_leaf_of⟩
def dd_part_begins : Dd := ⟨"part_begins", 342, 14, ["row", "at", "waited"], ["row", "at", "waited"], GP.fn_part_begins⟩
def dd_past_word : Dd := ⟨"past_word", 343, 15, ["row", "at", "word"], ["row", "at", "word"], GP.fn_past_word⟩
def dd_name_from : Dd := ⟨"name_from", 341, 16, ["row", "at"], ["row", "at"], GP.fn_name_from⟩
def dd_read_form : Dd := ⟨"read_form", 346, 17, ["row", "at", "waited", "form", "other"], ["row", "at", "waited"], GP.fn_read_form⟩
def dd_read_sum : Dd := ⟨"read_sum", 351, 18, ["row", "at", "waited", "form", "word", "other"], ["row", "at", "waited"], GP.fn_read_sum⟩
def dd_read_call : Dd := ⟨"read_call", 345, 19, ["row", "at", "waited", "form", "other"], ["row", "at", "waited"], GP.fn_read_call⟩
def dd_read_part : Dd := ⟨"read_part", 350, 20, ["row", "at", "waited", "word", "form"], ["row", "at", "waited"], GP.fn_read_part⟩
def dd_read_function : Dd := ⟨"read_function", 347, 21, ["row", "at", "waited", "word", "note", "second", "form"], ["row", "at", "waited", "word"], GP.fn_read_function⟩
def dd_read_let : Dd := ⟨"read_let", 349, 22, ["row", "at", "waited", "name", "first", "second"], ["row", "at", "waited"], GP.fn_read_let⟩
def dd_read_if : Dd := ⟨"read_if", 348, 23, ["row", "at", "waited", "first", "second", "third"], ["row", "at", "waited"], GP.fn_read_if⟩
def dd_read : Dd := ⟨"read", 344, 24, ["text", "form", "at"], ["text"], GP.fn_read⟩
def dd__law_cells : Dd := ⟨"_law_cells", 2020, 26, ["_law_script", "_law_first", "_law_most", "_law_cells_here", "_law_k", "_law_cell"], ["_law_script", "_law_first", "_law_most"], GQ.fn__law_cells⟩
def dd__law_signs : Dd := ⟨"_law_signs", 2079, 27, ["_law_some"], [], GQ.fn__law_signs⟩
def dd__law_taken : Dd := ⟨"_law_taken", 2088, 28, ["_law_word", "_law_figures", "_law_small", "_law_sign"], ["_law_word"], GQ.fn__law_taken_v1⟩
def dd__law_long : Dd := ⟨"_law_long", 2049, 29, ["_law_value", "_law_size", "_law_signs_here", "_law_word", "_law_rest", "_law_k"], ["_law_value"], GQ.fn__law_long⟩
def dd__law_odd : Dd := ⟨"_law_odd", 2064, 30, ["_law_value", "_law_some", "_law_rest", "_law_size", "_law_word", "_law_k"], ["_law_value"], GQ.fn__law_odd_v1⟩
def dd__law_name : Dd := ⟨"_law_name", 2056, 31, ["_law_value", "_law_name_here", "_law_rest", "_law_k"], ["_law_value"], GQ.fn__law_name_v1⟩
def dd__law_number : Dd := ⟨"_law_number", 2062, 32, ["_law_value"], ["_law_value"], GQ.fn__law_number_v1⟩
def dd__law_leaf : Dd := ⟨"_law_leaf", 2045, 33, ["_law_value", "_law_rest"], ["_law_value"], GQ.fn__law_leaf_v1⟩
def dd__law_alike : Dd := ⟨"_law_alike", 2001, 34, ["_law_found", "_law_due", "_law_one", "_law_other"], ["_law_found", "_law_due"], GQ.fn__law_alike⟩
def b__law_text0 : Ss := (.cons (.asg 5 (.idx (.lst (.cons (.str [32]) (.cons (.str [10]) (.cons (.str [9]) (.cons (.str [32, 32]) .nil))))) (.bin .mod (.bin .fdiv (.var 1) (.bin .add (.var 3) (.int 1))) (.int 4)))) (.cons (.ife (.or (.cmp .inn (.var 4) (.lst (.cons (.str [40]) (.cons (.str [41]) .nil)))) (.cmp .inn (.slc (.var 2) (.neg (.int 1)) .non) (.lst (.cons (.str []) (.cons (.str [40]) (.cons (.str [41]) .nil)))))) (.cons (.ife (.cmp .eq (.bin .mod (.bin .add (.bin .fdiv (.var 1) (.bin .add (.var 3) (.int 3))) (.var 3)) (.int 2)) (.int 0)) (.cons (.asg 5 (.str [])) .nil) .nil) .nil) .nil) (.cons (.asg 2 (.bin .add (.bin .add (.var 2) (.var 5)) (.var 4))) .nil)))
def fn__law_text : Fn := ⟨2, 6, (.cons (.asg 2 (.str [])) (.cons (.forr (.tup [3, 4]) (.enum (.var 0)) b__law_text0) (.cons (.ret (.bin .add (.var 2) (.idx (.lst (.cons (.str []) (.cons (.str [32]) (.cons (.str [10]) (.cons (.str [32, 9]) .nil))))) (.bin .mod (.var 1) (.int 4))))) .nil)))⟩
def dd__law_text : Dd := ⟨"_law_text", 1000, 35, ["_law_row", "_law_value", "_law_text_here", "_law_k", "_law_word", "_law_space"], ["_law_row", "_law_value"], fn__law_text⟩
def b__law_nest0 : Ss := (.cons (.asg 1 (.tup (.cons (.str [99, 97, 108, 108]) (.cons .non (.cons (.tup (.cons (.var 1) (.cons (.var 2) .nil))) .nil))))) .nil)
def fn__law_nest : Fn := ⟨1, 3, (.cons (.ife (.cmp .eq (.var 0) (.lst .nil)) (.cons (.ret (.tup (.cons (.str [103, 97, 112]) (.cons .non (.cons (.tup .nil) .nil))))) .nil) .nil) (.cons (.asg 1 (.idx (.var 0) (.int 0))) (.cons (.forr (.one 2) (.seq (.slc (.var 0) (.int 1) .non)) b__law_nest0) (.cons (.ret (.var 1)) .nil))))⟩
def dd__law_nest : Dd := ⟨"_law_nest", 1001, 36, ["_law_forms", "_law_nest_here", "_law_form"], ["_law_forms"], fn__law_nest⟩
def b__law_sums0 : Ss := (.cons (.asg 4 (.tup (.cons (.var 5) (.cons .non (.cons (.tup (.cons (.var 4) (.cons (.call 1001 (.cons (.var 6) .nil)) .nil))) .nil))))) .nil)
def b__law_sums1 : Ss := (.cons (.ife (.cmp .inn (.var 3) (.lst (.cons (.str [43]) (.cons (.str [45]) .nil)))) (.cons (.ex (.mth .append (.var 2) (.cons (.idx (.lst (.cons (.str [112, 108, 117, 115]) (.cons (.str [109, 105, 110, 117, 115]) .nil))) (.bi .int (.cons (.cmp .eq (.var 3) (.str [45])) .nil))) .nil))) (.cons (.ex (.mth .append (.var 1) (.cons (.lst .nil) .nil))) .nil)) (.cons (.ex (.mth .append (.idx (.var 1) (.neg (.int 1))) (.cons (.var 3) .nil))) .nil)) .nil)
def fn__law_sums : Fn := ⟨1, 7, (.cons (.asg 1 (.lst (.cons (.lst .nil) .nil))) (.cons (.asg 2 (.lst .nil)) (.cons (.forr (.one 3) (.seq (.var 0)) b__law_sums1) (.cons (.asg 4 (.call 1001 (.cons (.idx (.var 1) (.int 0)) .nil))) (.cons (.forr (.tup [5, 6]) (.zip (.var 2) (.slc (.var 1) (.int 1) .non)) b__law_sums0) (.cons (.ret (.var 4)) .nil))))))⟩
def dd__law_sums : Dd := ⟨"_law_sums", 1002, 37, ["_law_items", "_law_nests", "_law_signs_here", "_law_item", "_law_form", "_law_sign", "_law_nest_here"], ["_law_items"], fn__law_sums⟩
def b__law_inside0 : Ss := (.cons (.asg 3 (.tup (.cons (.str [108, 101, 115, 115]) (.cons .non (.cons (.tup (.cons (.var 3) (.cons (.call 1002 (.cons (.var 4) .nil)) .nil))) .nil))))) .nil)
def b__law_inside1 : Ss := (.cons (.ife (.cmp .eq (.var 2) (.str [60])) (.cons (.ex (.mth .append (.var 1) (.cons (.lst .nil) .nil))) .nil) (.cons (.ex (.mth .append (.idx (.var 1) (.neg (.int 1))) (.cons (.var 2) .nil))) .nil)) .nil)
def fn__law_inside : Fn := ⟨1, 5, (.cons (.asg 1 (.lst (.cons (.lst .nil) .nil))) (.cons (.forr (.one 2) (.seq (.var 0)) b__law_inside1) (.cons (.asg 3 (.call 1002 (.cons (.idx (.var 1) (.int 0)) .nil))) (.cons (.forr (.one 4) (.seq (.slc (.var 1) (.int 1) .non)) b__law_inside0) (.cons (.ret (.var 3)) .nil)))))⟩
def dd__law_inside : Dd := ⟨"_law_inside", 1003, 38, ["_law_items", "_law_sides", "_law_item", "_law_form", "_law_side"], ["_law_items"], fn__law_inside⟩
def c__law_build0 : E := (.cmp .gt (.bi .len (.cons (.var 2) .nil)) (.int 1))
def b__law_build0 : Ss := (.cons (.asg 5 (.mth .pop (.var 2) .nil)) (.cons (.ex (.mth .append (.idx (.var 2) (.neg (.int 1))) (.cons (.call 1003 (.cons (.var 5) .nil)) .nil))) .nil))
def b__law_build1 : Ss := (.cons (.asg 4 (.bin .fdiv (.var 3) (.int 14))) (.cons (.ife (.cmp .eq (.bin .mod (.var 3) (.int 14)) (.int 0)) (.cons (.ex (.mth .append (.var 1) (.cons (.str [40]) .nil))) (.cons (.ex (.mth .append (.var 2) (.cons (.lst .nil) .nil))) .nil)) (.cons (.ife (.cmp .eq (.bin .mod (.var 3) (.int 14)) (.int 1)) (.cons (.ex (.mth .append (.var 1) (.cons (.str [41]) .nil))) (.cons (.ife (.cmp .gt (.bi .len (.cons (.var 2) .nil)) (.int 1)) (.cons (.asg 5 (.mth .pop (.var 2) .nil)) (.cons (.ex (.mth .append (.idx (.var 2) (.neg (.int 1))) (.cons (.call 1003 (.cons (.var 5) .nil)) .nil))) .nil)) .nil) .nil)) (.cons (.ife (.cmp .lt (.bin .mod (.var 3) (.int 14)) (.int 6)) (.cons (.ex (.mth .append (.var 1) (.cons (.idx (.str [43, 45, 60]) (.bin .mod (.var 4) (.int 3))) .nil))) (.cons (.ex (.mth .append (.idx (.var 2) (.neg (.int 1))) (.cons (.idx (.str [43, 45, 60]) (.bin .mod (.var 4) (.int 3))) .nil))) .nil)) (.cons (.asgT [6, 7] (.call 2045 (.cons (.var 4) .nil))) (.cons (.ex (.mth .append (.var 1) (.cons (.var 6) .nil))) (.cons (.ex (.mth .append (.idx (.var 2) (.neg (.int 1))) (.cons (.var 7) .nil))) .nil)))) .nil)) .nil)) .nil))
def fn__law_build : Fn := ⟨1, 8, (.cons (.asg 1 (.lst .nil)) (.cons (.asg 2 (.lst (.cons (.lst .nil) .nil))) (.cons (.forr (.one 3) (.seq (.var 0)) b__law_build1) (.cons (.whl c__law_build0 b__law_build0) (.cons (.ret (.lst (.cons (.var 1) (.cons (.idx (.var 2) (.int 0)) .nil)))) .nil)))))⟩
def dd__law_build : Dd := ⟨"_law_build", 1004, 39, ["_law_cells_here", "_law_row", "_law_stack", "_law_value", "_law_rest", "_law_inner", "_law_word", "_law_form"], ["_law_cells_here"], fn__law_build⟩
def fn_law : Fn := ⟨1, 5, (.cons (.asgT [1, 2] (.call 1004 (.cons (.call 2020 (.cons (.var 0) (.cons (.int 1) (.cons (.int 55) .nil)))) .nil))) (.cons (.asg 3 (.call 1000 (.cons (.var 1) (.cons (.bi .sum (.cons (.call 2020 (.cons (.var 0) (.cons (.int 0) (.cons (.int 1) .nil)))) .nil)) .nil)))) (.cons (.asg 4 (.call 1003 (.cons (.var 2) .nil))) (.cons (.ife (.not (.call 2001 (.cons (.call 344 (.cons (.var 3) .nil)) (.cons (.var 4) .nil)))) (.cons (.ret (.bl false)) .nil) .nil) (.cons (.ife (.not (.call 2001 (.cons (.call 344 (.cons (.bin .add (.str [55, 32, 45, 10]) (.var 3)) .nil)) (.cons (.call 1003 (.cons (.bin .add (.lst (.cons (.tup (.cons (.str [110, 117, 109]) (.cons (.int 7) (.cons (.tup .nil) .nil)))) (.cons (.str [45]) .nil))) (.var 2)) .nil)) .nil)))) (.cons (.ret (.bl false)) .nil) .nil) (.cons (.ret (.call 2001 (.cons (.call 344 (.cons (.var 3) .nil)) (.cons (.var 4) .nil)))) .nil))))))⟩
def dd_law : Dd := ⟨"law", 1005, 40, ["_law_script", "_law_row", "_law_items", "_law_text_here", "_law_due"], ["_law_script"], fn_law⟩
def tx : Tx := ⟨PySem.Challenge.pw_gapscribe_k82_sums_and_less_read, [dd_is_name, dd_is_number, dd_is_odd, dd_pieces_of, dd_held_pieces, dd_leaf_of, dd_part_begins, dd_past_word, dd_name_from, dd_read_form, dd_read_sum, dd_read_call, dd_read_part, dd_read_function, dd_read_let, dd_read_if, dd_read, dd__law_cells, dd__law_signs, dd__law_taken, dd__law_long, dd__law_odd, dd__law_name, dd__law_number, dd__law_leaf, dd__law_alike, dd__law_text, dd__law_nest, dd__law_sums, dd__law_inside, dd__law_build, dd_law], [("GAP", 7), ("LETTERS", 141), ("FIGURES", 140), ("NO_NAMES", 143), ("NOT_ODD", 142)], fun i => [(7, .tup [(.str [103, 97, 112]), .non, (.tup [])]), (141, .str [97, 98, 99, 100, 101, 102, 103, 104, 105, 106, 107, 108, 109, 110, 111, 112, 113, 114, 115, 116, 117, 118, 119, 120, 121, 122, 95]), (140, .str [48, 49, 50, 51, 52, 53, 54, 55, 56, 57]), (143, .tup [(.str [108, 101, 116]), (.str [105, 110]), (.str [105, 102]), (.str [116, 104, 101, 110]), (.str [101, 108, 115, 101]), (.str [102, 110]), (.str [114, 101, 99]), (.str [121, 101, 115]), (.str [110, 111])]), (142, .tup [(.str [108, 101, 116]), (.str [105, 102]), (.str [102, 110]), (.str [114, 101, 99]), (.str [121, 101, 115]), (.str [110, 111]), (.str [63]), (.str [43]), (.str [45]), (.str [60])])].lookup i⟩
theorem ok_is_name : DdOk tx.q tx.cc dd_is_name := ⟨fun _ _ _ _ _ _ us hl => match us, hl with | [_], _ => rfl, ⟨rfl, rfl, rfl, by decide +kernel, rfl, by decide +kernel, by decide +kernel⟩, by kernel_rfl, rfl, rfl⟩
theorem ok_is_number : DdOk tx.q tx.cc dd_is_number := ⟨fun _ _ _ _ _ _ us hl => match us, hl with | [_], _ => rfl, ⟨rfl, rfl, rfl, by decide +kernel, rfl, by decide +kernel, by decide +kernel⟩, by kernel_rfl, rfl, rfl⟩
theorem ok_is_odd : DdOk tx.q tx.cc dd_is_odd := ⟨fun _ _ _ _ _ _ us hl => match us, hl with | [_], _ => rfl, ⟨rfl, rfl, rfl, by decide +kernel, rfl, by decide +kernel, by decide +kernel⟩, by kernel_rfl, rfl, rfl⟩
theorem ok_pieces_of : DdOk tx.q tx.cc dd_pieces_of := ⟨fun _ _ _ _ _ _ us hl => match us, hl with | [_], _ => rfl, ⟨rfl, rfl, rfl, by decide +kernel, rfl, by decide +kernel, by decide +kernel⟩, by kernel_rfl, rfl, rfl⟩
theorem ok_held_pieces : DdOk tx.q tx.cc dd_held_pieces := ⟨fun _ _ _ _ _ _ us hl => match us, hl with | [_], _ => rfl, ⟨rfl, rfl, rfl, by decide +kernel, rfl, by decide +kernel, by decide +kernel⟩, by kernel_rfl, rfl, rfl⟩
theorem ok_leaf_of : DdOk tx.q tx.cc dd_leaf_of := ⟨fun _ _ _ _ _ _ us hl => match us, hl with | [_, _], _ => rfl, ⟨rfl, rfl, rfl, by decide +kernel, rfl, by decide +kernel, by decide +kernel⟩, by kernel_rfl, rfl, rfl⟩
theorem ok_part_begins : DdOk tx.q tx.cc dd_part_begins := ⟨fun _ _ _ _ _ _ us hl => match us, hl with | [_, _, _], _ => rfl, ⟨rfl, rfl, rfl, by decide +kernel, rfl, by decide +kernel, by decide +kernel⟩, by kernel_rfl, rfl, rfl⟩
theorem ok_past_word : DdOk tx.q tx.cc dd_past_word := ⟨fun _ _ _ _ _ _ us hl => match us, hl with | [_, _, _], _ => rfl, ⟨rfl, rfl, rfl, by decide +kernel, rfl, by decide +kernel, by decide +kernel⟩, by kernel_rfl, rfl, rfl⟩
theorem ok_name_from : DdOk tx.q tx.cc dd_name_from := ⟨fun _ _ _ _ _ _ us hl => match us, hl with | [_, _], _ => rfl, ⟨rfl, rfl, rfl, by decide +kernel, rfl, by decide +kernel, by decide +kernel⟩, by kernel_rfl, rfl, rfl⟩
theorem ok_read_form : DdOk tx.q tx.cc dd_read_form := ⟨fun _ _ _ _ _ _ us hl => match us, hl with | [_, _, _], _ => rfl, ⟨rfl, rfl, rfl, by decide +kernel, rfl, by decide +kernel, by decide +kernel⟩, by kernel_rfl, rfl, rfl⟩
theorem ok_read_sum : DdOk tx.q tx.cc dd_read_sum := ⟨fun _ _ _ _ _ _ us hl => match us, hl with | [_, _, _], _ => rfl, ⟨rfl, rfl, rfl, by decide +kernel, rfl, by decide +kernel, by decide +kernel⟩, by kernel_rfl, rfl, rfl⟩
theorem ok_read_call : DdOk tx.q tx.cc dd_read_call := ⟨fun _ _ _ _ _ _ us hl => match us, hl with | [_, _, _], _ => rfl, ⟨rfl, rfl, rfl, by decide +kernel, rfl, by decide +kernel, by decide +kernel⟩, by kernel_rfl, rfl, rfl⟩
theorem ok_read_part : DdOk tx.q tx.cc dd_read_part := ⟨fun _ _ _ _ _ _ us hl => match us, hl with | [_, _, _], _ => rfl, ⟨rfl, rfl, rfl, by decide +kernel, rfl, by decide +kernel, by decide +kernel⟩, by kernel_rfl, rfl, rfl⟩
theorem ok_read_function : DdOk tx.q tx.cc dd_read_function := ⟨fun _ _ _ _ _ _ us hl => match us, hl with | [_, _, _, _], _ => rfl, ⟨rfl, rfl, rfl, by decide +kernel, rfl, by decide +kernel, by decide +kernel⟩, by kernel_rfl, rfl, rfl⟩
theorem ok_read_let : DdOk tx.q tx.cc dd_read_let := ⟨fun _ _ _ _ _ _ us hl => match us, hl with | [_, _, _], _ => rfl, ⟨rfl, rfl, rfl, by decide +kernel, rfl, by decide +kernel, by decide +kernel⟩, by kernel_rfl, rfl, rfl⟩
theorem ok_read_if : DdOk tx.q tx.cc dd_read_if := ⟨fun _ _ _ _ _ _ us hl => match us, hl with | [_, _, _], _ => rfl, ⟨rfl, rfl, rfl, by decide +kernel, rfl, by decide +kernel, by decide +kernel⟩, by kernel_rfl, rfl, rfl⟩
theorem ok_read : DdOk tx.q tx.cc dd_read := ⟨fun _ _ _ _ _ _ us hl => match us, hl with | [_], _ => rfl, ⟨rfl, rfl, rfl, by decide +kernel, rfl, by decide +kernel, by decide +kernel⟩, by kernel_rfl, rfl, rfl⟩
theorem ok__law_cells : DdOk tx.q tx.cc dd__law_cells := ⟨fun _ _ _ _ _ _ us hl => match us, hl with | [_, _, _], _ => rfl, ⟨rfl, rfl, rfl, by decide +kernel, rfl, by decide +kernel, by decide +kernel⟩, by kernel_rfl, rfl, rfl⟩
theorem ok__law_signs : DdOk tx.q tx.cc dd__law_signs := ⟨fun _ _ _ _ _ _ us hl => match us, hl with | [], _ => rfl, ⟨rfl, rfl, rfl, by decide +kernel, rfl, by decide +kernel, by decide +kernel⟩, by kernel_rfl, rfl, rfl⟩
theorem ok__law_taken : DdOk tx.q tx.cc dd__law_taken := ⟨fun _ _ _ _ _ _ us hl => match us, hl with | [_], _ => rfl, ⟨rfl, rfl, rfl, by decide +kernel, rfl, by decide +kernel, by decide +kernel⟩, by kernel_rfl, rfl, rfl⟩
theorem ok__law_long : DdOk tx.q tx.cc dd__law_long := ⟨fun _ _ _ _ _ _ us hl => match us, hl with | [_], _ => rfl, ⟨rfl, rfl, rfl, by decide +kernel, rfl, by decide +kernel, by decide +kernel⟩, by kernel_rfl, rfl, rfl⟩
theorem ok__law_odd : DdOk tx.q tx.cc dd__law_odd := ⟨fun _ _ _ _ _ _ us hl => match us, hl with | [_], _ => rfl, ⟨rfl, rfl, rfl, by decide +kernel, rfl, by decide +kernel, by decide +kernel⟩, by kernel_rfl, rfl, rfl⟩
theorem ok__law_name : DdOk tx.q tx.cc dd__law_name := ⟨fun _ _ _ _ _ _ us hl => match us, hl with | [_], _ => rfl, ⟨rfl, rfl, rfl, by decide +kernel, rfl, by decide +kernel, by decide +kernel⟩, by kernel_rfl, rfl, rfl⟩
theorem ok__law_number : DdOk tx.q tx.cc dd__law_number := ⟨fun _ _ _ _ _ _ us hl => match us, hl with | [_], _ => rfl, ⟨rfl, rfl, rfl, by decide +kernel, rfl, by decide +kernel, by decide +kernel⟩, by kernel_rfl, rfl, rfl⟩
theorem ok__law_leaf : DdOk tx.q tx.cc dd__law_leaf := ⟨fun _ _ _ _ _ _ us hl => match us, hl with | [_], _ => rfl, ⟨rfl, rfl, rfl, by decide +kernel, rfl, by decide +kernel, by decide +kernel⟩, by kernel_rfl, rfl, rfl⟩
theorem ok__law_alike : DdOk tx.q tx.cc dd__law_alike := ⟨fun _ _ _ _ _ _ us hl => match us, hl with | [_, _], _ => rfl, ⟨rfl, rfl, rfl, by decide +kernel, rfl, by decide +kernel, by decide +kernel⟩, by kernel_rfl, rfl, rfl⟩
theorem ok__law_text : DdOk tx.q tx.cc dd__law_text := ⟨fun _ _ _ _ _ _ us hl => match us, hl with | [_, _], _ => rfl, ⟨rfl, rfl, rfl, by decide +kernel, rfl, by decide +kernel, by decide +kernel⟩, by kernel_rfl, rfl, rfl⟩
theorem ok__law_nest : DdOk tx.q tx.cc dd__law_nest := ⟨fun _ _ _ _ _ _ us hl => match us, hl with | [_], _ => rfl, ⟨rfl, rfl, rfl, by decide +kernel, rfl, by decide +kernel, by decide +kernel⟩, by kernel_rfl, rfl, rfl⟩
theorem ok__law_sums : DdOk tx.q tx.cc dd__law_sums := ⟨fun _ _ _ _ _ _ us hl => match us, hl with | [_], _ => rfl, ⟨rfl, rfl, rfl, by decide +kernel, rfl, by decide +kernel, by decide +kernel⟩, by kernel_rfl, rfl, rfl⟩
theorem ok__law_inside : DdOk tx.q tx.cc dd__law_inside := ⟨fun _ _ _ _ _ _ us hl => match us, hl with | [_], _ => rfl, ⟨rfl, rfl, rfl, by decide +kernel, rfl, by decide +kernel, by decide +kernel⟩, by kernel_rfl, rfl, rfl⟩
theorem ok__law_build : DdOk tx.q tx.cc dd__law_build := ⟨fun _ _ _ _ _ _ us hl => match us, hl with | [_], _ => rfl, ⟨rfl, rfl, rfl, by decide +kernel, rfl, by decide +kernel, by decide +kernel⟩, by kernel_rfl, rfl, rfl⟩
theorem ok_law : DdOk tx.q tx.cc dd_law := ⟨fun _ _ _ _ _ _ us hl => match us, hl with | [_], _ => rfl, ⟨rfl, rfl, rfl, by decide +kernel, rfl, by decide +kernel, by decide +kernel⟩, by kernel_rfl, rfl, rfl⟩
theorem ok : tx.Ok := ⟨fun d hd => by
  simp only [tx, List.mem_cons, List.not_mem_nil, or_false] at hd
  rcases hd with rfl | rfl | rfl | rfl | rfl | rfl | rfl | rfl | rfl | rfl | rfl | rfl | rfl | rfl | rfl | rfl | rfl | rfl | rfl | rfl | rfl | rfl | rfl | rfl | rfl | rfl | rfl | rfl | rfl | rfl | rfl | rfl
  · exact ok_is_name
  · exact ok_is_number
  · exact ok_is_odd
  · exact ok_pieces_of
  · exact ok_held_pieces
  · exact ok_leaf_of
  · exact ok_part_begins
  · exact ok_past_word
  · exact ok_name_from
  · exact ok_read_form
  · exact ok_read_sum
  · exact ok_read_call
  · exact ok_read_part
  · exact ok_read_function
  · exact ok_read_let
  · exact ok_read_if
  · exact ok_read
  · exact ok__law_cells
  · exact ok__law_signs
  · exact ok__law_taken
  · exact ok__law_long
  · exact ok__law_odd
  · exact ok__law_name
  · exact ok__law_number
  · exact ok__law_leaf
  · exact ok__law_alike
  · exact ok__law_text
  · exact ok__law_nest
  · exact ok__law_sums
  · exact ok__law_inside
  · exact ok__law_build
  · exact ok_law, fun d hd => by
  simp only [tx, List.mem_cons, List.not_mem_nil, or_false] at hd
  rcases hd with rfl | rfl | rfl | rfl | rfl | rfl | rfl | rfl | rfl | rfl | rfl | rfl | rfl | rfl | rfl | rfl | rfl | rfl | rfl | rfl | rfl | rfl | rfl | rfl | rfl | rfl | rfl | rfl | rfl | rfl | rfl | rfl <;> rfl⟩
abbrev R : PySem.W.OpenRow := PySem.W.OpenLaw.row PySem.Challenge.rw_gapscribe_k82_sums_and_less_read
def loose : List Str := (["GAP", "LETTERS", "FIGURES", "NO_NAMES", "NOT_ODD", "is_name", "is_number", "is_odd", "pieces_of", "held_pieces", "leaf_of", "part_begins", "past_word", "name_from", "read_form", "read_sum", "read_call", "read_part", "read_function", "read_let", "read_if", "read", "_law_cells", "_law_signs", "_law_taken", "_law_long", "_law_odd", "_law_name", "_law_number", "_law_leaf", "_law_alike", "_law_text", "_law_nest", "_law_sums", "_law_inside", "_law_build"] : List String).map Str.ofString
theorem run (w : World) : HandSHeadRun.RunEq R (PySem.W.view R.prog [40]) (tx.hk 4) (tx.ob 4) 4000 loose w := by
  intro os
  kernel_rfl
end L82
set_option maxRecDepth 100000
set_option maxHeartbeats 1000000
/-! RA: names, numbers, odd texts. -/
namespace RA
open GI PySem
def letters : List Nat := [97, 98, 99, 100, 101, 102, 103, 104, 105, 106, 107, 108, 109, 110, 111, 112, 113, 114, 115, 116, 117, 118, 119, 120, 121, 122, 95]
def figures : List Nat := [48, 49, 50, 51, 52, 53, 54, 55, 56, 57]
def noNames : List (List Nat) := [[108, 101, 116], [105, 110], [105, 102], [116, 104, 101, 110], [101, 108, 115, 101], [102, 110], [114, 101, 99], [121, 101, 115], [110, 111]]
def notOdd : List (List Nat) := [[108, 101, 116], [105, 102], [102, 110], [114, 101, 99], [121, 101, 115], [110, 111], [63], [43], [45], [60]]
structure Fo (ft : Nat → Option Fn) (gl : Nat → Option PV) : Prop where
  isName : ft 142 = some GP.fn_is_name
  isNumber : ft 144 = some GP.fn_is_number
  isOdd : ft 145 = some GP.fn_is_odd
  letters : gl 141 = some (.str letters)
  figures : gl 140 = some (.str figures)
  noNames : gl 143 = some (.tup (noNames.map .str))
  notOdd : gl 142 = some (.tup (notOdd.map .str))
def isName (x : List Nat) : Bool := decide (1 ≤ x.length) && (decide (x.length ≤ 8) && (!decide (x ∈ noNames) && x.all fun c => decide (c ∈ letters)))
def isNumber (x : List Nat) : Bool := decide (1 ≤ x.length) && (decide (x.length ≤ 18) && (!(decide (x.head? = some 48) && decide (1 < x.length)) && x.all fun c => decide (c ∈ figures)))
def okSign (c : Nat) : Bool := decide (33 ≤ c) && (decide (c ≤ 126) && !decide (c = 40 ∨ c = 41))
def isOdd (x : List Nat) : Bool := decide (1 ≤ x.length) && (decide (x.length ≤ 60) && (!isName x && (!decide (x ∈ notOdd) && (!isNumber x && x.all okSign))))
section
variable {ft : Nat → Option Fn} {gl : Nat → Option PV} {wf n : Nat} {st : Store}
theorem flat_strs : ∀ xs : List (List Nat), (xs.map PV.str).all flatP = true
  | [] => rfl
  | x :: r => by rw [List.map_cons, List.all_cons, flat_strs r]; rfl
theorem any_strs (x : List Nat) : ∀ xs : List (List Nat), (xs.map PV.str).any (fun y => eqP y (.str x)) = decide (x ∈ xs)
  | [] => rfl
  | y :: r => by
    rw [List.map_cons, List.any_cons, any_strs x r]
    show (y == x || decide (x ∈ r)) = _
    by_cases h : y = x
    · simp [h]
    · simp [h, show ¬ x = y from fun z => h z.symm]
theorem inF_items {v : PV} {x : List Nat} {xs : List (List Nat)} (h : items st v = some (xs.map .str)) : inF (.str x) v st = some (decide (x ∈ xs)) := by
  unfold inF
  split
  · rename_i h1
    cases h
  · simp only [h, flat_strs, any_strs, flatP, Bool.and_self, if_true]
theorem inF_strs (x : List Nat) (xs : List (List Nat)) : inF (.str x) (.tup (xs.map .str)) st = some (decide (x ∈ xs)) := inF_items rfl
theorem inF_chr (c : Nat) (z : List Nat) : inF (.str [c]) (.str z) st = some (decide (c ∈ z)) := rfl
theorem is_name (F : Fo ft gl) (x : List Nat) (hx : x.length ≤ SL) : callF ft gl wf (n + 1) 142 [.str x] st = .ok (.bl (isName x)) st := by
  obtain ⟨o, h⟩ := forL_all (st := st) (w := []) (b := xSs ⟨gl, callF ft gl wf n, wf⟩ GP.b_is_name0) (env := [some (.str x), none]) (i := 1) (f := fun c => PV.str [c]) (p := fun c => decide (c ∈ letters)) (v := .bl false) keeps_nil x none fun c _ => by
    by_cases h : c ∈ letters <;> simp [GP.b_is_name0, F.letters, inF_chr, h]
  simp only [List.set_cons_succ, List.set_cons_zero] at h
  rw [callF_def F.isName rfl]
  unfold isName
  generalize (x.all fun c => decide (c ∈ letters)) = q at h ⊢
  have e1 : ((x.length : Int) < 1) = ¬ (1 ≤ x.length) := propext (by omega)
  have e2 : (8 < (x.length : Int)) = ¬ (x.length ≤ 8) := propext (by omega)
  by_cases h1 : 1 ≤ x.length <;> by_cases h2 : x.length ≤ 8 <;> by_cases h3 : x ∈ noNames <;> cases q <;> simp [GP.fn_is_name, hx, F.noNames, inF_strs, h, e1, e2, h1, h2, h3]
theorem is_number (F : Fo ft gl) (x : List Nat) (hx : x.length ≤ SL) : callF ft gl wf (n + 1) 144 [.str x] st = .ok (.bl (isNumber x)) st := by
  obtain ⟨o, h⟩ := forL_all (st := st) (w := []) (b := xSs ⟨gl, callF ft gl wf n, wf⟩ GP.b_is_number0) (env := [some (.str x), none]) (i := 1) (f := fun c => PV.str [c]) (p := fun c => decide (c ∈ figures)) (v := .bl false) keeps_nil x none fun c _ => by
    by_cases h : c ∈ figures <;> simp [GP.b_is_number0, F.figures, inF_chr, h]
  simp only [List.set_cons_succ, List.set_cons_zero] at h
  rw [callF_def F.isNumber rfl]
  unfold isNumber
  generalize (x.all fun c => decide (c ∈ figures)) = q at h ⊢
  cases x with
  | nil => simp [GP.fn_is_number, hx]
  | cons c r =>
    have hx' : r.length + 1 ≤ SL := hx
    rw [List.map_cons] at h
    have e0 : ((r.length : Int) + 1 < 1) = False := propext ⟨fun z => by omega, fun z => z.elim⟩
    have e2 : (18 < (r.length : Int) + 1) = ¬ (r.length ≤ 17) := propext (by omega)
    have e3 : (1 < (r.length : Int) + 1) = (0 < r.length) := propext (by omega)
    by_cases h2 : r.length ≤ 17 <;> by_cases h3 : c = 48 <;> by_cases h5 : 0 < r.length <;> cases q <;> (try subst h3) <;> simp [GP.fn_is_number, hx', h, e0, e2, e3, h2, h5] <;> simp_all
theorem is_odd (F : Fo ft gl) (x : List Nat) (hx : x.length ≤ SL) : callF ft gl wf (n + 2) 145 [.str x] st = .ok (.bl (isOdd x)) st := by
  obtain ⟨o, h⟩ := forL_all (st := st) (w := []) (b := xSs ⟨gl, callF ft gl wf (n + 1), wf⟩ GP.b_is_odd0) (env := [some (.str x), none]) (i := 1) (f := fun c => PV.str [c]) (p := okSign) (v := .bl false) keeps_nil x none fun c _ => by
    have l : ∀ a b : Nat, decide ([a] < [b]) = decide (a < b) := fun a b => decide_eq_decide.mpr (by rw [List.cons_lt_cons_iff]; simp)
    by_cases e1 : c < 33 <;> by_cases e2 : 126 < c <;> by_cases e3 : c = 40 ∨ c = 41 <;> simp only [GP.b_is_odd0, inF_chr, ltF, okSign, l, cmp_leS, e1, e2, e3] <;> simp [e1, e2, e3, okSign, GP.b_is_odd0, inF_chr, l]
  simp only [List.set_cons_succ, List.set_cons_zero] at h
  rw [callF_def F.isOdd rfl]
  unfold isOdd
  generalize x.all okSign = q at h ⊢
  have e1 : ((x.length : Int) < 1) = ¬ (1 ≤ x.length) := propext (by omega)
  have e2 : (60 < (x.length : Int)) = ¬ (x.length ≤ 60) := propext (by omega)
  by_cases h1 : 1 ≤ x.length <;> by_cases h2 : x.length ≤ 60 <;> by_cases h3 : x ∈ notOdd <;> cases h4 : isName x <;> cases h5 : isNumber x <;> cases q <;> simp [GP.fn_is_odd, hx, isOdd, h, is_name F x hx, is_number F x hx, F.notOdd, inF_strs, h1, h2, h3, h4, h5, e1, e2]
end
end RA
set_option maxRecDepth 100000
set_option maxHeartbeats 1000000
/-! RB: the small readers: leaves, where a part begins, words that are passed, names. -/
namespace RA
open GI PySem
abbrev W := List Nat
inductive Fm where
  | lf (w : W) (n : PV)
  | un (w : W) (n : PV) (a : Fm)
  | bi (w : W) (n : PV) (a b : Fm)
  | tr (w : W) (n : PV) (a b c : Fm)
def Fm.enc : Fm → PV
  | .lf w n => .tup [.str w, n, .tup []]
  | .un w n a => .tup [.str w, n, .tup [a.enc]]
  | .bi w n a b => .tup [.str w, n, .tup [a.enc, b.enc]]
  | .tr w n a b c => .tup [.str w, n, .tup [a.enc, b.enc, c.enc]]
def fGap : Fm := .lf [103, 97, 112] .non
def fTruth (b : Bool) : Fm := .lf [116, 114, 117, 116, 104] (.bl b)
def fNum (n : Int) : Fm := .lf [110, 117, 109] (.int n)
def fName (w : W) : Fm := .lf [110, 97, 109, 101] (.str w)
def fOdd (w : W) : Fm := .lf [111, 100, 100] (.str w)
def fLess (a b : Fm) : Fm := .bi [108, 101, 115, 115] .non a b
def fPlus (a b : Fm) : Fm := .bi [112, 108, 117, 115] .non a b
def fMinus (a b : Fm) : Fm := .bi [109, 105, 110, 117, 115] .non a b
def fCall (a b : Fm) : Fm := .bi [99, 97, 108, 108] .non a b
def fFn (x : W) (a : Fm) : Fm := .un [102, 110] (.str x) a
def fRec (x y : W) (a : Fm) : Fm := .un [114, 101, 99] (.tup [.str x, .str y]) a
def fLet (x : W) (a b : Fm) : Fm := .bi [108, 101, 116] (.str x) a b
def fIf (a b c : Fm) : Fm := .tr [105, 102] .non a b c
abbrev wYes : W := [121, 101, 115]
abbrev wNo : W := [110, 111]
def leafOf (w : W) (ws : List W) : Option Fm :=
  if w = [63] then some fGap else if w = wYes ∨ w = wNo then some (fTruth (decide (w = wYes)))
  else if isNumber w = true then some (fNum (NumText.digitsVal w)) else if isName w = true then some (fName w)
  else if isOdd w = true ∧ w ∉ ws then some (fOdd w) else none
def optEnc : Option Fm → PV
  | some f => f.enc
  | none => .non
abbrev opens : List W := [[40], [102, 110], [114, 101, 99], [108, 101, 116], [105, 102]]
def beg (ts : List W) (ws : List W) : Bool := match ts with
  | [] => false
  | w :: _ => decide (w ∈ opens) || (leafOf w ws).isSome
def pastW (ts : List W) (w : W) : List W := match ts with
  | [] => []
  | v :: r => if v = w then r else v :: r
def nameFrom (ts : List W) : W × List W := match ts with
  | [] => ([95], [])
  | v :: r => if isName v = true then (v, r) else ([95], v :: r)
structure Rs (ft : Nat → Option Fn) (gl : Nat → Option PV) : Prop extends Fo ft gl where
  gap : gl 7 = some fGap.enc
  leaf_of : ft 340 = some GP.fn_leaf_of
  name_from : ft 341 = some GP.fn_name_from
  part_begins : ft 342 = some GP.fn_part_begins
  past_word : ft 343 = some GP.fn_past_word
  read : ft 344 = some GP.fn_read
  read_call : ft 345 = some GP.fn_read_call
  read_form : ft 346 = some GP.fn_read_form
  read_function : ft 347 = some GP.fn_read_function
  read_if : ft 348 = some GP.fn_read_if
  read_let : ft 349 = some GP.fn_read_let
  read_part : ft 350 = some GP.fn_read_part
  read_sum : ft 351 = some GP.fn_read_sum
  held_pieces : ft 320 = some GP.fn_held_pieces
  pieces_of : ft 321 = some GP.fn_pieces_of
section
variable {ft : Nat → Option Fn} {gl : Nat → Option PV} {wf n : Nat} {st : Store}
theorem digits_of_number {x : W} (h : isNumber x = true) : NumText.AllDigits x ∧ x ≠ [] ∧ x.length ≤ 18 := by
  unfold isNumber at h
  simp only [Bool.and_eq_true, decide_eq_true_eq, List.all_eq_true] at h
  obtain ⟨h1, h2, _, h4⟩ := h
  refine ⟨fun c hc => ?_, fun z => ?_, h2⟩
  · have := h4 c hc
    simp only [figures, List.mem_cons, List.not_mem_nil, or_false] at this
    omega
  · rw [z] at h1
    simp at h1
theorem int_number {x : W} (h : isNumber x = true) : biF .int [.str x] st = .ok (.int (NumText.digitsVal x)) st := by
  obtain ⟨h1, h2, h3⟩ := digits_of_number h
  have e : PySem.intText? ⟨x.toArray⟩ = some ((NumText.digitsVal x : Nat) : Int) := by
    have := PySem.intText_digits (x := ⟨x.toArray⟩) (by simpa using h1) (by simpa using h2) (by show x.toArray.size ≤ 4300; simp; omega)
    simpa using this
  show (match PySem.intText? ⟨x.toArray⟩ with
    | some n => if x.length ≤ 640 then Res.ok (PV.int n) st else .bad
    | none => .bad) = _
  rw [e]
  simp only [if_pos (show x.length ≤ 640 by omega)]
theorem leaf_of (F : Rs ft gl) (w : W) (ws : List W) (hw : w.length ≤ SL) : callF ft gl wf (n + 3) 340 [.str w, .tup (ws.map .str)] st = .ok (optEnc (leafOf w ws)) st := by
  rw [callF_def F.leaf_of rfl]
  unfold leafOf
  by_cases h1 : w = [63]
  · simp [GP.fn_leaf_of, h1, F.gap, optEnc]
  · by_cases h2 : w = wYes
    · subst h2
      simp [GP.fn_leaf_of, optEnc, fTruth, Fm.enc]
    · by_cases h2' : w = wNo
      · subst h2'
        simp [GP.fn_leaf_of, optEnc, fTruth, Fm.enc]
      · have e1 : w ≠ [63] := h1
        have hno : ¬ (w = wYes ∨ w = wNo) := by simp [h2, h2']
        cases h3 : isNumber w with
        | true => simp [GP.fn_leaf_of, h1, h2, h2', F.gap, optEnc, is_number F.toFo w hw, h3, int_number h3, fNum, Fm.enc]
        | false =>
          cases h4 : isName w with
          | true => simp [GP.fn_leaf_of, h1, h2, h2', F.gap, optEnc, is_number F.toFo w hw, is_name F.toFo w hw, h3, h4, fName, Fm.enc]
          | false =>
            cases h5 : isOdd w with
            | true =>
              by_cases h6 : w ∈ ws <;> simp [GP.fn_leaf_of, h1, h2, h2', F.gap, optEnc, is_number F.toFo w hw, is_name F.toFo w hw, is_odd F.toFo w hw, inF_strs, h3, h4, h5, h6, fOdd, Fm.enc]
            | false => simp [GP.fn_leaf_of, h1, h2, h2', F.gap, optEnc, is_number F.toFo w hw, is_name F.toFo w hw, is_odd F.toFo w hw, inF_strs, h3, h4, h5]
structure Row (st : Store) (k : Nat) (R : List W) : Prop where
  cell : st[k]? = some (.lst (R.map .str))
  len : ∀ w ∈ R, w.length ≤ SL
  ok : ∀ w ∈ R, (PyData.str ⟨w.toArray⟩).canLay0 = true
theorem Row.app {k : Nat} {R : List W} (h : Row st k R) (g : Store) : Row (st ++ g) k R := by
  refine ⟨?_, h.len, h.ok⟩
  have h1 : k < st.length := by
    by_cases z : k < st.length
    · exact z
    · have := h.cell
      rw [List.getElem?_eq_none (by omega)] at this
      cases this
  rw [List.getElem?_append_left h1]
  exact h.cell
theorem drop_nil {R : List W} {at' : Nat} (h : R.drop at' = []) : R.length ≤ at' := by simpa using h
theorem drop_cons {R r : List W} {v : W} {at' : Nat} (h : R.drop at' = v :: r) : at' < R.length ∧ R[at']? = some v ∧ R.drop (at' + 1) = r := by
  have h1 : at' < R.length := by
    by_cases z : at' < R.length
    · exact z
    · rw [List.drop_eq_nil_of_le (by omega)] at h
      cases h
  refine ⟨h1, ?_, ?_⟩
  · rw [← List.head?_drop, h]
    rfl
  · rw [← List.drop_drop, h]
    rfl
theorem idx_row {k : Nat} {R r : List W} {v : W} {i : Nat} (h : Row st k R) (hd : R.drop i = v :: r) : idxF (.ref k) (.int (i : Int)) st = .ok (.str v) st := by
  rw [idxR h.cell, atI_nat, List.getElem?_map, (drop_cons hd).2.1]
  rfl
theorem part_begins (F : Rs ft gl) {k : Nat} {R : List W} (h : Row st k R) (i : Nat) (ws : List W) : callF ft gl wf (n + 4) 342 [.ref k, .int i, .tup (ws.map .str)] st = .ok (.bl (beg (R.drop i) ws)) st := by
  rw [callF_def F.part_begins rfl]
  cases e : R.drop i with
  | nil =>
    have := drop_nil e
    simp [GP.fn_part_begins, bi_lenR h.cell, beg, show ¬ ((i : Int) < R.length) by omega]
  | cons v r =>
    obtain ⟨h1, h2, h3⟩ := drop_cons e
    have hv : v.length ≤ SL := h.len v (List.mem_of_getElem? h2)
    have ho : inF (.str v) (.tup [.str [40], .str [102, 110], .str [114, 101, 99], .str [108, 101, 116], .str [105, 102]]) st = some (decide (v ∈ opens)) := inF_strs v opens
    have hl : ∀ o : Option Fm, isNon (optEnc o) = !o.isSome := fun o => by cases o with
      | none => rfl
      | some f => cases f <;> rfl
    show _ = Res.ok (PV.bl (decide (v ∈ opens) || (leafOf v ws).isSome)) st
    generalize decide (v ∈ opens) = q at ho ⊢
    simp [GP.fn_part_begins, bi_lenR h.cell, show ((i : Int) < R.length) by omega, idx_row h e, ho, leaf_of F v ws hv, hl]
theorem mapM_strs (st : Store) (m : Nat) : ∀ xs : List W, (xs.map PV.str).mapM (dataOf st m) = some (xs.map fun x => PyData.str ⟨x.toArray⟩)
  | [] => rfl
  | x :: r => by
    rw [List.map_cons, List.mapM_cons, mapM_strs st m r]
    cases m <;> rfl
theorem data_words {k : Nat} {xs : List W} (h : st[k]? = some (.lst (xs.map .str))) (m : Nat) : dataOf st (m + 1) (.ref k) = some (.list (xs.map fun x => PyData.str ⟨x.toArray⟩)) := by
  have e : dataOf st (m + 1) (.ref k) = match st[k]? with
    | some (.lst xs) => (xs.mapM (dataOf st m)).map PyData.list
    | _ => none := by
    conv => lhs; unfold dataOf
    try rfl
  rw [e, h]
  show ((xs.map PV.str).mapM (dataOf st m)).map PyData.list = _
  rw [mapM_strs]
  rfl
theorem lay_words : ∀ {xs : List W}, (∀ w ∈ xs, (PyData.str ⟨w.toArray⟩).canLay0 = true) → PyData.canLayAll0 (xs.map fun x => PyData.str ⟨x.toArray⟩) = true
  | [], _ => rfl
  | x :: r, h => by
    rw [List.map_cons]
    unfold PyData.canLayAll0
    rw [h x List.mem_cons_self, lay_words fun w hw => h w (List.mem_cons_of_mem _ hw)]
    rfl
theorem eqv_words : ∀ (xs ys : List W), PyData.eqvAll (xs.map fun x => PyData.str ⟨x.toArray⟩) (ys.map fun x => PyData.str ⟨x.toArray⟩) = decide (xs = ys)
  | [], [] => rfl
  | [], _ :: _ => rfl
  | _ :: _, [] => rfl
  | x :: xs, y :: ys => by
    rw [List.map_cons, List.map_cons]
    unfold PyData.eqvAll PyData.eqv
    rw [eqv_words xs ys]
    by_cases h : x = y
    · subst h
      simp
    · simp [h]
theorem eqF_words {a b : Nat} {xs ys : List W} (ha : st[a]? = some (.lst (xs.map .str))) (hb : st[b]? = some (.lst (ys.map .str))) (ox : ∀ w ∈ xs, (PyData.str ⟨w.toArray⟩).canLay0 = true) (oy : ∀ w ∈ ys, (PyData.str ⟨w.toArray⟩).canLay0 = true) : eqF (.ref a) (.ref b) st = some (decide (xs = ys)) := by
  unfold eqF
  rw [data_words ha 189, data_words hb 189]
  have lx : (PyData.list (xs.map fun x => PyData.str ⟨x.toArray⟩)).canLay0 = true := by
    unfold PyData.canLay0
    exact lay_words ox
  have ly : (PyData.list (ys.map fun x => PyData.str ⟨x.toArray⟩)).canLay0 = true := by
    unfold PyData.canLay0
    exact lay_words oy
  have e : PyData.eqv (.list (xs.map fun x => PyData.str ⟨x.toArray⟩)) (.list (ys.map fun x => PyData.str ⟨x.toArray⟩)) = decide (xs = ys) := by
    unfold PyData.eqv
    exact eqv_words xs ys
  simp only [scalP, lx, ly, e, Bool.and_self, if_true]
  rfl
def pIdx (R : List W) (i : Nat) (w : W) : Nat := if (R.drop i).head? = some w then i + 1 else i
theorem pIdx_drop (R : List W) (i : Nat) (w : W) : R.drop (pIdx R i w) = pastW (R.drop i) w := by
  unfold pIdx pastW
  cases e : R.drop i with
  | nil => simpa using e
  | cons v r =>
    by_cases h : v = w
    · simp [h, (drop_cons e).2.2]
    · simp [h, e]
theorem past_word (F : Rs ft gl) {k : Nat} {R : List W} (h : Row st k R) (i : Nat) (w : W) (hw : (PyData.str ⟨w.toArray⟩).canLay0 = true) : ∃ g, callF ft gl wf (n + 1) 343 [.ref k, .int i, .str w] st = .ok (.int (pIdx R i w : Nat)) (st ++ g) := by
  rw [callF_def F.past_word rfl]
  have hc : cutP (R.map PV.str) (some (i : Int)) (some ((i : Int) + 1)) = ((R.drop i).take 1).map PV.str := by
    have := cutP_nat (R.map PV.str) i (i + 1)
    rw [show ((i + 1 : Nat) : Int) = (i : Int) + 1 by omega] at this
    rw [this, ← List.map_drop, ← List.map_take]
    congr 2
    omega
  have h2 : (st ++ [Cell.lst (((R.drop i).take 1).map PV.str)] ++ [Cell.lst [PV.str w]])[st.length]? = some (.lst (((R.drop i).take 1).map PV.str)) := by simp
  have h3 : (st ++ [Cell.lst (((R.drop i).take 1).map PV.str)] ++ [Cell.lst [PV.str w]])[st.length + 1]? = some (.lst ([w].map PV.str)) := by
    rw [List.getElem?_append_right (by simp)]
    simp
  have eq := eqF_words h2 h3 (fun w hw => h.ok w (List.mem_of_mem_drop (List.mem_of_mem_take hw))) (fun v hv => by simp at hv; rw [hv]; exact hw)
  refine ⟨[Cell.lst (((R.drop i).take 1).map PV.str)] ++ [Cell.lst [PV.str w]], ?_⟩
  have e4 : decide ((R.drop i).take 1 = [w]) = decide ((R.drop i).head? = some w) := by
    cases R.drop i <;> simp
  rw [e4] at eq
  rw [List.append_assoc] at eq
  simp only [List.cons_append, List.nil_append] at eq
  by_cases h5 : R[i]? = some w
  · simp [-List.map_take, -List.map_drop, GP.fn_past_word, slcR h.cell, hc, eq, pIdx, h5]
  · simp [-List.map_take, -List.map_drop, GP.fn_past_word, slcR h.cell, hc, eq, pIdx, h5]
def nIdx (R : List W) (i : Nat) : Nat := match R.drop i with
  | [] => i
  | v :: _ => if isName v = true then i + 1 else i
theorem nIdx_drop (R : List W) (i : Nat) : R.drop (nIdx R i) = (nameFrom (R.drop i)).2 := by
  unfold nIdx nameFrom
  cases e : R.drop i with
  | nil => exact e
  | cons v r =>
    by_cases h : isName v = true
    · simp [h, (drop_cons e).2.2]
    · simp [h, e]
theorem name_from (F : Rs ft gl) {k : Nat} {R : List W} (h : Row st k R) (i : Nat) : callF ft gl wf (n + 2) 341 [.ref k, .int i] st = .ok (.tup [.str (nameFrom (R.drop i)).1, .int (nIdx R i : Nat)]) st := by
  rw [callF_def F.name_from rfl]
  unfold nIdx nameFrom
  cases e : R.drop i with
  | nil =>
    have := drop_nil e
    simp [GP.fn_name_from, bi_lenR h.cell, show ¬ ((i : Int) < R.length) by omega]
  | cons v r =>
    obtain ⟨h1, h2, h3⟩ := drop_cons e
    have hv : v.length ≤ SL := h.len v (List.mem_of_getElem? h2)
    cases h4 : isName v <;> simp [GP.fn_name_from, bi_lenR h.cell, show ((i : Int) < R.length) by omega, idx_row h e, is_name F.toFo v hv, h4]
end
/-! ### what is read -/
inductive Kd where
  | form | formL (f : Fm) | sum | sumL (f : Fm) | call | callL (f : Fm) | part
/-- at depth d, of a kind, with words that are waited for: what tokens come to, and what is left -/
inductive Rd : Nat → Kd → List W → List W → Fm → List W → Prop
  | form {d ws ts f r g r'} : Rd d .sum ws ts f r → Rd d (.formL f) ws r g r' → Rd (d + 1) .form ws ts g r'
  | formE {d ws ts f} : ts.head? ≠ some [60] → Rd d (.formL f) ws ts f ts
  | formN {d ws ts f g r h r'} : Rd d .sum ws ts g r → Rd d (.formL (fLess f g)) ws r h r' → Rd d (.formL f) ws ([60] :: ts) h r'
  | sum {d ws ts f r g r'} : Rd d .call ws ts f r → Rd d (.sumL f) ws r g r' → Rd (d + 1) .sum ws ts g r'
  | sumE {d ws ts f} : ts.head? ≠ some [43] → ts.head? ≠ some [45] → Rd d (.sumL f) ws ts f ts
  | sumP {d ws ts f g r h r'} : Rd d .call ws ts g r → Rd d (.sumL (fPlus f g)) ws r h r' → Rd d (.sumL f) ws ([43] :: ts) h r'
  | sumM {d ws ts f g r h r'} : Rd d .call ws ts g r → Rd d (.sumL (fMinus f g)) ws r h r' → Rd d (.sumL f) ws ([45] :: ts) h r'
  | call {d ws ts f r g r'} : Rd d .part ws ts f r → Rd d (.callL f) ws r g r' → Rd (d + 1) .call ws ts g r'
  | callE {d ws ts f} : beg ts ws = false → Rd d (.callL f) ws ts f ts
  | callN {d ws ts f g r h r'} : beg ts ws = true → Rd d .part ws ts g r → Rd d (.callL (fCall f g)) ws r h r' → Rd d (.callL f) ws ts h r'
  | gap {d ws ts} : beg ts ws = false → Rd d .part ws ts fGap ts
  | leaf {d ws w ts f} : leafOf w ws = some f → Rd d .part ws (w :: ts) f ts
  | paren {d ws ts f r} : Rd d .form [] ts f r → Rd (d + 1) .part ws ([40] :: ts) f (pastW r [41])
  | fn {d ws ts f r} : Rd d .form ws (pastW (nameFrom ts).2 [61, 62]) f r → Rd (d + 2) .part ws ([102, 110] :: ts) (fFn (nameFrom ts).1 f) r
  | rec_ {d ws ts f r} : Rd d .form ws (pastW (nameFrom (nameFrom ts).2).2 [61, 62]) f r → Rd (d + 2) .part ws ([114, 101, 99] :: ts) (fRec (nameFrom ts).1 (nameFrom (nameFrom ts).2).1 f) r
  | let_ {d ws ts f r g r'} : Rd d .form (ws ++ [[105, 110]]) (pastW (nameFrom ts).2 [61]) f r → Rd d .form ws (pastW r [105, 110]) g r' → Rd (d + 2) .part ws ([108, 101, 116] :: ts) (fLet (nameFrom ts).1 f g) r'
  | if_ {d ws ts f r g r' h r''} : Rd d .form (ws ++ [[116, 104, 101, 110], [101, 108, 115, 101]]) ts f r → Rd d .form (ws ++ [[101, 108, 115, 101]]) (pastW r [116, 104, 101, 110]) g r' → Rd d .form ws (pastW r' [101, 108, 115, 101]) h r'' →
      Rd (d + 2) .part ws ([105, 102] :: ts) (fIf f g h) r''
end RA
set_option maxRecDepth 100000
set_option maxHeartbeats 2000000
/-! RC: the readers do what is read. -/
noncomputable section
namespace RA
open GI PySem
section
variable {ft : Nat → Option Fn} {gl : Nat → Option PV} {wf : Nat}
abbrev ckx (ft : Nat → Option Fn) (gl : Nat → Option PV) (wf d : Nat) : Ck := ⟨gl, callF ft gl wf d, wf⟩
/-- a reader's call: what it tells and where it ends -/
def Told (ft : Nat → Option Fn) (gl : Nat → Option PV) (wf d id : Nat) (args : Nat → List PV) (R : List W) (i : Nat) (f : Fm) (r : List W) (st : Store) : Prop :=
  ∃ (g : Store) (j : Nat), callF ft gl wf d id (args i) st = .ok (.tup [f.enc, .int (j : Nat)]) (st ++ g) ∧ R.drop j = r ∧ i ≤ j ∧ j ≤ R.length
def Goal (ft : Nat → Option Fn) (gl : Nat → Option PV) (wf d : Nat) (kd : Kd) (ws : List W) (ts : List W) (f : Fm) (r : List W) : Prop :=
  ∀ (R : List W) (k i : Nat) (st : Store), Row st k R → R.drop i = ts → i ≤ R.length → R.length < wf → ws.length + 2 * d ≤ 100000 →
  match kd with
  | .form => Told ft gl wf (d + 8) 346 (fun i => [.ref k, .int i, .tup (ws.map .str)]) R i f r st
  | .sum => Told ft gl wf (d + 8) 351 (fun i => [.ref k, .int i, .tup (ws.map .str)]) R i f r st
  | .call => Told ft gl wf (d + 8) 345 (fun i => [.ref k, .int i, .tup (ws.map .str)]) R i f r st
  | .part => Told ft gl wf (d + 8) 350 (fun i => [.ref k, .int i, .tup (ws.map .str)]) R i f r st
  | .formL f0 => ∀ (m : Nat) (o : Option PV), R.length < m + i → ∃ (g : Store) (j : Nat) (o' : Option PV),
      whlL (ev (ckx ft gl wf (d + 8)) GP.c_read_form0) (xSs (ckx ft gl wf (d + 8)) GP.b_read_form0) m [some (.ref k), some (.int i), some (.tup (ws.map .str)), some f0.enc, o] st =
        .ok (.nx, [some (.ref k), some (.int (j : Nat)), some (.tup (ws.map .str)), some f.enc, o']) (st ++ g) ∧ R.drop j = r ∧ i ≤ j ∧ j ≤ R.length
  | .sumL f0 => ∀ (m : Nat) (o q : Option PV), R.length < m + i → ∃ (g : Store) (j : Nat) (o' q' : Option PV),
      whlL (ev (ckx ft gl wf (d + 8)) GP.c_read_sum0) (xSs (ckx ft gl wf (d + 8)) GP.b_read_sum0) m [some (.ref k), some (.int i), some (.tup (ws.map .str)), some f0.enc, o, q] st =
        .ok (.nx, [some (.ref k), some (.int (j : Nat)), some (.tup (ws.map .str)), some f.enc, o', q']) (st ++ g) ∧ R.drop j = r ∧ i ≤ j ∧ j ≤ R.length
  | .callL f0 => ∀ (m : Nat) (o : Option PV), R.length < m + i → ∃ (g : Store) (j : Nat) (o' : Option PV),
      whlL (ev (ckx ft gl wf (d + 8)) GP.c_read_call0) (xSs (ckx ft gl wf (d + 8)) GP.b_read_call0) m [some (.ref k), some (.int i), some (.tup (ws.map .str)), some f0.enc, o] st =
        .ok (.nx, [some (.ref k), some (.int (j : Nat)), some (.tup (ws.map .str)), some f.enc, o']) (st ++ g) ∧ R.drop j = r ∧ i ≤ j ∧ j ≤ R.length
theorem whl_succ {m i n : Nat} (h : n < m + i) (hi : i ≤ n) : ∃ m', m = m' + 1 := ⟨m - 1, by omega⟩
theorem g_form (F : Rs ft gl) {d ws ts f r g r'} (h1 : Goal ft gl wf d .sum ws ts f r) (h2 : Goal ft gl wf d (.formL f) ws r g r') : Goal ft gl wf (d + 1) .form ws ts g r' := by
  intro R k i st hR hd hi hw hl
  obtain ⟨g1, j1, c1, d1, l1, n1⟩ := h1 R k i st hR hd hi hw (by omega)
  obtain ⟨g2, j2, o', c2, d2, l2, n2⟩ := h2 R k j1 _ (hR.app g1) d1 n1 hw (by omega) wf none (by omega)
  refine ⟨g1 ++ g2, j2, ?_, d2, by omega, n2⟩
  rw [show d + 1 + 8 = (d + 8) + 1 by omega, callF_def F.read_form rfl]
  simp only at c1
  simp [GP.fn_read_form, c1, c2]
theorem ok60 : (PyData.str ⟨([60] : W).toArray⟩).canLay0 = true := by decide +kernel
theorem g_formE (F : Rs ft gl) {d ws ts f} (h : ts.head? ≠ some [60]) : Goal ft gl wf d (.formL f) ws ts f ts := by
  intro R k i st hR hd hi hw hl m o hm
  obtain ⟨m', rfl⟩ := whl_succ hm hi
  obtain ⟨g1, c1⟩ := past_word (wf := wf) (n := d + 7) F hR i [60] ok60
  have e : pIdx R i [60] = i := by
    unfold pIdx
    rw [hd, if_neg h]
  rw [e] at c1
  refine ⟨g1, i, o, ?_, hd, Nat.le_refl _, hi⟩
  simp [whlL_succ, GP.c_read_form0, c1]
theorem g_formN (F : Rs ft gl) {d ws ts f g r h r'} (h1 : Goal ft gl wf d .sum ws ts g r) (h2 : Goal ft gl wf d (.formL (fLess f g)) ws r h r') : Goal ft gl wf d (.formL f) ws ([60] :: ts) h r' := by
  intro R k i st hR hd hi hw hl m o hm
  obtain ⟨m', rfl⟩ := whl_succ hm hi
  obtain ⟨g0, c0⟩ := past_word (wf := wf) (n := d + 7) F hR i [60] ok60
  obtain ⟨b1, b2, b3⟩ := drop_cons hd
  have e : pIdx R i [60] = i + 1 := by
    unfold pIdx
    rw [hd]; exact if_pos rfl
  rw [e] at c0
  obtain ⟨g1, j1, c1, d1, l1, n1⟩ := h1 R k (i + 1) _ (hR.app g0) b3 b1 hw hl
  obtain ⟨g2, j2, o', c2, d2, l2, n2⟩ := h2 R k j1 _ ((hR.app g0).app g1) d1 n1 hw hl m' (some g.enc) (by omega)
  refine ⟨g0 ++ g1 ++ g2, j2, o', ?_, d2, by omega, n2⟩
  simp only [Int.natCast_succ] at c0 c1
  simp only [fLess, Fm.enc] at c2
  have k1 : ev (ckx ft gl wf (d + 8)) GP.c_read_form0 [some (.ref k), some (.int i), some (.tup (ws.map .str)), some f.enc, o] st = .ok (.bl true) (st ++ g0) := by
    simp [GP.c_read_form0, c0, show (i : Int) < i + 1 by omega]
  have k2 : xSs (ckx ft gl wf (d + 8)) GP.b_read_form0 [some (.ref k), some (.int i), some (.tup (ws.map .str)), some f.enc, o] (st ++ g0) = .ok (.nx, [some (.ref k), some (.int j1), some (.tup (ws.map .str)), some (.tup [.str [108, 101, 115, 115], .non, .tup [f.enc, g.enc]]), some g.enc]) (st ++ g0 ++ g1) := by
    simp [-List.append_assoc, GP.b_read_form0, c1]
  rw [whlL_succ, k1]
  simp only [Res.lift_ok, bcase_bl, if_true]
  rw [k2]
  simp only [Res.bind_ok, lpn_nx]
  rw [c2]
  simp only [List.append_assoc]
theorem g_sum (F : Rs ft gl) {d ws ts f r g r'} (h1 : Goal ft gl wf d .call ws ts f r) (h2 : Goal ft gl wf d (.sumL f) ws r g r') : Goal ft gl wf (d + 1) .sum ws ts g r' := by
  intro R k i st hR hd hi hw hl
  obtain ⟨g1, j1, c1, d1, l1, n1⟩ := h1 R k i st hR hd hi hw (by omega)
  obtain ⟨g2, j2, o', q', c2, d2, l2, n2⟩ := h2 R k j1 _ (hR.app g1) d1 n1 hw (by omega) wf none none (by omega)
  refine ⟨g1 ++ g2, j2, ?_, d2, by omega, n2⟩
  rw [show d + 1 + 8 = (d + 8) + 1 by omega, callF_def F.read_sum rfl]
  simp only at c1
  simp [GP.fn_read_sum, c1, c2]
theorem in_pm {st : Store} (v : W) : inF (.str v) (.tup [.str [43], .str [45]]) st = some (decide (v = [43] ∨ v = [45])) := by
  have := inF_strs (st := st) v [[43], [45]]
  simpa using this
theorem g_sumE (F : Rs ft gl) {d ws ts f} (h : ts.head? ≠ some [43]) (h' : ts.head? ≠ some [45]) : Goal ft gl wf d (.sumL f) ws ts f ts := by
  intro R k i st hR hd hi hw hl m o q hm
  obtain ⟨m', rfl⟩ := whl_succ hm hi
  refine ⟨[], i, o, q, ?_, hd, Nat.le_refl _, hi⟩
  cases ts with
  | nil =>
    have := drop_nil hd
    simp [whlL_succ, GP.c_read_sum0, bi_lenR hR.cell, show ¬ ((i : Int) < R.length) by omega]
  | cons v r =>
    obtain ⟨b1, b2, b3⟩ := drop_cons hd
    have e : ¬ (v = [43] ∨ v = [45]) := by
      simp at h h'
      simp [h, h']
    simp [whlL_succ, GP.c_read_sum0, bi_lenR hR.cell, show ((i : Int) < R.length) by omega, idx_row hR hd, in_pm, e]
theorem g_sumP (F : Rs ft gl) {d ws ts f g r h r'} {v : W} {g' : Fm → Fm → Fm} (hv : (v = [43] ∧ g' = fPlus) ∨ (v = [45] ∧ g' = fMinus)) (h1 : Goal ft gl wf d .call ws ts g r) (h2 : Goal ft gl wf d (.sumL (g' f g)) ws r h r') : Goal ft gl wf d (.sumL f) ws (v :: ts) h r' := by
  intro R k i st hR hd hi hw hl m o q hm
  obtain ⟨m', rfl⟩ := whl_succ hm hi
  obtain ⟨b1, b2, b3⟩ := drop_cons hd
  obtain ⟨g1, j1, c1, d1, l1, n1⟩ := h1 R k (i + 1) _ hR b3 b1 hw hl
  simp only [Int.natCast_succ] at c1
  rcases hv with ⟨rfl, rfl⟩ | ⟨rfl, rfl⟩
  · obtain ⟨g2, j2, o', q', c2, d2, l2, n2⟩ := h2 R k j1 _ (hR.app g1) d1 n1 hw hl m' (some (.str [112, 108, 117, 115])) (some g.enc) (by omega)
    refine ⟨g1 ++ g2, j2, o', q', ?_, d2, by omega, n2⟩
    simp only [fPlus, Fm.enc] at c2
    have k1 : ev (ckx ft gl wf (d + 8)) GP.c_read_sum0 [some (.ref k), some (.int i), some (.tup (ws.map .str)), some f.enc, o, q] st = .ok (.bl true) st := by
      simp [GP.c_read_sum0, bi_lenR hR.cell, show ((i : Int) < R.length) by omega, idx_row hR hd, in_pm]
    have k2 : xSs (ckx ft gl wf (d + 8)) GP.b_read_sum0 [some (.ref k), some (.int i), some (.tup (ws.map .str)), some f.enc, o, q] st = .ok (.nx, [some (.ref k), some (.int j1), some (.tup (ws.map .str)), some (.tup [.str [112, 108, 117, 115], .non, .tup [f.enc, g.enc]]), some (.str [112, 108, 117, 115]), some g.enc]) (st ++ g1) := by
      simp [-List.append_assoc, GP.b_read_sum0, idx_row hR hd, c1]
    rw [whlL_succ, k1]
    simp only [Res.lift_ok, bcase_bl, if_true]
    rw [k2]
    simp only [Res.bind_ok, lpn_nx]
    rw [c2]
    simp only [List.append_assoc]
  · obtain ⟨g2, j2, o', q', c2, d2, l2, n2⟩ := h2 R k j1 _ (hR.app g1) d1 n1 hw hl m' (some (.str [109, 105, 110, 117, 115])) (some g.enc) (by omega)
    refine ⟨g1 ++ g2, j2, o', q', ?_, d2, by omega, n2⟩
    simp only [fMinus, Fm.enc] at c2
    have k1 : ev (ckx ft gl wf (d + 8)) GP.c_read_sum0 [some (.ref k), some (.int i), some (.tup (ws.map .str)), some f.enc, o, q] st = .ok (.bl true) st := by
      simp [GP.c_read_sum0, bi_lenR hR.cell, show ((i : Int) < R.length) by omega, idx_row hR hd, in_pm]
    have k2 : xSs (ckx ft gl wf (d + 8)) GP.b_read_sum0 [some (.ref k), some (.int i), some (.tup (ws.map .str)), some f.enc, o, q] st = .ok (.nx, [some (.ref k), some (.int j1), some (.tup (ws.map .str)), some (.tup [.str [109, 105, 110, 117, 115], .non, .tup [f.enc, g.enc]]), some (.str [109, 105, 110, 117, 115]), some g.enc]) (st ++ g1) := by
      simp [-List.append_assoc, GP.b_read_sum0, idx_row hR hd, c1]
    rw [whlL_succ, k1]
    simp only [Res.lift_ok, bcase_bl, if_true]
    rw [k2]
    simp only [Res.bind_ok, lpn_nx]
    rw [c2]
    simp only [List.append_assoc]
theorem g_call (F : Rs ft gl) {d ws ts f r g r'} (h1 : Goal ft gl wf d .part ws ts f r) (h2 : Goal ft gl wf d (.callL f) ws r g r') : Goal ft gl wf (d + 1) .call ws ts g r' := by
  intro R k i st hR hd hi hw hl
  obtain ⟨g1, j1, c1, d1, l1, n1⟩ := h1 R k i st hR hd hi hw (by omega)
  obtain ⟨g2, j2, o', c2, d2, l2, n2⟩ := h2 R k j1 _ (hR.app g1) d1 n1 hw (by omega) wf none (by omega)
  refine ⟨g1 ++ g2, j2, ?_, d2, by omega, n2⟩
  rw [show d + 1 + 8 = (d + 8) + 1 by omega, callF_def F.read_call rfl]
  simp only at c1
  simp [GP.fn_read_call, c1, c2]
theorem g_callE (F : Rs ft gl) {d ws ts f} (h : beg ts ws = false) : Goal ft gl wf d (.callL f) ws ts f ts := by
  intro R k i st hR hd hi hw hl m o hm
  obtain ⟨m', rfl⟩ := whl_succ hm hi
  have c1 := part_begins (wf := wf) (n := d + 4) F hR i ws
  rw [hd, h] at c1
  refine ⟨[], i, o, ?_, hd, Nat.le_refl _, hi⟩
  simp [whlL_succ, GP.c_read_call0, c1]
theorem g_callN (F : Rs ft gl) {d ws ts f g r h r'} (hb : beg ts ws = true) (h1 : Goal ft gl wf d .part ws ts g r) (h1' : r.length < ts.length) (h2 : Goal ft gl wf d (.callL (fCall f g)) ws r h r') : Goal ft gl wf d (.callL f) ws ts h r' := by
  intro R k i st hR hd hi hw hl m o hm
  obtain ⟨m', rfl⟩ := whl_succ hm hi
  have c0 := part_begins (wf := wf) (n := d + 4) F hR i ws
  rw [hd, hb] at c0
  obtain ⟨g1, j1, c1, d1, l1, n1⟩ := h1 R k i _ hR hd hi hw hl
  have lj : i < j1 := by
    have e1 : (R.drop i).length = ts.length := by rw [hd]
    have e2 : (R.drop j1).length = r.length := by rw [d1]
    simp only [List.length_drop] at e1 e2
    omega
  obtain ⟨g2, j2, o', c2, d2, l2, n2⟩ := h2 R k j1 _ (hR.app g1) d1 n1 hw hl m' (some g.enc) (by omega)
  refine ⟨g1 ++ g2, j2, o', ?_, d2, by omega, n2⟩
  simp only [fCall, Fm.enc] at c2
  simp only at c1
  have k1 : ev (ckx ft gl wf (d + 8)) GP.c_read_call0 [some (.ref k), some (.int i), some (.tup (ws.map .str)), some f.enc, o] st = .ok (.bl true) st := by
    simp [GP.c_read_call0, c0]
  have k2 : xSs (ckx ft gl wf (d + 8)) GP.b_read_call0 [some (.ref k), some (.int i), some (.tup (ws.map .str)), some f.enc, o] st = .ok (.nx, [some (.ref k), some (.int j1), some (.tup (ws.map .str)), some (.tup [.str [99, 97, 108, 108], .non, .tup [f.enc, g.enc]]), some g.enc]) (st ++ g1) := by
    simp [-List.append_assoc, GP.b_read_call0, c1]
  rw [whlL_succ, k1]
  simp only [Res.lift_ok, bcase_bl, if_true]
  rw [k2]
  simp only [Res.bind_ok, lpn_nx]
  rw [c2]
  simp only [List.append_assoc]
theorem g_gap (F : Rs ft gl) {d ws ts} (h : beg ts ws = false) : Goal ft gl wf d .part ws ts fGap ts := by
  intro R k i st hR hd hi hw hl
  have c1 := part_begins (wf := wf) (n := d + 3) F hR i ws (st := st)
  rw [hd, h] at c1
  refine ⟨[], i, ?_, hd, Nat.le_refl _, hi⟩
  rw [show d + 8 = (d + 7) + 1 by omega, callF_def F.read_part rfl]
  simp [GP.fn_read_part, c1, F.gap]
theorem leaf_opens {w : W} {ws : List W} {f : Fm} (h : leafOf w ws = some f) : w ∉ opens := by
  intro z
  simp only [opens, List.mem_cons, List.not_mem_nil, or_false] at z
  have k : ∀ v : W, isNumber v = false → isName v = false → isOdd v = false → v ≠ [63] → v ≠ wYes → v ≠ wNo → leafOf v ws = none := fun v a b c d e g => by
    unfold leafOf
    simp [a, b, c, d, e, g]
  rcases z with rfl | rfl | rfl | rfl | rfl
  all_goals
    rw [k _ (by decide +kernel) (by decide +kernel) (by decide +kernel) (by decide) (by decide) (by decide)] at h
    cases h
theorem g_leaf (F : Rs ft gl) {d ws w ts f} (h : leafOf w ws = some f) : Goal ft gl wf d .part ws (w :: ts) f ts := by
  intro R k i st hR hd hi hw hl
  have c1 := part_begins (wf := wf) (n := d + 3) F hR i ws (st := st)
  have hb : beg (w :: ts) ws = true := by
    unfold beg
    simp [h]
  rw [hd, hb] at c1
  obtain ⟨b1, b2, b3⟩ := drop_cons hd
  have hv : w.length ≤ SL := hR.len w (List.mem_of_getElem? b2)
  have no := leaf_opens h
  simp only [opens, List.mem_cons, List.not_mem_nil, or_false, not_or] at no
  have c2 := leaf_of (wf := wf) (n := d + 4) F w ws hv (st := st)
  rw [h] at c2
  refine ⟨[], i + 1, ?_, b3, by omega, b1⟩
  rw [show d + 8 = (d + 7) + 1 by omega, callF_def F.read_part rfl]
  simp [GP.fn_read_part, c1, idx_row hR hd, no, c2, optEnc]
theorem ok41 : (PyData.str ⟨([41] : W).toArray⟩).canLay0 = true := by decide +kernel
theorem pIdx_le {R : List W} {j : Nat} {w : W} (h : j ≤ R.length) : j ≤ pIdx R j w ∧ pIdx R j w ≤ R.length := by
  unfold pIdx
  split
  · rename_i e
    have : j < R.length := by
      by_cases z : j < R.length
      · exact z
      · rw [List.drop_eq_nil_of_le (by omega)] at e
        cases e
    omega
  · omega
theorem nIdx_le {R : List W} {j : Nat} (h : j ≤ R.length) : j ≤ nIdx R j ∧ nIdx R j ≤ R.length := by
  unfold nIdx
  split
  · omega
  · rename_i v r e
    have := (drop_cons e).1
    split <;> omega
theorem g_paren (F : Rs ft gl) {d ws ts f r} (h1 : Goal ft gl wf d .form [] ts f r) : Goal ft gl wf (d + 1) .part ws ([40] :: ts) f (pastW r [41]) := by
  intro R k i st hR hd hi hw hl
  have c0 := part_begins (wf := wf) (n := d + 4) F hR i ws (st := st)
  rw [hd, show beg ([40] :: ts) ws = true from rfl] at c0
  obtain ⟨b1, b2, b3⟩ := drop_cons hd
  obtain ⟨g1, j1, c1, d1, l1, n1⟩ := h1 R k (i + 1) _ hR b3 b1 hw (by simp only [List.length_nil]; omega)
  obtain ⟨g2, c2⟩ := past_word (wf := wf) (n := d + 7) F (hR.app g1) j1 [41] ok41
  simp only [Int.natCast_succ, List.map_nil] at c1
  refine ⟨g1 ++ g2, pIdx R j1 [41], ?_, by rw [pIdx_drop, d1], by have := (pIdx_le (w := [41]) n1).1; omega, (pIdx_le n1).2⟩
  rw [show d + 1 + 8 = (d + 8) + 1 by omega, callF_def F.read_part rfl]
  simp [-List.append_assoc, GP.fn_read_part, c0, idx_row hR hd, c1, c2]
  rw [List.append_assoc]
theorem ok61 : (PyData.str ⟨([61] : W).toArray⟩).canLay0 = true := by decide +kernel
theorem okArrow : (PyData.str ⟨([61, 62] : W).toArray⟩).canLay0 = true := by decide +kernel
theorem okIn : (PyData.str ⟨([105, 110] : W).toArray⟩).canLay0 = true := by decide +kernel
theorem okThen : (PyData.str ⟨([116, 104, 101, 110] : W).toArray⟩).canLay0 = true := by decide +kernel
theorem okElse : (PyData.str ⟨([101, 108, 115, 101] : W).toArray⟩).canLay0 = true := by decide +kernel
theorem g_fn (F : Rs ft gl) {d ws ts f r} (h1 : Goal ft gl wf d .form ws (pastW (nameFrom ts).2 [61, 62]) f r) : Goal ft gl wf (d + 2) .part ws ([102, 110] :: ts) (fFn (nameFrom ts).1 f) r := by
  intro R k i st hR hd hi hw hl
  have c0 := part_begins (wf := wf) (n := d + 5) F hR i ws (st := st)
  rw [hd, show beg ([102, 110] :: ts) ws = true from rfl] at c0
  obtain ⟨b1, b2, b3⟩ := drop_cons hd
  have c1 := name_from (wf := wf) (n := d + 6) F hR (i + 1) (st := st)
  have a1 := nIdx_drop R (i + 1)
  have le1 := nIdx_le (R := R) (j := i + 1) b1
  rw [b3] at c1 a1
  obtain ⟨g2, c2⟩ := past_word (wf := wf) (n := d + 7) F hR (nIdx R (i + 1)) [61, 62] okArrow
  have a2 := pIdx_drop R (nIdx R (i + 1)) [61, 62]
  have le2 := pIdx_le (w := [61, 62]) le1.2
  rw [a1] at a2
  obtain ⟨g3, j3, c3, d3, l3, n3⟩ := h1 R k _ _ (hR.app g2) a2 le2.2 hw (by omega)
  simp only [Int.natCast_succ] at c1
  simp only at c3
  have cc : callF ft gl wf (d + 8 + 1) 347 [.ref k, .int ((i : Int) + 1), .tup (ws.map .str), .str [102, 110]] st = .ok (.tup [(fFn (nameFrom ts).1 f).enc, .int (j3 : Nat)]) (st ++ g2 ++ g3) := by
    rw [callF_def F.read_function rfl]
    simp [-List.append_assoc, GP.fn_read_function, c1, c2, c3, fFn, Fm.enc]
  refine ⟨g2 ++ g3, j3, ?_, d3, by omega, n3⟩
  rw [show d + 2 + 8 = (d + 8 + 1) + 1 by omega, callF_def F.read_part rfl]
  simp [-List.append_assoc, GP.fn_read_part, c0, idx_row hR hd, cc]
  rw [List.append_assoc]
theorem g_rec (F : Rs ft gl) {d ws ts f r} (h1 : Goal ft gl wf d .form ws (pastW (nameFrom (nameFrom ts).2).2 [61, 62]) f r) : Goal ft gl wf (d + 2) .part ws ([114, 101, 99] :: ts) (fRec (nameFrom ts).1 (nameFrom (nameFrom ts).2).1 f) r := by
  intro R k i st hR hd hi hw hl
  have c0 := part_begins (wf := wf) (n := d + 5) F hR i ws (st := st)
  rw [hd, show beg ([114, 101, 99] :: ts) ws = true from rfl] at c0
  obtain ⟨b1, b2, b3⟩ := drop_cons hd
  have c1 := name_from (wf := wf) (n := d + 6) F hR (i + 1) (st := st)
  have a1 := nIdx_drop R (i + 1)
  have le1 := nIdx_le (R := R) (j := i + 1) b1
  rw [b3] at c1 a1
  have c1' := name_from (wf := wf) (n := d + 6) F hR (nIdx R (i + 1)) (st := st)
  have a1' := nIdx_drop R (nIdx R (i + 1))
  have le1' := nIdx_le (R := R) (j := nIdx R (i + 1)) le1.2
  rw [a1] at c1' a1'
  obtain ⟨g2, c2⟩ := past_word (wf := wf) (n := d + 7) F hR (nIdx R (nIdx R (i + 1))) [61, 62] okArrow
  have a2 := pIdx_drop R (nIdx R (nIdx R (i + 1))) [61, 62]
  have le2 := pIdx_le (w := [61, 62]) le1'.2
  rw [a1'] at a2
  obtain ⟨g3, j3, c3, d3, l3, n3⟩ := h1 R k _ _ (hR.app g2) a2 le2.2 hw (by omega)
  simp only [Int.natCast_succ] at c1
  simp only at c3
  have cc : callF ft gl wf (d + 8 + 1) 347 [.ref k, .int ((i : Int) + 1), .tup (ws.map .str), .str [114, 101, 99]] st = .ok (.tup [(fRec (nameFrom ts).1 (nameFrom (nameFrom ts).2).1 f).enc, .int (j3 : Nat)]) (st ++ g2 ++ g3) := by
    rw [callF_def F.read_function rfl]
    simp [-List.append_assoc, GP.fn_read_function, c1, c1', c2, c3, fRec, Fm.enc]
  refine ⟨g2 ++ g3, j3, ?_, d3, by omega, n3⟩
  rw [show d + 2 + 8 = (d + 8 + 1) + 1 by omega, callF_def F.read_part rfl]
  simp [-List.append_assoc, GP.fn_read_part, c0, idx_row hR hd, cc]
  rw [List.append_assoc]
theorem g_let (F : Rs ft gl) {d ws ts f r g r'} (h1 : Goal ft gl wf d .form (ws ++ [[105, 110]]) (pastW (nameFrom ts).2 [61]) f r) (h2 : Goal ft gl wf d .form ws (pastW r [105, 110]) g r') : Goal ft gl wf (d + 2) .part ws ([108, 101, 116] :: ts) (fLet (nameFrom ts).1 f g) r' := by
  intro R k i st hR hd hi hw hl
  have c0 := part_begins (wf := wf) (n := d + 5) F hR i ws (st := st)
  rw [hd, show beg ([108, 101, 116] :: ts) ws = true from rfl] at c0
  obtain ⟨b1, b2, b3⟩ := drop_cons hd
  have c1 := name_from (wf := wf) (n := d + 6) F hR (i + 1) (st := st)
  have a1 := nIdx_drop R (i + 1)
  have le1 := nIdx_le (R := R) (j := i + 1) b1
  rw [b3] at c1 a1
  obtain ⟨g2, c2⟩ := past_word (wf := wf) (n := d + 7) F hR (nIdx R (i + 1)) [61] ok61
  have a2 := pIdx_drop R (nIdx R (i + 1)) [61]
  have le2 := pIdx_le (w := [61]) le1.2
  rw [a1] at a2
  obtain ⟨g3, j3, c3, d3, l3, n3⟩ := h1 R k _ _ (hR.app g2) a2 le2.2 hw (by simp only [List.length_append, List.length_cons, List.length_nil]; omega)
  obtain ⟨g4, c4⟩ := past_word (wf := wf) (n := d + 7) F ((hR.app g2).app g3) j3 [105, 110] okIn
  have a4 := pIdx_drop R j3 [105, 110]
  have le4 := pIdx_le (w := [105, 110]) n3
  rw [d3] at a4
  obtain ⟨g5, j5, c5, d5, l5, n5⟩ := h2 R k _ _ (((hR.app g2).app g3).app g4) a4 le4.2 hw (by omega)
  simp only [Int.natCast_succ] at c1
  simp only [List.map_append, List.map_cons, List.map_nil] at c3
  simp only at c5
  have hs : ws.length + 1 ≤ SL := by rw [SL_eq]; omega
  have cc : callF ft gl wf (d + 8 + 1) 349 [.ref k, .int ((i : Int) + 1), .tup (ws.map .str)] st = .ok (.tup [(fLet (nameFrom ts).1 f g).enc, .int (j5 : Nat)]) (st ++ g2 ++ g3 ++ g4 ++ g5) := by
    rw [callF_def F.read_let rfl]
    simp [-List.append_assoc, GP.fn_read_let, c1, c2, c3, c4, c5, hs, fLet, Fm.enc]
  refine ⟨g2 ++ (g3 ++ (g4 ++ g5)), j5, ?_, d5, by omega, n5⟩
  rw [show d + 2 + 8 = (d + 8 + 1) + 1 by omega, callF_def F.read_part rfl]
  simp [-List.append_assoc, GP.fn_read_part, c0, idx_row hR hd, cc]
  simp only [List.append_assoc]
theorem g_if (F : Rs ft gl) {d ws ts f r g r' h r''} (h1 : Goal ft gl wf d .form (ws ++ [[116, 104, 101, 110], [101, 108, 115, 101]]) ts f r) (h2 : Goal ft gl wf d .form (ws ++ [[101, 108, 115, 101]]) (pastW r [116, 104, 101, 110]) g r') (h3 : Goal ft gl wf d .form ws (pastW r' [101, 108, 115, 101]) h r'') : Goal ft gl wf (d + 2) .part ws ([105, 102] :: ts) (fIf f g h) r'' := by
  intro R k i st hR hd hi hw hl
  have c0 := part_begins (wf := wf) (n := d + 5) F hR i ws (st := st)
  rw [hd, show beg ([105, 102] :: ts) ws = true from rfl] at c0
  obtain ⟨b1, b2, b3⟩ := drop_cons hd
  obtain ⟨g3, j3, c3, d3, l3, n3⟩ := h1 R k (i + 1) _ hR b3 b1 hw (by simp only [List.length_append, List.length_cons, List.length_nil]; omega)
  obtain ⟨g4, c4⟩ := past_word (wf := wf) (n := d + 7) F (hR.app g3) j3 [116, 104, 101, 110] okThen
  have a4 := pIdx_drop R j3 [116, 104, 101, 110]
  have le4 := pIdx_le (w := [116, 104, 101, 110]) n3
  rw [d3] at a4
  obtain ⟨g5, j5, c5, d5, l5, n5⟩ := h2 R k _ _ ((hR.app g3).app g4) a4 le4.2 hw (by simp only [List.length_append, List.length_cons, List.length_nil]; omega)
  obtain ⟨g6, c6⟩ := past_word (wf := wf) (n := d + 7) F (((hR.app g3).app g4).app g5) j5 [101, 108, 115, 101] okElse
  have a6 := pIdx_drop R j5 [101, 108, 115, 101]
  have le6 := pIdx_le (w := [101, 108, 115, 101]) n5
  rw [d5] at a6
  obtain ⟨g7, j7, c7, d7, l7, n7⟩ := h3 R k _ _ ((((hR.app g3).app g4).app g5).app g6) a6 le6.2 hw (by omega)
  simp only [List.map_append, List.map_cons, List.map_nil, Int.natCast_succ] at c3
  simp only [List.map_append, List.map_cons, List.map_nil] at c5
  simp only at c7
  have hs : ws.length + 1 ≤ SL := by rw [SL_eq]; omega
  have hs2 : ws.length + 2 ≤ SL := by rw [SL_eq]; omega
  have cc : callF ft gl wf (d + 8 + 1) 348 [.ref k, .int ((i : Int) + 1), .tup (ws.map .str)] st = .ok (.tup [(fIf f g h).enc, .int (j7 : Nat)]) (st ++ g3 ++ g4 ++ g5 ++ g6 ++ g7) := by
    rw [callF_def F.read_if rfl]
    simp [-List.append_assoc, GP.fn_read_if, c3, c4, c5, c6, c7, hs, hs2, fIf, Fm.enc]
  refine ⟨g3 ++ (g4 ++ (g5 ++ (g6 ++ g7))), j7, ?_, d7, by omega, n7⟩
  rw [show d + 2 + 8 = (d + 8 + 1) + 1 by omega, callF_def F.read_part rfl]
  simp [-List.append_assoc, GP.fn_read_part, c0, idx_row hR hd, cc]
  simp only [List.append_assoc]
theorem nameFrom_len (ts : List W) : (nameFrom ts).2.length ≤ ts.length := by
  unfold nameFrom
  cases ts with
  | nil => exact Nat.le_refl _
  | cons v r =>
    by_cases h : isName v = true <;> simp [h]
theorem pastW_len (ts : List W) (w : W) : (pastW ts w).length ≤ ts.length := by
  unfold pastW
  cases ts with
  | nil => exact Nat.le_refl _
  | cons v r =>
    show (if v = w then r else v :: r).length ≤ _
    split <;> simp
/-- what is read takes no token back; a part that begins takes one -/
theorem Rd.len {d kd ws ts f r} (h : Rd d kd ws ts f r) : r.length ≤ ts.length ∧ (kd = .part → beg ts ws = true → r.length < ts.length) := by
  induction h with
  | form _ _ a b => exact ⟨Nat.le_trans b.1 a.1, fun z => by cases z⟩
  | formE _ => exact ⟨Nat.le_refl _, fun z => by cases z⟩
  | formN _ _ a b => exact ⟨Nat.le_trans b.1 (Nat.le_succ_of_le a.1), fun z => by cases z⟩
  | sum _ _ a b => exact ⟨Nat.le_trans b.1 a.1, fun z => by cases z⟩
  | sumE _ _ => exact ⟨Nat.le_refl _, fun z => by cases z⟩
  | sumP _ _ a b => exact ⟨Nat.le_trans b.1 (Nat.le_succ_of_le a.1), fun z => by cases z⟩
  | sumM _ _ a b => exact ⟨Nat.le_trans b.1 (Nat.le_succ_of_le a.1), fun z => by cases z⟩
  | call _ _ a b => exact ⟨Nat.le_trans b.1 a.1, fun z => by cases z⟩
  | callE _ => exact ⟨Nat.le_refl _, fun z => by cases z⟩
  | callN _ _ _ a b => exact ⟨Nat.le_trans b.1 a.1, fun z => by cases z⟩
  | gap h => exact ⟨Nat.le_refl _, fun _ z => by rw [h] at z; cases z⟩
  | leaf _ => exact ⟨Nat.le_succ _, fun _ _ => Nat.lt_succ_self _⟩
  | @paren d ws ts f r _ a =>
    have := pastW_len r [41]
    have h := a.1
    simp only [List.length_cons]
    exact ⟨by omega, fun _ _ => by omega⟩
  | @fn d ws ts f r _ a =>
    have h1 := nameFrom_len ts
    have h2 := pastW_len (nameFrom ts).2 [61, 62]
    have h := a.1
    simp only [List.length_cons]
    exact ⟨by omega, fun _ _ => by omega⟩
  | @rec_ d ws ts f r _ a =>
    have h1 := nameFrom_len ts
    have h3 := nameFrom_len (nameFrom ts).2
    have h2 := pastW_len (nameFrom (nameFrom ts).2).2 [61, 62]
    have h := a.1
    simp only [List.length_cons]
    exact ⟨by omega, fun _ _ => by omega⟩
  | @let_ d ws ts f r g r' _ _ a b =>
    have h1 := nameFrom_len ts
    have h2 := pastW_len (nameFrom ts).2 [61]
    have h3 := pastW_len r [105, 110]
    have h := a.1
    have h' := b.1
    simp only [List.length_cons]
    exact ⟨by omega, fun _ _ => by omega⟩
  | @if_ d ws ts f r g r' h r'' _ _ _ a b c =>
    have h2 := pastW_len r [116, 104, 101, 110]
    have h3 := pastW_len r' [101, 108, 115, 101]
    have h := a.1
    have h' := b.1
    have h'' := c.1
    simp only [List.length_cons]
    exact ⟨by omega, fun _ _ => by omega⟩
/-- the readers do what is read -/
theorem rd_ok (F : Rs ft gl) {d kd ws ts f r} (h : Rd d kd ws ts f r) : Goal ft gl wf d kd ws ts f r := by
  induction h with
  | form _ _ a b => exact g_form F a b
  | formE h => exact g_formE F h
  | formN _ _ a b => exact g_formN F a b
  | sum _ _ a b => exact g_sum F a b
  | sumE h h' => exact g_sumE F h h'
  | sumP _ _ a b => exact g_sumP F (g' := fPlus) (.inl ⟨rfl, rfl⟩) a b
  | sumM _ _ a b => exact g_sumP F (g' := fMinus) (.inr ⟨rfl, rfl⟩) a b
  | call _ _ a b => exact g_call F a b
  | callE h => exact g_callE F h
  | callN h p _ a b => exact g_callN F h a (p.len.2 rfl h) b
  | gap h => exact g_gap F h
  | leaf h => exact g_leaf F h
  | paren _ a => exact g_paren F a
  | fn _ a => exact g_fn F a
  | rec_ _ a => exact g_rec F a
  | let_ _ _ a b => exact g_let F a b
  | if_ _ _ _ a b c => exact g_if F a b c
theorem Rd.mono {d kd ws ts f r} (h : Rd d kd ws ts f r) : ∀ {e}, d ≤ e → Rd e kd ws ts f r := by
  induction h with
  | form _ _ a b => intro e he; obtain ⟨e, rfl⟩ : ∃ q, e = q + 1 := ⟨e - 1, by omega⟩; exact .form (a (by omega)) (b (by omega))
  | formE h => intro e he; exact .formE h
  | formN _ _ a b => intro e he; exact .formN (a he) (b he)
  | sum _ _ a b => intro e he; obtain ⟨e, rfl⟩ : ∃ q, e = q + 1 := ⟨e - 1, by omega⟩; exact .sum (a (by omega)) (b (by omega))
  | sumE h h' => intro e he; exact .sumE h h'
  | sumP _ _ a b => intro e he; exact .sumP (a he) (b he)
  | sumM _ _ a b => intro e he; exact .sumM (a he) (b he)
  | call _ _ a b => intro e he; obtain ⟨e, rfl⟩ : ∃ q, e = q + 1 := ⟨e - 1, by omega⟩; exact .call (a (by omega)) (b (by omega))
  | callE h => intro e he; exact .callE h
  | callN h _ _ a b => intro e he; exact .callN h (a he) (b he)
  | gap h => intro e he; exact .gap h
  | leaf h => intro e he; exact .leaf h
  | paren _ a => intro e he; obtain ⟨e, rfl⟩ : ∃ q, e = q + 1 := ⟨e - 1, by omega⟩; exact .paren (a (by omega))
  | fn _ a => intro e he; obtain ⟨e, rfl⟩ : ∃ q, e = q + 2 := ⟨e - 2, by omega⟩; exact .fn (a (by omega))
  | rec_ _ a => intro e he; obtain ⟨e, rfl⟩ : ∃ q, e = q + 2 := ⟨e - 2, by omega⟩; exact .rec_ (a (by omega))
  | let_ _ _ a b => intro e he; obtain ⟨e, rfl⟩ : ∃ q, e = q + 2 := ⟨e - 2, by omega⟩; exact .let_ (a (by omega)) (b (by omega))
  | if_ _ _ _ a b c => intro e he; obtain ⟨e, rfl⟩ : ∃ q, e = q + 2 := ⟨e - 2, by omega⟩; exact .if_ (a (by omega)) (b (by omega)) (c (by omega))
end
end RA
end
set_option maxRecDepth 100000
set_option maxHeartbeats 2000000
/-! RD: a text's pieces; read. -/
noncomputable section
namespace RA
open GI PySem
abbrev blanks : List Nat := [32, 9, 10, 40, 41]
def cut (w : W) : List W := if w = [] then [] else [w]
def pcs : List Nat → W → List W
  | [], w => cut w
  | c :: r, w => if c ∈ blanks then cut w ++ ((if c = 40 ∨ c = 41 then [[c]] else []) ++ pcs r []) else pcs r (w ++ [c])
def hld : List W → Nat → List W
  | [], _ => []
  | w :: r, d => if w = [41] then (if d = 0 then hld r 0 else w :: hld r (d - 1)) else if w = [40] then w :: hld r (d + 1) else w :: hld r d
section
variable {ft : Nat → Option Fn} {gl : Nat → Option PV} {wf n : Nat}
theorem cut_len (w : W) : (cut w).length ≤ 1 := by
  unfold cut
  split <;> simp
theorem loop_pieces {cx : Ck} (a : Option PV) (st : Store) : ∀ (t : List Nat) (w : W) (acc : List W) (o : Option PV), acc.length + 2 * t.length + w.length + 2 ≤ SL → ∃ (w' : W) (acc' : List W) (o' : Option PV),
    forL [] (.one 3) (xSs cx GP.b_pieces_of0) (t.map fun c => .str [c]) [a, some (.ref st.length), some (.str w), o] (st ++ [.lst (acc.map .str)]) = .ok (.nx, [a, some (.ref st.length), some (.str w'), o']) (st ++ [.lst (acc'.map .str)]) ∧ acc' ++ cut w' = acc ++ pcs t w ∧ acc'.length ≤ acc.length + 2 * t.length
  | [], w, acc, o, _ => ⟨w, acc, o, by simp [forL_nil], rfl, by simp⟩
  | c :: t, w, acc, o, hl => by
    simp only [List.length_cons] at hl
    have ib : inF (.str [c]) (.str [32, 9, 10, 40, 41]) (st ++ [.lst (acc.map .str)]) = some (decide (c ∈ blanks)) := rfl
    by_cases hb : c ∈ blanks
    · have key : xSs cx GP.b_pieces_of0 [a, some (.ref st.length), some (.str w), some (.str [c])] (st ++ [.lst (acc.map .str)]) = .ok (.nx, [a, some (.ref st.length), some (.str []), some (.str [c])]) (st ++ [.lst ((acc ++ cut w ++ if c = 40 ∨ c = 41 then [[c]] else []).map .str)]) := by
        have i2 : ∀ s : Store, inF (.str [c]) (.str [40, 41]) s = some (decide (c = 40 ∨ c = 41)) := fun s => by
          show some (decide (c ∈ [40, 41])) = _
          simp
        have l1 : acc.length < SL := by omega
        have l2 : acc.length + 1 < SL := by omega
        by_cases h1 : w = [] <;> by_cases h2 : c = 40 ∨ c = 41 <;> simp [-List.mem_cons, GP.b_pieces_of0, ib, hb, h1, h2, i2, cut, isLst_ref at_end, mt_append at_end, l1, l2]
      obtain ⟨w', acc', o', e1, e2, e3⟩ := loop_pieces (cx := cx) a st t [] (acc ++ cut w ++ if c = 40 ∨ c = 41 then [[c]] else []) (some (.str [c])) (by
        have := cut_len w
        simp only [List.length_append, List.length_nil]
        split <;> simp <;> omega)
      refine ⟨w', acc', o', ?_, ?_, ?_⟩
      · rw [List.map_cons, forL_cons, if_pos keeps_nil]
        simp only [bindTg_one, List.set_cons_succ, List.set_cons_zero]
        rw [key]
        exact e1
      · rw [e2]
        show _ = acc ++ (if c ∈ blanks then _ else _)
        rw [if_pos hb]
        simp only [List.append_assoc]
      · have := cut_len w
        simp only [List.length_append, List.length_cons] at e3 ⊢
        have : (if c = 40 ∨ c = 41 then [[c]] else [] : List W).length ≤ 1 := by split <;> simp
        omega
    · have key : xSs cx GP.b_pieces_of0 [a, some (.ref st.length), some (.str w), some (.str [c])] (st ++ [.lst (acc.map .str)]) = .ok (.nx, [a, some (.ref st.length), some (.str (w ++ [c])), some (.str [c])]) (st ++ [.lst (acc.map .str)]) := by
        have l1 : w.length + 1 ≤ SL := by omega
        simp [-List.mem_cons, GP.b_pieces_of0, ib, hb, l1]
      obtain ⟨w', acc', o', e1, e2, e3⟩ := loop_pieces (cx := cx) a st t (w ++ [c]) acc (some (.str [c])) (by
        simp only [List.length_append, List.length_cons, List.length_nil]; omega)
      refine ⟨w', acc', o', ?_, ?_, by simp only [List.length_cons]; omega⟩
      · rw [List.map_cons, forL_cons, if_pos keeps_nil]
        simp only [bindTg_one, List.set_cons_succ, List.set_cons_zero]
        rw [key]
        exact e1
      · rw [e2]
        show _ = acc ++ (if c ∈ blanks then _ else _)
        rw [if_neg hb]
theorem pieces_of (F : Rs ft gl) (t : List Nat) (st : Store) (h : 2 * t.length + 2 ≤ SL) : callF ft gl wf (n + 1) 321 [.str t] st = .ok (.ref st.length) (st ++ [.lst ((pcs t []).map .str)]) := by
  obtain ⟨w', acc', o', e1, e2, e3⟩ := loop_pieces (cx := ckx ft gl wf n) (some (.str t)) st t [] [] none (by simp; omega)
  rw [callF_def F.pieces_of rfl]
  simp only [List.nil_append] at e2
  simp only [List.map_nil] at e1
  by_cases hw : w' = []
  · subst hw
    simp only [cut, if_true, List.append_nil] at e2
    simp [GP.fn_pieces_of, e1, e2]
  · simp only [cut, if_neg hw] at e2
    have l1 : acc'.length < SL := by simp at e3; omega
    simp [GP.fn_pieces_of, e1, hw, isLst_ref at_end, mt_append at_end, l1, ← e2]
theorem loop_held {cx : Ck} (k : Nat) (st : Store) (full : List PV) (hk : st[k]? = some (.lst full)) : ∀ (t : List W) (d : Nat) (acc : List W) (o : Option PV), acc.length + t.length ≤ SL → ∃ (d' : Nat) (o' : Option PV),
    forL [(k, full)] (.one 3) (xSs cx GP.b_held_pieces0) (t.map .str) [some (.ref k), some (.ref st.length), some (.int d), o] (st ++ [.lst (acc.map .str)]) = .ok (.nx, [some (.ref k), some (.ref st.length), some (.int d'), o']) (st ++ [.lst ((acc ++ hld t d).map .str)])
  | [], d, acc, o, _ => ⟨d, o, by
    have hk2 : ∀ c : Cell, (st ++ [c])[k]? = some (.lst full) := fun c => by
      rw [List.getElem?_append_left (List.getElem?_eq_some_iff.mp hk).1]
      exact hk
    simp [forL_nil, keeps_one (hk2 _), hld]⟩
  | w :: t, d, acc, o, hl => by
    simp only [List.length_cons] at hl
    have hk2 : ∀ c : Cell, (st ++ [c])[k]? = some (.lst full) := fun c => by
      rw [List.getElem?_append_left (List.getElem?_eq_some_iff.mp hk).1]
      exact hk
    have l1 : acc.length < SL := by omega
    have step : ∃ (fl : Fl) (d1 : Nat) (ys : List W), (fl = .nx ∨ fl = .ct) ∧ xSs cx GP.b_held_pieces0 [some (.ref k), some (.ref st.length), some (.int d), some (.str w)] (st ++ [.lst (acc.map .str)]) = .ok (fl, [some (.ref k), some (.ref st.length), some (.int d1), some (.str w)]) (st ++ [.lst ((acc ++ ys).map .str)]) ∧ hld (w :: t) d = ys ++ hld t d1 ∧ ys.length ≤ 1 := by
      by_cases h1 : w = [41]
      · subst h1
        cases d with
        | zero => exact ⟨.ct, 0, [], .inr rfl, by simp [GP.b_held_pieces0], by simp [hld], by simp⟩
        | succ d =>
          have hd0 : ¬ ((d : Int) + 1 = 0) := by omega
          exact ⟨.nx, d, [[41]], .inl rfl, by simp [GP.b_held_pieces0, hd0, isLst_ref at_end, mt_append at_end, l1], by simp [hld], by simp⟩
      · by_cases h2 : w = [40]
        · subst h2
          exact ⟨.nx, d + 1, [[40]], .inl rfl, by simp [GP.b_held_pieces0, isLst_ref at_end, mt_append at_end, l1], by simp [hld], by simp⟩
        · exact ⟨.nx, d, [w], .inl rfl, by simp [GP.b_held_pieces0, isLst_ref at_end, mt_append at_end, l1, h1, h2], by simp [hld, h1, h2], by simp⟩
    obtain ⟨fl, d1, ys, hfl, e1, e2, e3⟩ := step
    obtain ⟨d', o', e4⟩ := loop_held (cx := cx) k st full hk t d1 (acc ++ ys) (some (.str w)) (by simp only [List.length_append]; omega)
    refine ⟨d', o', ?_⟩
    rw [List.map_cons, forL_cons, if_pos (keeps_one (hk2 _))]
    simp only [bindTg_one, List.set_cons_succ, List.set_cons_zero]
    rw [e1, e2]
    rw [List.append_assoc] at e4
    rcases hfl with rfl | rfl
    · exact e4
    · exact e4
theorem held_pieces (F : Rs ft gl) (k : Nat) (t : List W) (st : Store) (hk : st[k]? = some (.lst (t.map .str))) (h : t.length ≤ SL) : callF ft gl wf (n + 1) 320 [.ref k] st = .ok (.ref st.length) (st ++ [.lst ((hld t 0).map .str)]) := by
  obtain ⟨d', o', e1⟩ := loop_held (cx := ckx ft gl wf n) k st _ hk t 0 [] none (by simp; omega)
  rw [callF_def F.held_pieces rfl]
  have hk2 : ∀ c : Cell, (st ++ [c])[k]? = some (.lst (t.map .str)) := fun c => by
    rw [List.getElem?_append_left (List.getElem?_eq_some_iff.mp hk).1]
    exact hk
  simp only [List.map_nil, List.nil_append] at e1
  simp [GP.fn_held_pieces, walkG_ref (hk2 _)]
  erw [e1]
  simp
end
end RA
end
set_option maxRecDepth 100000
set_option maxHeartbeats 2000000
/-! RE: a text read. -/
noncomputable section
namespace RA
open GI PySem
theorem pcs_mem : ∀ (t : List Nat) (w : W) (v : W), v ∈ pcs t w → (∀ c ∈ v, c ∈ t ∨ c ∈ w) ∧ v.length ≤ t.length + w.length
  | [], w, v, h => by
    unfold pcs cut at h
    split at h
    · cases h
    · rw [List.mem_singleton] at h
      subst h
      exact ⟨fun c hc => .inr hc, by simp⟩
  | c :: t, w, v, h => by
    unfold pcs at h
    split at h
    · rw [List.mem_append, List.mem_append] at h
      rcases h with h | h | h
      · unfold cut at h
        split at h
        · cases h
        · rw [List.mem_singleton] at h
          subst h
          exact ⟨fun c hc => .inr hc, by simp⟩
      · split at h
        · rw [List.mem_singleton] at h
          subst h
          exact ⟨fun d hd => by rw [List.mem_singleton] at hd; subst hd; exact .inl List.mem_cons_self, by simp; omega⟩
        · cases h
      · obtain ⟨h1, h2⟩ := pcs_mem t [] v h
        refine ⟨fun d hd => ?_, by simp at h2 ⊢; omega⟩
        rcases h1 d hd with z | z
        · exact .inl (List.mem_cons_of_mem _ z)
        · cases z
    · obtain ⟨h1, h2⟩ := pcs_mem t (w ++ [c]) v h
      refine ⟨fun d hd => ?_, by simp at h2 ⊢; omega⟩
      rcases h1 d hd with z | z
      · exact .inl (List.mem_cons_of_mem _ z)
      · rw [List.mem_append, List.mem_singleton] at z
        rcases z with z | z
        · exact .inr z
        · subst z
          exact .inl List.mem_cons_self
theorem hld_mem : ∀ (t : List W) (d : Nat) (v : W), v ∈ hld t d → v ∈ t
  | [], _, _, h => by cases h
  | w :: r, d, v, h => by
    unfold hld at h
    split at h
    · split at h
      · exact List.mem_cons_of_mem _ (hld_mem r 0 v h)
      · rcases List.mem_cons.mp h with z | z
        · subst z
          exact List.mem_cons_self
        · exact List.mem_cons_of_mem _ (hld_mem r _ v z)
    · split at h
      · rcases List.mem_cons.mp h with z | z
        · subst z
          exact List.mem_cons_self
        · exact List.mem_cons_of_mem _ (hld_mem r _ v z)
      · rcases List.mem_cons.mp h with z | z
        · subst z
          exact List.mem_cons_self
        · exact List.mem_cons_of_mem _ (hld_mem r _ v z)
theorem hld_len : ∀ (t : List W) (d : Nat), (hld t d).length ≤ t.length
  | [], _ => Nat.le_refl _
  | w :: r, d => by
    unfold hld
    have h1 := hld_len r 0
    have h2 := hld_len r (d - 1)
    have h3 := hld_len r (d + 1)
    have h4 := hld_len r d
    split
    · split <;> simp <;> omega
    · split <;> simp <;> omega
theorem pcs_len : ∀ (t : List Nat) (w : W), (pcs t w).length ≤ 2 * t.length + 1
  | [], w => by
    have := cut_len w
    unfold pcs
    simp; omega
  | c :: t, w => by
    have h1 := cut_len w
    have h2 := pcs_len t []
    have h3 := pcs_len t (w ++ [c])
    unfold pcs
    split
    · simp only [List.length_append, List.length_cons]
      have : (if c = 40 ∨ c = 41 then [[c]] else [] : List W).length ≤ 1 := by split <;> simp
      omega
    · simp; omega
theorem lay_of {w : W} (h : ∀ c ∈ w, c < 1114112) : (PyData.str ⟨w.toArray⟩).canLay0 = true := by
  unfold PyData.canLay0 PyData.strOk
  simpa using h
section
variable {ft : Nat → Option Fn} {gl : Nat → Option PV} {wf : Nat}
theorem read_ok (F : Rs ft gl) {t : List Nat} {d : Nat} {f : Fm} {r : List W} (h : Rd d .form [] (hld (pcs t []) 0) f r) (ht : ∀ c ∈ t, c < 1114112) (hl : 2 * t.length + 2 ≤ SL) (hw : 2 * t.length + 2 ≤ wf) (hd : d ≤ 1000) (st : Store) :
    ∃ g, callF ft gl wf (d + 9) 344 [.str t] st = .ok f.enc (st ++ g) := by
  have c1 := pieces_of (wf := wf) (n := d + 7) F t st hl
  have c2 := held_pieces (wf := wf) (n := d + 7) F st.length (pcs t []) _ at_end (by have := pcs_len t []; omega)
  have hR : Row (st ++ [.lst ((pcs t []).map .str)] ++ [.lst ((hld (pcs t []) 0).map .str)]) (st ++ [Cell.lst ((pcs t []).map .str)]).length (hld (pcs t []) 0) := by
    refine ⟨at_end, fun w hw => ?_, fun w hw => ?_⟩
    · have := (pcs_mem t [] w (hld_mem _ _ _ hw)).2
      simp at this
      omega
    · refine lay_of fun c hc => ?_
      rcases (pcs_mem t [] w (hld_mem _ _ _ hw)).1 c hc with z | z
      · exact ht c z
      · cases z
  have lR : (hld (pcs t []) 0).length < wf := by have := pcs_len t []; have := hld_len (pcs t []) 0; omega
  obtain ⟨g, j, c3, _⟩ := rd_ok (wf := wf) F h _ _ 0 _ hR rfl (Nat.zero_le _) lR (by simp; omega)
  simp only [Int.natCast_zero, List.map_nil] at c3
  refine ⟨[.lst ((pcs t []).map .str)] ++ ([.lst ((hld (pcs t []) 0).map .str)] ++ g), ?_⟩
  have e0 : ckx ft gl wf (d + 8) = ⟨gl, callF ft gl wf (d + 8), wf⟩ := rfl
  rw [show d + 9 = (d + 8) + 1 by omega, callF_def F.read rfl]
  have ea : evs (ckx ft gl wf (d + 8)) (.cons (.call 320 (.cons (.call 321 (.cons (.var 0) .nil)) .nil)) (.cons (.int 0) (.cons (.tup .nil) .nil))) [some (.str t), none, none] st = .ok [.ref (st ++ [Cell.lst ((pcs t []).map .str)]).length, .int 0, .tup []] (st ++ [.lst ((pcs t []).map .str)] ++ [.lst ((hld (pcs t []) 0).map .str)]) := by
    simp only [qevs_cons, qevs_nil, qev_call, qev_var, List.getElem?_cons_zero, getV_ok, Res.bind_ok]
    rw [c1]
    simp only [Res.bind_ok]
    rw [c2]
    simp only [Res.bind_ok, qev_int, qev_tup, qevs_nil, tupG_0]
  simp only [GP.fn_read, qxSs_cons, qxS_asgT, qev_call, List.map_cons, List.map_nil, List.cons_append, List.nil_append, Nat.reduceSub, List.replicate_succ, List.replicate_zero]
  rw [ea]
  simp only [Res.bind_ok]
  rw [c3]
  simp
end
end RA
end
set_option maxRecDepth 100000
set_option maxHeartbeats 2000000
/-! SA: the laws' own words, names, numbers. -/
noncomputable section
namespace SA
open GI PySem RA
structure Lw (ft : Nat → Option Fn) : Prop where
  alike : ft 2001 = some GQ.fn__law_alike
  cells : ft 2020 = some GQ.fn__law_cells
  leaf : ft 2045 = some GQ.fn__law_leaf_v1
  long : ft 2049 = some GQ.fn__law_long
  name : ft 2056 = some GQ.fn__law_name_v1
  number : ft 2062 = some GQ.fn__law_number_v1
  odd : ft 2064 = some GQ.fn__law_odd_v1
  signs : ft 2079 = some GQ.fn__law_signs
  taken : ft 2088 = some GQ.fn__law_taken_v1
section
variable {ft : Nat → Option Fn} {gl : Nat → Option PV} {wf n : Nat} {st : Store}
theorem at_mod {α : Type} (xs : List α) (r m : Int) (hm : m = xs.length) (h : 0 < m) : ∃ c ∈ xs, L2.atI xs (r % m) = some c := by
  have h1 := Int.emod_nonneg r (show m ≠ 0 by omega)
  have h2 := Int.emod_lt_of_pos r h
  have e : r % m = (((r % m).toNat : Nat) : Int) := by omega
  rw [e, atI_nat]
  have h3 : (r % m).toNat < xs.length := by omega
  exact ⟨xs[(r % m).toNat], List.getElem_mem _, List.getElem?_eq_getElem h3⟩
theorem compL_filter {α : Type} {w : List (Nat × List PV)} {tg : Tg} {c el : Fr → Store → Res PV} {env : Fr} {st : Store} (hw : keeps w st = true) (f : α → PV) (p : α → Bool) (g : α → PV) : ∀ (xs : List α) (acc : List PV),
    (∀ x ∈ xs, ∃ env', bindTg tg (f x) env = some env' ∧ c env' st = .ok (.bl (p x)) st ∧ el env' st = .ok (g x) st) → acc.length + xs.length ≤ SL → compL w tg c el env (xs.map f) acc st = .ok (.ref st.length) (st ++ [.lst (acc ++ (xs.filter p).map g)])
  | [], acc, _, _ => by
    unfold compL
    simp [hw, new]
  | x :: r, acc, h, hl => by
    obtain ⟨env', h1, h2, h3⟩ := h x List.mem_cons_self
    simp only [List.length_cons] at hl
    have ih := fun acc' (z : acc'.length + r.length ≤ SL) => compL_filter (tg := tg) (c := c) (el := el) (env := env) hw f p g r acc' (fun y hy => h y (List.mem_cons_of_mem _ hy)) z
    rw [List.map_cons]
    unfold compL
    rw [if_pos hw, h1]
    simp only [h2]
    cases hp : p x with
    | true =>
      simp only [h3, if_pos (show acc.length < SL by omega)]
      rw [ih (acc ++ [g x]) (by simp; omega)]
      simp [hp]
    | false =>
      simp only
      rw [ih acc (by omega)]
      simp [hp]
theorem bld {ι : Type} {b : ι → Fr → Store → Res (Fl × Fr)} {i : Nat} (E : ι → W → Int → Option PV → Fr) (P : Nat → Prop) (hset : ∀ q w r o k, (E q w r o).set i (some k) = E q w r (some k))
    (hb : ∀ w r (k : Int), w.length + 1 ≤ SL → ∃ c r', P c ∧ ∀ q st, b q (E q w r (some (.int k))) st = .ok (.nx, E q (w ++ [c]) r' (some (.int k))) st) :
    ∀ (xs : List Int) (w : W) (r : Int) (o : Option PV), w.length + xs.length ≤ SL → ∃ (t : W) (r' : Int) (o' : Option PV), t.length = xs.length ∧ (∀ c ∈ t, P c) ∧ ∀ q st, forL [] (.one i) (b q) (xs.map .int) (E q w r o) st = .ok (.nx, E q (w ++ t) r' o') st
  | [], w, r, o, _ => ⟨[], r, o, rfl, fun _ h => (nomatch h), fun q st => by simp [forL_nil]⟩
  | k :: xs, w, r, o, hl => by
    simp only [List.length_cons] at hl
    obtain ⟨c, r1, hc, h1⟩ := hb w r k (by omega)
    obtain ⟨t, r2, o2, h2, h3, h4⟩ := bld E P hset hb xs (w ++ [c]) r1 (some (.int k)) (by simp; omega)
    refine ⟨c :: t, r2, o2, by simp [h2], fun d hd => ?_, fun q st => ?_⟩
    · rcases List.mem_cons.mp hd with rfl | z
      · exact hc
      · exact h3 d z
    · rw [List.map_cons, forL_cons, if_pos keeps_nil]
      simp only [bindTg_one, hset]
      rw [h1 q st]
      simp only [Res.bind_ok, lpn_nx]
      rw [h4 q st]
      simp
theorem rng_ints (lo c : Int) (m : Nat) : ∃ ks : List Int, rngI lo c m = ks.map .int ∧ ks.length = m := ⟨(List.range m).map fun (i : Nat) => lo + (i : Int) * c, by simp [rngI], by simp⟩
theorem in62_of {i : Int} (h : 0 ≤ i) (h2 : i ≤ 4611686018427387903) : in62 i = true := by
  unfold in62
  exact decide_eq_true (by omega)
def signs91 : List Nat := [33, 34, 35, 36, 38, 39, 42, 43, 44, 45, 46, 47, 48, 49, 50, 51, 52, 53, 54, 55, 56, 57, 58, 59, 60, 61, 62, 63, 64, 65, 66, 67, 68, 69, 70, 71, 72, 73, 74, 75, 76, 77, 78, 79, 80, 81, 82, 83, 84, 85, 86, 87, 88, 89, 90, 91, 92, 93, 94, 95, 96] ++ [97, 98, 99, 100, 101, 102, 103, 104, 105, 106, 107, 108, 109, 110, 111, 112, 113, 114, 115, 116, 117, 118, 119, 120, 121, 122, 123, 124, 125, 126]
theorem law_signs (L : Lw ft) : callF ft gl wf (n + 1) 2079 [] st = .ok (.str signs91) st := by
  rw [callF_def L.signs rfl]
  simp [GQ.fn__law_signs, SL_eq, signs91]
def taken (w : W) : Bool := decide (w ∈ notOdd) || ((w.all fun c => decide (c ∈ figures)) && (decide (w.length ≤ 18) && (decide (w = [48]) || !decide (w.head? = some 48)))) || ((w.all fun c => decide (c ∈ letters)) && (decide (w.length ≤ 8) && !decide (w ∈ [[105, 110], [116, 104, 101, 110], [101, 108, 115, 101]])))
theorem beq_dec (a b : W) : (a == b) = decide (a = b) := by
  rw [Bool.eq_iff_iff]
  simp
theorem all_filter (w : W) (p : Nat → Bool) : (((w.filter p).length : Int) == (w.length : Int)) = w.all p := by
  rw [Bool.eq_iff_iff, beq_iff_eq, List.all_eq_true]
  constructor
  · intro h
    exact List.length_filter_eq_length_iff.mp (by omega)
  · intro h
    rw [List.length_filter_eq_length_iff.mpr h]
def Ends {α : Type} (r : Res α) (v : α) (st : Store) : Prop := ∃ g, r = .ok v (st ++ g)
theorem Ends.of {α : Type} {st st' : Store} {v : α} (h : st <+: st') : Ends (.ok v st') v st := by
  obtain ⟨g, rfl⟩ := h
  exact ⟨g, rfl⟩
theorem Ends.app {α : Type} {r : Res α} {v : α} {st g : Store} (h : Ends r v (st ++ g)) : Ends r v st := by
  obtain ⟨g', e⟩ := h
  exact ⟨g ++ g', by rw [e, List.append_assoc]⟩
theorem filt (cx : Ck) (w : W) (z : List Nat) (o1 o2 : Option PV) (hl : w.length ≤ 100) : ∃ (m : Int) (x : Cell), (∀ s, ev cx (.bi .len (.cons (.compIf [3] (.one 3) (.seq (.var 0)) (.cmp .inn (.var 3) (.str z)) (.var 3)) .nil)) [some (.str w), o1, o2, none] s = .ok (.int m) (s ++ [x])) ∧ (m == w.length) = w.all fun c => decide (c ∈ z) := by
  refine ⟨(w.filter fun c => decide (c ∈ z)).length, .lst ((w.filter fun c => decide (c ∈ z)).map fun c => .str [c]), fun s => ?_, all_filter w _⟩
  have e := compL_filter (st := s) (w := []) (tg := .one 3) (c := ev cx (.cmp .inn (.var 3) (.str z))) (el := ev cx (.var 3)) (env := [some (.str w), o1, o2, none]) keeps_nil (fun c => PV.str [c]) (fun c => decide (c ∈ z)) (fun c => .str [c]) w [] (fun c _ => ⟨_, rfl, by simp [inF_chr], by simp⟩) (by rw [SL_eq]; simp; omega)
  simp only [List.nil_append] at e
  have e2 : wipeE [some (.str w), o1, o2, none] [3] = [some (.str w), o1, o2, none] := rfl
  simp only [qev_bi, qevs_cons, qevs_nil, qev_compIf, qevI_seq, qev_var, List.getElem?_cons_zero, getV_ok, Res.bind_ok, walkG_str, e2, e]
  rw [bi_lenR at_end]
  simp
theorem law_taken (L : Lw ft) (w : W) (hw : w ≠ []) (hl : w.length ≤ 100) : Ends (callF ft gl wf (n + 1) 2088 [.str w] st) (.bl (taken w)) st := by
  obtain ⟨c, r, rfl⟩ : ∃ c r, w = c :: r := by
    cases w with
    | nil => exact absurd rfl hw
    | cons c r => exact ⟨c, r, rfl⟩
  have hs : r.length + 1 ≤ SL := by rw [SL_eq]; simp at hl; omega
  rw [callF_def L.taken rfl]
  have i1 : ∀ s : Store, inF (.str (c :: r)) (.ref s.length) (s ++ [.lst [.str [108, 101, 116], .str [105, 102], .str [102, 110], .str [114, 101, 99], .str [121, 101, 115], .str [110, 111], .str [63], .str [43], .str [45], .str [60]]]) = some (decide (c :: r ∈ notOdd)) := fun s => inF_items (xs := notOdd) (items_ref at_end)
  have i2 : ∀ s : Store, inF (.str (c :: r)) (.ref s.length) (s ++ [.lst [.str [105, 110], .str [116, 104, 101, 110], .str [101, 108, 115, 101]]]) = some (decide (c :: r ∈ [[105, 110], [116, 104, 101, 110], [101, 108, 115, 101]])) := fun s => inF_items (xs := [[105, 110], [116, 104, 101, 110], [101, 108, 115, 101]]) (items_ref at_end)
  obtain ⟨m1, x1, f1, a1⟩ := filt (ckx ft gl wf n) (c :: r) figures none none hl
  obtain ⟨m2, x2, f2, a2⟩ := filt (ckx ft gl wf n) (c :: r) letters (some (.int m1)) none hl
  have f0 : ∀ (a b d : Option PV) (s : Store), ev (ckx ft gl wf n) (.bi .len (.cons (.var 0) .nil)) [some (.str (c :: r)), a, b, d] s = .ok (.int (r.length + 1)) s := fun a b d s => by simp [hs]
  simp only [figures] at f1
  simp only [letters] at f2
  have e5 : ∀ s : Store, eqF (.str (c :: r)) (.str [48]) s = some (decide (c :: r = [48])) := fun s => by
    show some (c :: r == [48]) = _
    rw [beq_dec]
  have e6 : ∀ s : Store, eqF (.str [c]) (.str [48]) s = some (decide (c = 48)) := fun s => by
    show some ([c] == [48]) = _
    rw [beq_dec]
    exact congrArg some (decide_eq_decide.mpr (by simp))
  have e7 : decide ((c :: r).head? = some 48) = decide (c = 48) := by simp
  unfold taken
  rw [e7]
  generalize decide (c :: r ∈ notOdd) = q1 at i1 ⊢
  generalize decide (c :: r ∈ [[105, 110], [116, 104, 101, 110], [101, 108, 115, 101]]) = q2 at i2 ⊢
  generalize ((c :: r).all fun c => decide (c ∈ figures)) = q3 at a1 ⊢
  generalize ((c :: r).all fun c => decide (c ∈ letters)) = q4 at a2 ⊢
  generalize decide (c :: r = [48]) = q5 at e5 ⊢
  generalize decide (c = 48) = q6 at e6 ⊢
  have b1 : (18 < (r.length : Int) + 1) = ¬ (r.length + 1 ≤ 18) := propext (by omega)
  have b2 : (8 < (r.length : Int) + 1) = ¬ (r.length + 1 ≤ 8) := propext (by omega)
  have a1' : (m1 == (r.length : Int) + 1) = q3 := a1
  have a2' : (m2 == (r.length : Int) + 1) = q4 := a2
  cases q1 with
  | true =>
    simp [-List.append_assoc, -List.length_append, GQ.fn__law_taken_v1, i1]
    exact Ends.of (by simp)
  | false =>
    cases q3 <;> cases q4 <;> cases q2 <;> cases q5 <;> cases q6 <;> by_cases h1 : r.length + 1 ≤ 18 <;> by_cases h2 : r.length + 1 ≤ 8
    all_goals
      simp [-List.append_assoc, -List.length_append, -eqF_str, -qev_bi, GQ.fn__law_taken_v1, i1, f1, f0, f2, i2, a1', a2', h1, h2, b1, b2, hs, e5, e6]
      exact Ends.of (by simp [List.append_assoc])
end
end SA
end
set_option maxRecDepth 100000
set_option maxHeartbeats 2000000
/-! SB: the laws' names, odd texts, numbers, leaves. -/
noncomputable section
namespace SA
open GI PySem RA
section
variable {ft : Nat → Option Fn} {gl : Nat → Option PV} {wf n : Nat} {st : Store}
theorem idx_end {s : Store} {xs : List PV} {i : Int} {v : PV} (h : L2.atI xs i = some v) : idxF (.ref s.length) (.int i) (s ++ [.lst xs]) = .ok v (s ++ [.lst xs]) := by
  rw [idxR at_end, h]
  rfl
@[simp] theorem ixe0 {s : Store} {a : PV} {r : List PV} : idxF (.ref s.length) (.int 0) (s ++ [.lst (a :: r)]) = .ok a (s ++ [.lst (a :: r)]) := idx_end (by rw [show (0 : Int) = ((0 : Nat) : Int) from rfl, atI_nat]; rfl)
@[simp] theorem ixe1 {s : Store} {a b : PV} {r : List PV} : idxF (.ref s.length) (.int 1) (s ++ [.lst (a :: b :: r)]) = .ok b (s ++ [.lst (a :: b :: r)]) := idx_end (by rw [show (1 : Int) = ((1 : Nat) : Int) from rfl, atI_nat]; rfl)
@[simp] theorem ixe2 {s : Store} {a b c : PV} {r : List PV} : idxF (.ref s.length) (.int 2) (s ++ [.lst (a :: b :: c :: r)]) = .ok c (s ++ [.lst (a :: b :: c :: r)]) := idx_end (by rw [show (2 : Int) = ((2 : Nat) : Int) from rfl, atI_nat]; rfl)
@[simp] theorem ixe3 {s : Store} {a b c d : PV} {r : List PV} : idxF (.ref s.length) (.int 3) (s ++ [.lst (a :: b :: c :: d :: r)]) = .ok d (s ++ [.lst (a :: b :: c :: d :: r)]) := idx_end (by rw [show (3 : Int) = ((3 : Nat) : Int) from rfl, atI_nat]; rfl)
theorem idx_mod {s : Store} {xs : List W} {r m : Int} (hm : m = xs.length) (h : 0 < m) : ∃ c ∈ xs, ∀ s : Store, idxF (.ref s.length) (.int (r % m)) (s ++ [.lst (xs.map .str)]) = .ok (.str c) (s ++ [.lst (xs.map .str)]) := by
  obtain ⟨c, h1, h2⟩ := at_mod (xs.map PV.str) r m (by simpa using hm) h
  obtain ⟨w, hw, rfl⟩ := List.mem_map.mp h1
  exact ⟨w, hw, fun s => idx_end h2⟩
theorem idxS_mod {z : List Nat} {r m : Int} (hm : m = z.length) (h : 0 < m) (hz : z.length ≤ SL) : ∃ c ∈ z, ∀ s : Store, idxF (.str z) (.int (r % m)) s = .ok (.str [c]) s := by
  obtain ⟨c, h1, h2⟩ := at_mod z r m hm h
  exact ⟨c, h1, fun s => by rw [idxS, if_pos hz, h2]; rfl⟩
theorem no_len : ∀ x ∈ noNames, x.length ≤ 4 := by decide
theorem odd_len : ∀ x ∈ notOdd, x.length ≤ 3 := by decide
theorem law_name (L : Lw ft) (v : Int) : ∃ w : W, isName w = true ∧ ∀ n st, Ends (callF ft gl wf (n + 1) 2056 [.int v] st) (.str w) st := by
  have h8 := Int.emod_nonneg v (show (8 : Int) ≠ 0 by omega)
  have h8' := Int.emod_lt_of_pos v (show (0 : Int) < 8 by omega)
  obtain ⟨ks, e1, e2⟩ := rng_ints 0 1 (1 + v % 8).toNat
  obtain ⟨t, r', o', a1, a2, a3⟩ := bld (b := fun n => xSs (ckx ft gl wf n) GQ.b__law_name_v10) (i := 3) (fun _ w r o => [some (.int v), some (.str w), some (.int r), o]) (fun c => c ∈ letters) (fun _ _ _ _ _ => rfl) (fun w r k hw => by
    obtain ⟨c, hc, hx⟩ := idxS_mod (z := letters) (r := r) (m := 27) rfl (by decide) (by rw [SL_eq]; decide)
    simp only [letters] at hx
    exact ⟨c, r / 27, hc, fun n st => by simp [GQ.b__law_name_v10, hx, hw]⟩) ks [] (v / 8) none (by rw [SL_eq]; simp; omega)
  rw [← e1] at a3
  simp only [List.nil_append] at a3
  have lt : 1 ≤ t.length ∧ t.length ≤ 8 := by rw [a1, e2]; omega
  have hin : in62 (1 + v % 8) = true := in62_of (by omega) (by omega)
  have i1 : ∀ s : Store, inF (.str t) (.ref s.length) (s ++ [.lst [.str [108, 101, 116], .str [105, 110], .str [105, 102], .str [116, 104, 101, 110], .str [101, 108, 115, 101], .str [102, 110], .str [114, 101, 99], .str [121, 101, 115], .str [110, 111]]]) = some (decide (t ∈ noNames)) := fun s => inF_items (xs := noNames) (items_ref at_end)
  have ok : ∀ w : W, 1 ≤ w.length → w.length ≤ 8 → w ∉ noNames → (∀ c ∈ w, c ∈ letters) → isName w = true := fun w z1 z2 z3 z4 => by
    unfold isName
    simp only [Bool.and_eq_true, decide_eq_true_eq, List.all_eq_true, Bool.not_eq_true', decide_eq_false_iff_not]
    exact ⟨z1, z2, z3, z4⟩
  have hs : t.length + 1 ≤ SL := by rw [SL_eq]; omega
  by_cases h1 : t ∈ noNames
  · refine ⟨t ++ [95], ok _ (by simp) (by have := no_len t h1; simp; omega) (fun z => ?_) (fun c hc => ?_), fun n st => ?_⟩
    · have : ∀ x ∈ noNames, x.getLast? ≠ some 95 := by decide
      exact this _ z (by simp)
    · rcases List.mem_append.mp hc with z | z
      · exact a2 c z
      · rw [List.mem_singleton] at z
        subst z
        decide
    · rw [callF_def L.name rfl]
      have a3 := a3 n
      simp [-List.append_assoc, -List.length_append, GQ.fn__law_name_v1, rng1G, hin, a3, i1, h1, hs]
      exact Ends.of (by simp)
  · refine ⟨t, ok _ lt.1 lt.2 h1 a2, fun n st => ?_⟩
    rw [callF_def L.name rfl]
    have a3 := a3 n
    simp [-List.append_assoc, -List.length_append, GQ.fn__law_name_v1, rng1G, hin, a3, i1, h1]
    exact Ends.of (by simp)
theorem odd_of {w : W} (h1 : 1 ≤ w.length) (h2 : w.length ≤ 60) (h3 : isName w = false) (h4 : w ∉ notOdd) (h5 : isNumber w = false) (h6 : ∀ c ∈ w, okSign c = true) : isOdd w = true := by
  unfold isOdd
  simp only [Bool.and_eq_true, decide_eq_true_eq, List.all_eq_true, Bool.not_eq_true', decide_eq_false_iff_not]
  exact ⟨h1, h2, h3, h4, h5, h6⟩
theorem name_true {w : W} (h : isName w = true) : 1 ≤ w.length ∧ w.length ≤ 8 ∧ w ∉ noNames ∧ ∀ c ∈ w, c ∈ letters := by
  unfold isName at h
  simpa only [Bool.and_eq_true, decide_eq_true_eq, List.all_eq_true, Bool.not_eq_true', decide_eq_false_iff_not] using h
theorem number_true {w : W} (h : isNumber w = true) : 1 ≤ w.length ∧ w.length ≤ 18 ∧ ¬ (w.head? = some 48 ∧ 1 < w.length) ∧ ∀ c ∈ w, c ∈ figures := by
  unfold isNumber at h
  simp only [Bool.and_eq_true, decide_eq_true_eq, List.all_eq_true, Bool.not_eq_true', ← Bool.decide_and, decide_eq_false_iff_not] at h
  exact h
theorem bool_false {b : Bool} (h : b ≠ true) : b = false := by cases b <;> simp_all
def upper : List Nat := [65, 66, 67, 68, 69, 70, 71, 72, 73, 74, 75, 76, 77, 78, 79, 80, 81, 82, 83, 84, 85, 86, 87, 88, 89, 90]
theorem ok_figures : ∀ c ∈ figures, okSign c = true := by decide
theorem ok_letters : ∀ c ∈ letters, okSign c = true := by decide
theorem ok_upper : ∀ c ∈ upper, okSign c = true := by decide
theorem ok_signs : ∀ c ∈ signs91, okSign c = true := by decide
theorem fig_let : ∀ c ∈ figures, c ∉ letters := by decide
theorem up_let : ∀ c ∈ upper, c ∉ letters ∧ c ∉ figures ∧ ∀ x ∈ notOdd, x.head? ≠ some c := by decide
theorem law_long (L : Lw ft) (v : Int) : ∃ w : W, isOdd w = true ∧ ∀ n st, Ends (callF ft gl wf (n + 1) 2049 [.int v] st) (.str w) st := by
  have h4 := Int.emod_nonneg v (show (4 : Int) ≠ 0 by omega)
  have h4' := Int.emod_lt_of_pos v (show (0 : Int) < 4 by omega)
  have h41 := Int.emod_nonneg (v / 4) (show (41 : Int) ≠ 0 by omega)
  have h41' := Int.emod_lt_of_pos (v / 4) (show (0 : Int) < 41 by omega)
  have h19 := Int.emod_nonneg (v / 4) (show (19 : Int) ≠ 0 by omega)
  have h19' := Int.emod_lt_of_pos (v / 4) (show (0 : Int) < 19 by omega)
  have loop : ∀ (z w0 : List Nat) (size : Int), 0 < z.length → z.length ≤ 100 → w0.length ≤ 10 → 0 ≤ size → size ≤ 1000 → ∃ (t : W) (r' : Int) (o' : Option PV), t.length = size.toNat ∧ (∀ c ∈ t, c ∈ z) ∧ ∀ (n : Nat) st, forL [] (.one 5) (xSs (ckx ft gl wf n) GQ.b__law_long0) (rngI 0 1 size.toNat) [some (.int v), some (.int size), some (.str z), some (.str w0), some (.int (v / 700)), none] st = .ok (.nx, [some (.int v), some (.int size), some (.str z), some (.str (w0 ++ t)), some (.int r'), o']) st := by
    intro z w0 size z0 z1 z2 z3 z4
    obtain ⟨ks, e1, e2⟩ := rng_ints 0 1 size.toNat
    obtain ⟨t, r', o', a1, a2, a3⟩ := bld (b := fun n => xSs (ckx ft gl wf n) GQ.b__law_long0) (i := 5) (fun _ w r o => [some (.int v), some (.int size), some (.str z), some (.str w), some (.int r), o]) (fun c => c ∈ z) (fun _ _ _ _ _ => rfl) (fun w r k hw => by
      obtain ⟨c, hc, hx⟩ := idxS_mod (z := z) (r := r) (m := z.length) rfl (by omega) (by rw [SL_eq]; omega)
      have hz : z.length ≤ SL := by rw [SL_eq]; omega
      have hz0 : (0 : Int) < z.length := by omega
      have hz1 : (z.length : Int) < 1073741824 := by omega
      exact ⟨c, r / z.length + 7919 * k, hc, fun n st => by simp [GQ.b__law_long0, hx, hw, hz, hz1, show 0 < z.length from z0]⟩) ks w0 (v / 700) none (by rw [SL_eq, e2]; omega)
    rw [← e1] at a3
    exact ⟨t, r', o', by rw [a1, e2], a2, a3⟩
  have c4 : v % 4 = 0 ∨ v % 4 = 1 ∨ v % 4 = 2 ∨ v % 4 = 3 := by omega
  rcases c4 with h | h | h | h
  · obtain ⟨t, r', o', a1, a2, a3⟩ := loop figures [] (19 + v / 4 % 41) (by decide) (by decide) (by decide) (by omega) (by omega)
    have lt : t.length ≥ 19 ∧ t.length ≤ 59 := by omega
    refine ⟨t, odd_of (by omega) (by omega) (bool_false fun z => ?_) (fun z => ?_) (bool_false fun z => ?_) fun c hc => ok_figures c (a2 c hc), fun n st => ?_⟩
    · have := (name_true z).2.1; omega
    · have := odd_len _ z; omega
    · have := (number_true z).2.1; omega
    · rw [callF_def L.long rfl]
      have a3 := fun s => a3 n s
      simp only [figures, List.nil_append] at a3
      have hin : in62 (19 + v / 4 % 41) = true := in62_of (by omega) (by omega)
      have i0 : v / 2 % 2 = 0 := by omega
      simp [-List.append_assoc, -List.length_append, GQ.fn__law_long, h, i0, rng1G, hin, a3]
      exact Ends.of (by simp [List.append_assoc])
  · obtain ⟨t, r', o', a1, a2, a3⟩ := loop figures [48] (1 + v / 4 % 19) (by decide) (by decide) (by decide) (by omega) (by omega)
    have lt : t.length ≥ 1 ∧ t.length ≤ 19 := by omega
    refine ⟨[48] ++ t, odd_of (by simp) (by simp; omega) (bool_false fun z => ?_) (fun z => ?_) (bool_false fun z => ?_) (fun c hc => ?_), fun n st => ?_⟩
    · exact absurd ((name_true z).2.2.2 48 (by simp)) (by decide)
    · have : ∀ x ∈ notOdd, x.head? ≠ some 48 := by decide
      exact this _ z rfl
    · exact (number_true z).2.2.1 ⟨rfl, by simp; omega⟩
    · rcases List.mem_append.mp hc with z | z
      · rw [List.mem_singleton] at z
        subst z
        decide
      · exact ok_figures c (a2 c z)
    · rw [callF_def L.long rfl]
      have a3 := fun s => a3 n s
      simp only [figures] at a3
      have hin : in62 (1 + v / 4 % 19) = true := in62_of (by omega) (by omega)
      simp [-List.append_assoc, -List.length_append, GQ.fn__law_long, h, rng1G, hin, a3]
      exact Ends.of (by simp [List.append_assoc])
  · obtain ⟨t, r', o', a1, a2, a3⟩ := loop letters [] (9 + v / 4 % 41) (by decide) (by decide) (by decide) (by omega) (by omega)
    have lt : t.length ≥ 9 ∧ t.length ≤ 49 := by omega
    refine ⟨t, odd_of (by omega) (by omega) (bool_false fun z => ?_) (fun z => ?_) (bool_false fun z => ?_) fun c hc => ok_letters c (a2 c hc), fun n st => ?_⟩
    · have := (name_true z).2.1; omega
    · have := odd_len _ z; omega
    · obtain ⟨c, hc⟩ := List.exists_mem_of_ne_nil t (by intro z; rw [z] at lt; simp at lt)
      exact fig_let c ((number_true z).2.2.2 c hc) (a2 c hc)
    · rw [callF_def L.long rfl]
      have a3 := fun s => a3 n s
      simp only [letters, List.nil_append] at a3
      have hin : in62 (9 + v / 4 % 41) = true := in62_of (by omega) (by omega)
      have i0 : v / 2 % 2 = 1 := by omega
      simp [-List.append_assoc, -List.length_append, GQ.fn__law_long, h, i0, rng1G, hin, a3]
      exact Ends.of (by simp [List.append_assoc])
  · obtain ⟨t, r', o', a1, a2, a3⟩ := loop upper [] (1 + v / 4 % 19) (by decide) (by decide) (by decide) (by omega) (by omega)
    have lt : t.length ≥ 1 ∧ t.length ≤ 19 := by omega
    obtain ⟨c0, t0, e0⟩ : ∃ c r, t = c :: r := by
      cases t with
      | nil => simp at lt
      | cons c r => exact ⟨c, r, rfl⟩
    have u0 := up_let c0 (a2 c0 (by rw [e0]; simp))
    refine ⟨t, odd_of (by omega) (by omega) (bool_false fun z => ?_) (fun z => ?_) (bool_false fun z => ?_) fun c hc => ok_upper c (a2 c hc), fun n st => ?_⟩
    · exact u0.1 ((name_true z).2.2.2 c0 (by rw [e0]; simp))
    · exact u0.2.2 _ z (by rw [e0]; rfl)
    · exact u0.2.1 ((number_true z).2.2.2 c0 (by rw [e0]; simp))
    · rw [callF_def L.long rfl]
      have a3 := fun s => a3 n s
      simp only [upper, List.nil_append] at a3
      have hin : in62 (1 + v / 4 % 19) = true := in62_of (by omega) (by omega)
      simp [-List.append_assoc, -List.length_append, GQ.fn__law_long, h, rng1G, hin, a3]
      exact Ends.of (by simp [List.append_assoc])
theorem bin_addR {k l : Nat} {x y : List PV} (h : st[k]? = some (.lst x)) (h2 : st[l]? = some (.lst y)) : binF .add (.ref k) (.ref l) st = if x.length + y.length ≤ SL then .ok (.ref st.length) (st ++ [.lst (x ++ y)]) else .bad := by
  simp [binF, h, h2, new]
theorem bin_addE (s : Store) (a b : List PV) : binF .add (.ref s.length) (.ref (s ++ [Cell.lst a]).length) (s ++ [Cell.lst a] ++ [Cell.lst b]) = if a.length + b.length ≤ SL then .ok (.ref (s ++ [Cell.lst a] ++ [Cell.lst b]).length) (s ++ [Cell.lst a] ++ [Cell.lst b] ++ [Cell.lst (a ++ b)]) else .bad := bin_addR (by rw [List.append_assoc]; simp) at_end
def odds15 : List W := [[116, 104, 101, 110], [101, 108, 115, 101], [105, 110], [61], [61, 62], [48, 48, 55], [49, 50, 51, 52, 53, 54, 55, 56, 57, 48, 49, 50, 51, 52, 53, 54, 55, 56, 57], [60, 61], [110, 105, 110, 101, 115, 105, 103, 110, 115]] ++ [[120, 49], [76, 101, 116], [63, 63], [45, 45], [48, 48], [97, 61, 98]]
theorem odds15_ok : ∀ w ∈ odds15, isOdd w = true := by decide +kernel
theorem taken_of {w : W} (h : taken w = true) : w.length ≤ 18 := by
  unfold taken at h
  simp only [Bool.or_eq_true, Bool.and_eq_true, decide_eq_true_eq] at h
  rcases h with (h | h) | h
  · have := odd_len _ h; omega
  · exact h.2.1
  · omega
theorem taken_not {w : W} (h : taken w = false) : w ∉ notOdd ∧ isNumber w = false ∧ isName w = false := by
  unfold taken at h
  simp only [Bool.or_eq_false_iff] at h
  obtain ⟨⟨h1, h2⟩, h3⟩ := h
  refine ⟨by simpa using h1, bool_false fun z => ?_, bool_false fun z => ?_⟩
  · obtain ⟨a, b, c, d⟩ := number_true z
    have e1 : (w.all fun c => decide (c ∈ figures)) = true := by simpa using d
    rw [e1, decide_eq_true b] at h2
    simp only [Bool.true_and, Bool.or_eq_false_iff, decide_eq_false_iff_not, Bool.not_eq_false', decide_eq_true_eq] at h2
    refine c ⟨h2.2, ?_⟩
    rcases w with _ | ⟨x, _ | ⟨y, r⟩⟩
    · simp at a
    · have := h2.2
      simp at this
      exact absurd (by rw [this]) h2.1
    · simp
  · obtain ⟨a, b, c, d⟩ := name_true z
    have e1 : (w.all fun c => decide (c ∈ letters)) = true := by simpa using d
    rw [e1, decide_eq_true b] at h3
    simp only [Bool.true_and, Bool.not_eq_false', decide_eq_true_eq] at h3
    have : ∀ x ∈ ([[105, 110], [116, 104, 101, 110], [101, 108, 115, 101]] : List W), x ∈ noNames := by decide
    exact c (this _ h3)
theorem law_odd (L : Lw ft) (v : Int) : ∃ w : W, isOdd w = true ∧ ∀ n st, Ends (callF ft gl wf (n + 2) 2064 [.int v] st) (.str w) st := by
  have h3 := Int.emod_nonneg v (show (3 : Int) ≠ 0 by omega)
  have h3' := Int.emod_lt_of_pos v (show (0 : Int) < 3 by omega)
  by_cases h0 : v % 3 = 0
  · obtain ⟨w, hw, hx⟩ := idx_mod (s := []) (xs := odds15) (r := v / 3) (m := 15) rfl (by decide)
    refine ⟨w, odds15_ok w hw, fun n st => ?_⟩
    rw [callF_def L.odd rfl]
    simp only [odds15, List.map_cons, List.map_nil, List.cons_append, List.nil_append] at hx
    simp [-List.append_assoc, -List.length_append, GQ.fn__law_odd_v1, h0, bin_addE, SL_eq]
    rw [hx]
    exact Ends.of (by simp [List.append_assoc])
  · by_cases h9 : v % 9 = 1
    · obtain ⟨w, hw, hx⟩ := law_long (ft := ft) (gl := gl) (wf := wf) L (v / 3 / 3)
      refine ⟨w, hw, fun n st => ?_⟩
      rw [callF_def L.odd rfl]
      simp [-List.append_assoc, -List.length_append, GQ.fn__law_odd_v1, h0, h9, bin_addE, SL_eq]
      obtain ⟨g, e⟩ := hx n (st ++ [Cell.lst [PV.str [116, 104, 101, 110], PV.str [101, 108, 115, 101], PV.str [105, 110], PV.str [61], PV.str [61, 62], PV.str [48, 48, 55], PV.str [49, 50, 51, 52, 53, 54, 55, 56, 57, 48, 49, 50, 51, 52, 53, 54, 55, 56, 57], PV.str [60, 61], PV.str [110, 105, 110, 101, 115, 105, 103, 110, 115]]] ++ [Cell.lst [PV.str [120, 49], PV.str [76, 101, 116], PV.str [63, 63], PV.str [45, 45], PV.str [48, 48], PV.str [97, 61, 98]]] ++ [Cell.lst (odds15.map .str)])
      simp only [odds15, List.map_cons, List.map_nil, List.cons_append, List.nil_append] at e
      rw [e]
      exact Ends.of (by simp [List.append_assoc])
    · have k5 := Int.emod_nonneg (v / 3) (show (5 : Int) ≠ 0 by omega)
      have k5' := Int.emod_lt_of_pos (v / 3) (show (0 : Int) < 5 by omega)
      have k60 := Int.emod_nonneg (v / 3 / 30) (show (60 : Int) ≠ 0 by omega)
      have k60' := Int.emod_lt_of_pos (v / 3 / 30) (show (0 : Int) < 60 by omega)
      have main : ∀ size : Int, 1 ≤ size → size ≤ 60 → ∃ w : W, isOdd w = true ∧ ∀ n (k : Nat) st, Ends (fin (xSs (ckx ft gl wf (n + 1)) (.cons (.forr (.one 5) (.rng1 (.var 3)) GQ.b__law_odd_v10) (.cons (.ife (.call 2088 (.cons (.var 4) .nil)) (.cons (.asg 4 (.bin .add (.var 4) (.str [33]))) .nil) .nil) (.cons (.ret (.var 4)) .nil))) [some (.int v), some (.ref k), some (.int (v / 3 / 1800)), some (.int size), some (.str []), none] st)) (.str w) st := by
        intro size z1 z2
        obtain ⟨ks, e1, e2⟩ := rng_ints 0 1 size.toNat
        obtain ⟨t, r', o', a1, a2, a3⟩ := bld (b := fun (q : Nat × Nat) => xSs (ckx ft gl wf (q.1 + 1)) GQ.b__law_odd_v10) (i := 5) (E := fun q w r o => [some (.int v), some (.ref q.2), some (.int r), some (.int size), some (.str w), o]) (fun c => c ∈ signs91) (fun _ _ _ _ _ => rfl) (fun w r k hw => by
          obtain ⟨c, hc, hx⟩ := idxS_mod (z := signs91) (r := r) (m := 91) rfl (by decide) (by rw [SL_eq]; decide)
          exact ⟨c, r / 91 + 7919 * k, hc, fun q st => by simp [GQ.b__law_odd_v10, law_signs L, hx, hw]⟩) ks [] (v / 3 / 1800) none (by rw [SL_eq, e2]; simp; omega)
        rw [← e1] at a3
        simp only [List.nil_append] at a3
        have lt : 1 ≤ t.length ∧ t.length ≤ 60 := by rw [a1, e2]; omega
        have hin : in62 size = true := in62_of (by omega) (by omega)
        have hs : t.length + 1 ≤ SL := by rw [SL_eq]; omega
        have hne : t ≠ [] := by intro z; rw [z] at lt; simp at lt
        cases ht : taken t with
        | true =>
          have l18 := taken_of ht
          refine ⟨t ++ [33], odd_of (by simp) (by simp; omega) (bool_false fun z => ?_) (fun z => ?_) (bool_false fun z => ?_) (fun c hc => ?_), fun n k st => ?_⟩
          · exact absurd ((name_true z).2.2.2 33 (by simp)) (by decide)
          · have : ∀ x ∈ notOdd, x.getLast? ≠ some 33 := by decide
            exact this _ z (by simp)
          · exact absurd ((number_true z).2.2.2 33 (by simp)) (by decide)
          · rcases List.mem_append.mp hc with z | z
            · exact ok_signs c (a2 c z)
            · rw [List.mem_singleton] at z
              subst z
              decide
          · obtain ⟨g, e⟩ := law_taken (ft := ft) (gl := gl) (wf := wf) (n := n) (st := st) L t hne (by omega)
            have a3 := a3 (n, k)
            simp [-List.append_assoc, -List.length_append, rng1G, hin, a3, e, ht, hs]
            exact Ends.of (by simp)
        | false =>
          obtain ⟨b1, b2, b3⟩ := taken_not ht
          refine ⟨t, odd_of lt.1 lt.2 b3 b1 b2 fun c hc => ok_signs c (a2 c hc), fun n k st => ?_⟩
          obtain ⟨g, e⟩ := law_taken (ft := ft) (gl := gl) (wf := wf) (n := n) (st := st) L t hne (by omega)
          have a3 := a3 (n, k)
          simp [-List.append_assoc, -List.length_append, rng1G, hin, a3, e, ht]
          exact Ends.of (by simp)
      have fin1 : ∀ size : Int, (if v / 3 / 5 % 6 = 0 then size = 1 + v / 3 / 30 % 60 else size = 1 + v / 3 % 5) → ∃ w : W, isOdd w = true ∧ ∀ n st, Ends (callF ft gl wf (n + 2) 2064 [.int v] st) (.str w) st := fun size hsz => by
        obtain ⟨w, hw, hx⟩ := main size (by split at hsz <;> omega) (by split at hsz <;> omega)
        refine ⟨w, hw, fun n st => ?_⟩
        rw [callF_def L.odd rfl]
        have hx := fun (q : Store) => hx n (st ++ [Cell.lst [PV.str [116, 104, 101, 110], PV.str [101, 108, 115, 101], PV.str [105, 110], PV.str [61], PV.str [61, 62], PV.str [48, 48, 55], PV.str [49, 50, 51, 52, 53, 54, 55, 56, 57, 48, 49, 50, 51, 52, 53, 54, 55, 56, 57], PV.str [60, 61], PV.str [110, 105, 110, 101, 115, 105, 103, 110, 115]]] ++ [Cell.lst [PV.str [120, 49], PV.str [76, 101, 116], PV.str [63, 63], PV.str [45, 45], PV.str [48, 48], PV.str [97, 61, 98]]]).length q
        by_cases h6 : v / 3 / 5 % 6 = 0
        · rw [if_pos h6] at hsz
          subst hsz
          simp [-List.append_assoc, -List.length_append, GQ.fn__law_odd_v1, h0, h9, h6, bin_addE, SL_eq] at hx ⊢
          exact Ends.app (Ends.app (Ends.app (hx _)))
        · rw [if_neg h6] at hsz
          subst hsz
          simp [-List.append_assoc, -List.length_append, GQ.fn__law_odd_v1, h0, h9, h6, bin_addE, SL_eq] at hx ⊢
          exact Ends.app (Ends.app (Ends.app (hx _)))
      by_cases h6 : v / 3 / 5 % 6 = 0
      · exact fin1 _ (by rw [if_pos h6])
      · exact fin1 _ (by rw [if_neg h6])
theorem law_number (L : Lw ft) (v : Int) : ∃ m : Nat, m < 10 ^ 18 ∧ ∀ n st, callF ft gl wf (n + 1) 2062 [.int v] st = .ok (.int (m : Nat)) st := by
  have h1 := Int.emod_nonneg (v / 4) (show (1000000000000000000 : Int) ≠ 0 by omega)
  have h1' := Int.emod_lt_of_pos (v / 4) (show (0 : Int) < 1000000000000000000 by omega)
  have h2 := Int.emod_nonneg (v / 4) (show (12 : Int) ≠ 0 by omega)
  have h2' := Int.emod_lt_of_pos (v / 4) (show (0 : Int) < 12 by omega)
  by_cases c0 : v % 4 = 0
  · refine ⟨(1000000000000000000 - 1 - v / 4 % 1000000000000000000).toNat, by omega, fun n st => ?_⟩
    rw [callF_def L.number rfl]
    simp [GQ.fn__law_number_v1, c0]
    omega
  · by_cases c1 : v % 4 = 1
    · refine ⟨(v / 4 % 1000000000000000000).toNat, by omega, fun n st => ?_⟩
      rw [callF_def L.number rfl]
      simp [GQ.fn__law_number_v1, c0, c1]
      omega
    · refine ⟨(v / 4 % 12).toNat, by omega, fun n st => ?_⟩
      rw [callF_def L.number rfl]
      simp [GQ.fn__law_number_v1, c0, c1]
      omega
end
end SA
end
set_option maxRecDepth 100000
set_option maxHeartbeats 2000000
/-! SC: leaves, cells, trees that are alike. -/
noncomputable section
namespace SA
open GI PySem RA
theorem numTxt_eq (m : Nat) : numTxt (m : Int) = TL.numL m := by
  show (Nat.repr m).toList.map Char.toNat = _
  rw [Nat.toList_repr]
  rfl
theorem numL_head : ∀ m : Nat, 0 < m → (TL.numL m).head? ≠ some 48 := by
  intro m
  induction m using Nat.strongRecOn with
  | _ m ih =>
    intro h
    by_cases h1 : m < 10
    · rw [TL.numL_lt h1]
      simp
      omega
    · rw [TL.numL_step (by omega)]
      have h2 := ih (m / 10) (by omega) (by omega)
      have h3 := TL.numL_ne (m / 10)
      cases h4 : TL.numL (m / 10) with
      | nil => exact absurd h4 h3
      | cons c r =>
        rw [h4] at h2
        simpa using h2
theorem number_numL {m : Nat} (h : m < 10 ^ 18) : isNumber (TL.numL m) = true := by
  unfold isNumber
  simp only [Bool.and_eq_true, decide_eq_true_eq, List.all_eq_true, Bool.not_eq_true', ← Bool.decide_and, decide_eq_false_iff_not]
  refine ⟨?_, TL.numL_len (by decide) h, fun z => ?_, fun c hc => ?_⟩
  · have := TL.numL_ne m
    exact List.length_pos_iff.mpr this
  · by_cases h1 : m < 10
    · have := z.2
      rw [TL.numL_lt h1] at this
      simp at this
    · exact numL_head m (by omega) z.1
  · have := TL.numL_digits m c hc
    simp only [figures, List.mem_cons, List.not_mem_nil, or_false]
    omega
/-- a word that stands by itself -/
def Wd (w : W) : Prop := 1 ≤ w.length ∧ w.length ≤ 60 ∧ ∀ c ∈ w, okSign c = true
theorem wd_name {w : W} (h : isName w = true) : Wd w := by
  obtain ⟨a, b, _, d⟩ := name_true h
  exact ⟨a, by omega, fun c hc => ok_letters c (d c hc)⟩
theorem wd_number {w : W} (h : isNumber w = true) : Wd w := by
  obtain ⟨a, b, _, d⟩ := number_true h
  exact ⟨a, by omega, fun c hc => ok_figures c (d c hc)⟩
theorem odd_true {w : W} (h : isOdd w = true) : 1 ≤ w.length ∧ w.length ≤ 60 ∧ isName w = false ∧ w ∉ notOdd ∧ isNumber w = false ∧ ∀ c ∈ w, okSign c = true := by
  unfold isOdd at h
  simpa only [Bool.and_eq_true, decide_eq_true_eq, List.all_eq_true, Bool.not_eq_true', decide_eq_false_iff_not] using h
theorem wd_odd {w : W} (h : isOdd w = true) : Wd w := by
  obtain ⟨a, b, _, _, _, d⟩ := odd_true h
  exact ⟨a, b, d⟩
theorem leaf_name {w : W} (h : isName w = true) (ws : List W) : leafOf w ws = some (fName w) := by
  obtain ⟨a, b, c, d⟩ := name_true h
  have e1 : w ≠ [63] := fun z => by rw [z] at d; exact absurd (d 63 (by simp)) (by decide)
  have e2 : ¬ (w = wYes ∨ w = wNo) := fun z => c (by rcases z with z | z <;> rw [z] <;> decide)
  have e3 : isNumber w = false := bool_false fun z => by
    obtain ⟨x, hx⟩ := List.exists_mem_of_ne_nil w (by intro y; rw [y] at a; simp at a)
    exact fig_let x ((number_true z).2.2.2 x hx) (d x hx)
  unfold RA.leafOf
  rw [if_neg e1, if_neg e2, e3, if_neg (by simp), if_pos h]
theorem leaf_number {w : W} (h : isNumber w = true) (ws : List W) : leafOf w ws = some (fNum (NumText.digitsVal w)) := by
  obtain ⟨a, b, c, d⟩ := number_true h
  have e1 : w ≠ [63] := fun z => by rw [z] at d; exact absurd (d 63 (by simp)) (by decide)
  have e2 : ¬ (w = wYes ∨ w = wNo) := fun z => by
    rcases z with z | z
    · rw [z] at d; exact absurd (d 121 (by simp)) (by decide)
    · rw [z] at d; exact absurd (d 110 (by simp)) (by decide)
  unfold RA.leafOf
  rw [if_neg e1, if_neg e2, if_pos h]
theorem leaf_odd {w : W} (h : isOdd w = true) {ws : List W} (hw : w ∉ ws) : leafOf w ws = some (fOdd w) := by
  obtain ⟨a, b, c, d, e, f⟩ := odd_true h
  have e1 : w ≠ [63] := fun z => d (by rw [z]; decide)
  have e2 : ¬ (w = wYes ∨ w = wNo) := fun z => d (by rcases z with z | z <;> rw [z] <;> decide)
  unfold RA.leafOf
  rw [if_neg e1, if_neg e2, e, if_neg (by simp), c, if_neg (by simp), if_pos ⟨h, hw⟩]
section
variable {ft : Nat → Option Fn} {gl : Nat → Option PV} {wf n : Nat} {st : Store}
/-- a leaf of the law: its word, its form -/
def Leafy (w : W) (f : Fm) : Prop := leafOf w [] = some f ∧ Wd w
theorem law_leaf (L : Lw ft) (v : Int) : ∃ (w : W) (f : Fm), Leafy w f ∧ ∀ n st, ∃ g k, callF ft gl wf (n + 3) 2045 [.int v] st = .ok (.ref k) (st ++ g) ∧ (st ++ g)[k]? = some (.lst [.str w, f.enc]) ∧ st.length ≤ k := by
  have h6 := Int.emod_nonneg v (show (6 : Int) ≠ 0 by omega)
  have h6' := Int.emod_lt_of_pos v (show (0 : Int) < 6 by omega)
  have h2 := Int.emod_nonneg (v / 6) (show (2 : Int) ≠ 0 by omega)
  have h2' := Int.emod_lt_of_pos (v / 6) (show (0 : Int) < 2 by omega)
  by_cases c0 : v % 6 = 0
  · refine ⟨[63], fGap, ⟨rfl, by unfold Wd; decide⟩, fun n st => ⟨[.lst [.str [63], fGap.enc]], st.length, ?_, by simp, Nat.le_refl _⟩⟩
    rw [callF_def L.leaf rfl]
    simp [GQ.fn__law_leaf_v1, c0, fGap, Fm.enc]
  by_cases c1 : v % 6 = 1
  · by_cases d0 : v / 6 % 2 = 0
    · refine ⟨wYes, fTruth true, ⟨rfl, by unfold Wd; decide⟩, fun n st => ⟨[.lst [.str wYes, .str wNo]] ++ [.lst [.str wYes, (fTruth true).enc]], (st ++ [Cell.lst [.str wYes, .str wNo]]).length, ?_, by rw [← List.append_assoc]; exact at_end, by simp⟩⟩
      rw [callF_def L.leaf rfl]
      simp [-List.append_assoc, -List.length_append, GQ.fn__law_leaf_v1, c0, c1, d0, fTruth, Fm.enc]
      simp [List.append_assoc]
    · have d1 : v / 6 % 2 = 1 := by omega
      refine ⟨wNo, fTruth false, ⟨rfl, by unfold Wd; decide⟩, fun n st => ⟨[.lst [.str wYes, .str wNo]] ++ [.lst [.str wNo, (fTruth false).enc]], (st ++ [Cell.lst [.str wYes, .str wNo]]).length, ?_, by rw [← List.append_assoc]; exact at_end, by simp⟩⟩
      rw [callF_def L.leaf rfl]
      simp [-List.append_assoc, -List.length_append, GQ.fn__law_leaf_v1, c0, c1, d1, fTruth, Fm.enc]
      simp [List.append_assoc]
  by_cases c2 : v % 6 = 2
  · obtain ⟨m, hm, hx⟩ := law_number (ft := ft) (gl := gl) (wf := wf) L (v / 6)
    have hn := number_numL hm
    refine ⟨TL.numL m, fNum m, ⟨by rw [leaf_number hn, TL.numL_val], wd_number hn⟩, fun n st => ⟨[.lst [.str (TL.numL m), (fNum m).enc]], st.length, ?_, by simp, Nat.le_refl _⟩⟩
    have hl : m.log2 < 1920 := by
      by_cases z : m = 0
      · subst z
        decide
      · have : m.log2 < 60 := (Nat.log2_lt z).mpr (Nat.lt_of_lt_of_le hm (by decide))
        omega
    rw [callF_def L.leaf rfl]
    simp [GQ.fn__law_leaf_v1, c0, c1, c2, hx, numTxt_eq, hl, fNum, Fm.enc]
  by_cases c3 : v % 6 = 3
  · obtain ⟨w, hw, hx⟩ := law_odd (ft := ft) (gl := gl) (wf := wf) L (v / 6)
    refine ⟨w, fOdd w, ⟨leaf_odd hw (by simp), wd_odd hw⟩, fun n st => ?_⟩
    obtain ⟨g1, e1⟩ := hx n st
    obtain ⟨g2, e2⟩ := hx n (st ++ g1)
    refine ⟨g1 ++ (g2 ++ [.lst [.str w, (fOdd w).enc]]), (st ++ g1 ++ g2).length, ?_, by rw [← List.append_assoc, ← List.append_assoc]; exact at_end, by simp⟩
    rw [callF_def L.leaf rfl]
    simp [-List.append_assoc, -List.length_append, GQ.fn__law_leaf_v1, c0, c1, c2, c3, e1, e2, fOdd, Fm.enc]
    simp [List.append_assoc]
  · obtain ⟨w, hw, hx⟩ := law_name (ft := ft) (gl := gl) (wf := wf) L (v / 6)
    refine ⟨w, fName w, ⟨leaf_name hw [], wd_name hw⟩, fun n st => ?_⟩
    obtain ⟨g1, e1⟩ := hx (n + 1) st
    obtain ⟨g2, e2⟩ := hx (n + 1) (st ++ g1)
    refine ⟨g1 ++ (g2 ++ [.lst [.str w, (fName w).enc]]), (st ++ g1 ++ g2).length, ?_, by rw [← List.append_assoc, ← List.append_assoc]; exact at_end, by simp⟩
    rw [callF_def L.leaf rfl]
    simp [-List.append_assoc, -List.length_append, GQ.fn__law_leaf_v1, c0, c1, c2, c3, e1, e2, fName, Fm.enc]
    simp [List.append_assoc]
theorem enumI_map {α : Type} (f : α → PV) : ∀ (vs : List α) (k : Nat), enumI k (vs.map f) = (vs.zipIdx k).map fun p => .tup [.int (p.2 : Nat), f p.1]
  | [], _ => rfl
  | v :: r, k => by
    rw [List.zipIdx_cons, List.map_cons, List.map_cons, ← enumI_map f r (k + 1)]
    rfl
theorem law_cells (L : Lw ft) (ns : List Int) (a b : Nat) (hl : ns.length ≤ 63) : ∃ (vs : List Int) (x : Cell), vs.length ≤ b ∧ (∀ v ∈ vs, 0 ≤ v) ∧ ∀ n st, callF ft gl wf (n + 1) 2020 [.frl (ns.map .int), .int a, .int b] st = .ok (.ref (st ++ [x]).length) (st ++ [x] ++ [.lst (vs.map .int)]) := by
  have hc : cutP (ns.map PV.int) (some (a : Int)) (some ((a : Int) + b)) = ((ns.drop a).take b).map .int := by
    have := cutP_nat (ns.map PV.int) a (a + b)
    rw [show ((a + b : Nat) : Int) = (a : Int) + b by omega] at this
    rw [this, ← List.map_drop, ← List.map_take]
    congr 2
    omega
  refine ⟨((ns.drop a).take b).zipIdx.map fun p => p.1 % 10000000000000000000000000000000000000000 * 982451653 + 7919 * p.2, .lst (((ns.drop a).take b).map .int), by simp; omega, fun v hv => ?_, fun n st => ?_⟩
  · obtain ⟨p, _, rfl⟩ := List.mem_map.mp hv
    have := Int.emod_nonneg p.1 (show (10000000000000000000000000000000000000000 : Int) ≠ 0 by omega)
    omega
  · rw [callF_def L.cells rfl]
    simp [-List.append_assoc, -List.length_append, -List.map_take, -List.map_drop, GQ.fn__law_cells, slcFr, hc, enumG_ref at_end, wipeE]
    have e := compL_filter (st := st ++ [Cell.lst (((ns.drop a).take b).map .int)]) (w := [(st.length, ((ns.drop a).take b).map .int)]) (tg := .tup [4, 5]) (c := fun _ st => .ok (.bl true) st)
      (el := ev (ckx ft gl wf n) (.bin .add (.bin .mul (.bin .mod (.var 5) (.bin .pow (.int 10) (.int 40))) (.int 982451653)) (.bin .mul (.int 7919) (.var 4)))) (env := [some (.frl (ns.map .int)), some (.int a), some (.int b), some (.ref st.length), none, none]) (keeps_one at_end) (fun (p : Int × Nat) => PV.tup [.int (p.2 : Nat), .int p.1]) (fun _ => true) (fun p => .int (p.1 % 10000000000000000000000000000000000000000 * 982451653 + 7919 * p.2)) (((ns.drop a).take b).zipIdx) [] (fun p hp => ⟨_, rfl, rfl, by simp⟩) (by rw [SL_eq]; simp; omega)
    rw [enumI_map, e]
    rw [List.filter_eq_self.mpr fun _ _ => rfl]
    simp
theorem sumF_ints : ∀ vs : List Int, sumF (vs.map .int) = some vs.sum
  | [] => rfl
  | v :: r => by
    rw [List.map_cons]
    show (sumF (r.map .int)).map (v + ·) = _
    rw [sumF_ints r]
    simp
theorem sum_ref {k : Nat} {vs : List Int} (h : st[k]? = some (.lst (vs.map .int))) : biF .sum [.ref k] st = .ok (.int vs.sum) st := by
  show (match listOf st (.ref k) with
    | some xs => (match sumF xs with
      | some n => Res.ok (PV.int n) st
      | none => .bad)
    | none => .bad) = _
  rw [listOf_ref h]
  show (match sumF (vs.map .int) with
      | some n => Res.ok (PV.int n) st
      | none => .bad) = _
  rw [sumF_ints]
/-! ### trees that are alike -/
end
end SA
namespace RA
open GI PySem
def Fm.dp : Fm → Nat
  | .lf _ _ => 0
  | .un _ _ a => a.dp + 1
  | .bi _ _ a b => max a.dp b.dp + 1
  | .tr _ _ a b c => max a.dp (max b.dp c.dp) + 1
/-- a note: plain -/
structure Gn (n : PV) : Prop where
  eq : ∀ st, eqF n n st = some true
  ty : ∃ b, ∀ st, tyF st .bool n = some b
  da : ∃ d, (∀ st m, dataOf st (m + 1) n = some d) ∧ d.canLay0 = true
def Fm.Ok : Fm → Prop
  | .lf w n => (PyData.str ⟨w.toArray⟩).canLay0 = true ∧ Gn n
  | .un w n a => (PyData.str ⟨w.toArray⟩).canLay0 = true ∧ Gn n ∧ a.Ok
  | .bi w n a b => (PyData.str ⟨w.toArray⟩).canLay0 = true ∧ Gn n ∧ a.Ok ∧ b.Ok
  | .tr w n a b c => (PyData.str ⟨w.toArray⟩).canLay0 = true ∧ Gn n ∧ a.Ok ∧ b.Ok ∧ c.Ok
end RA
namespace SA
open GI PySem RA
section
variable {ft : Nat → Option Fn} {gl : Nat → Option PV} {wf n : Nat} {st : Store}
theorem law_alike (L : Lw ft) : ∀ (f : Fm) (n : Nat) (st : Store), f.Ok → f.dp < n → callF ft gl wf n 2001 [f.enc, f.enc] st = .ok (.bl true) st := by
  intro f
  induction f with
  | lf w n =>
    intro m st ok hm
    obtain ⟨m, rfl⟩ : ∃ k, m = k + 1 := ⟨m - 1, by omega⟩
    obtain ⟨b, hb⟩ := ok.2.ty
    rw [callF_def L.alike rfl]
    simp [GQ.fn__law_alike, Fm.enc, ok.2.eq, hb, zipI, forL_nil]
  | un w n a ha =>
    intro m st ok hm
    obtain ⟨m, rfl⟩ : ∃ k, m = k + 1 := ⟨m - 1, by omega⟩
    obtain ⟨b, hb⟩ := ok.2.1.ty
    simp only [Fm.dp] at hm
    have ea := fun s => ha m s ok.2.2 (by omega)
    rw [callF_def L.alike rfl]
    simp [GQ.fn__law_alike, GQ.b__law_alike0, Fm.enc, ok.2.1.eq, hb, zipI, forL_nil, forL_cons, ea]
  | bi w n a b ha hb' =>
    intro m st ok hm
    obtain ⟨m, rfl⟩ : ∃ k, m = k + 1 := ⟨m - 1, by omega⟩
    obtain ⟨b, hb⟩ := ok.2.1.ty
    simp only [Fm.dp] at hm
    have ea := fun s => ha m s ok.2.2.1 (by omega)
    have eb := fun s => hb' m s ok.2.2.2 (by omega)
    rw [callF_def L.alike rfl]
    simp [GQ.fn__law_alike, GQ.b__law_alike0, Fm.enc, ok.2.1.eq, hb, zipI, forL_nil, forL_cons, ea, eb]
  | tr w n a b c ha hb' hc =>
    intro m st ok hm
    obtain ⟨m, rfl⟩ : ∃ k, m = k + 1 := ⟨m - 1, by omega⟩
    obtain ⟨b, hb⟩ := ok.2.1.ty
    simp only [Fm.dp] at hm
    have ea := fun s => ha m s ok.2.2.1 (by omega)
    have eb := fun s => hb' m s ok.2.2.2.1 (by omega)
    have ec := fun s => hc m s ok.2.2.2.2 (by omega)
    rw [callF_def L.alike rfl]
    simp [GQ.fn__law_alike, GQ.b__law_alike0, Fm.enc, ok.2.1.eq, hb, zipI, forL_nil, forL_cons, ea, eb, ec]
end
end SA
end
set_option maxRecDepth 100000
set_option maxHeartbeats 2000000
/-! SD: plain trees; texts of rows. -/
noncomputable section
namespace RA
open GI PySem
theorem gn_non : Gn .non := ⟨fun _ => rfl, ⟨false, fun _ => rfl⟩, ⟨.none, fun _ _ => rfl, by decide +kernel⟩⟩
theorem gn_bl (b : Bool) : Gn (.bl b) := ⟨fun _ => by show some (b == b) = _; simp, ⟨true, fun _ => rfl⟩, ⟨.bool b, fun _ _ => rfl, by cases b <;> decide +kernel⟩⟩
theorem gn_int (i : Int) : Gn (.int i) := ⟨fun _ => by show some (i == i) = _; simp, ⟨false, fun _ => rfl⟩, ⟨.int i, fun _ _ => rfl, by unfold PyData.canLay0; rfl⟩⟩
theorem gn_str {w : W} (h : (PyData.str ⟨w.toArray⟩).canLay0 = true) : Gn (.str w) := ⟨fun _ => by show some (w == w) = _; simp, ⟨false, fun _ => rfl⟩, ⟨.str ⟨w.toArray⟩, fun _ _ => rfl, h⟩⟩
theorem lay_two {v w : W} (h : (PyData.str ⟨v.toArray⟩).canLay0 = true) (h2 : (PyData.str ⟨w.toArray⟩).canLay0 = true) : (PyData.tuple [.str ⟨v.toArray⟩, .str ⟨w.toArray⟩]).canLay0 = true := by
  unfold PyData.canLay0
  exact lay_words (xs := [v, w]) (by simp [h, h2])
theorem gn_two {v w : W} (h : (PyData.str ⟨v.toArray⟩).canLay0 = true) (h2 : (PyData.str ⟨w.toArray⟩).canLay0 = true) : Gn (.tup [.str v, .str w]) := by
  have da : ∀ st m, dataOf st (m + 1) (.tup [.str v, .str w]) = some (.tuple [.str ⟨v.toArray⟩, .str ⟨w.toArray⟩]) := fun st m => by
    have e : dataOf st (m + 1) (.tup [.str v, .str w]) = ([PV.str v, PV.str w].mapM (dataOf st m)).map .tuple := by
      conv => lhs; unfold dataOf
    rw [e]
    have := mapM_strs st m [v, w]
    simp only [List.map_cons, List.map_nil] at this
    rw [this]
    rfl
  refine ⟨fun st => ?_, ⟨false, fun _ => rfl⟩, ⟨_, da, lay_two h h2⟩⟩
  unfold eqF
  rw [da st 189]
  have e : PyData.eqv (.tuple [.str ⟨v.toArray⟩, .str ⟨w.toArray⟩]) (.tuple [.str ⟨v.toArray⟩, .str ⟨w.toArray⟩]) = true := by
    unfold PyData.eqv
    have := eqv_words [v, w] [v, w]
    simpa using this
  simp only [scalP, lay_two h h2, e, Bool.and_self, if_true]
  rfl
/-! ### a tree as data -/
theorem mapM_one (st : Store) (m : Nat) {a : PV} {d : PyData} (h : dataOf st m a = some d) : [a].mapM (dataOf st m) = some [d] := by
  simp [h]
def Datum (f : PV) (k : Nat) (d : PyData) : Prop := (∀ st m, k ≤ m → dataOf st m f = some d) ∧ d.canLay0 = true
theorem data_tup {st : Store} {m : Nat} {xs : List PV} {ds : List PyData} (h : xs.mapM (dataOf st m) = some ds) : dataOf st (m + 1) (.tup xs) = some (.tuple ds) := by
  have e : dataOf st (m + 1) (.tup xs) = (xs.mapM (dataOf st m)).map .tuple := by
    conv => lhs; unfold dataOf
  rw [e, h]
  rfl
theorem datum_head {w : W} {n : PV} {ps : List PV} {ds : List PyData} {k : Nat} (hw : (PyData.str ⟨w.toArray⟩).canLay0 = true) (hn : Gn n) (hp : ∀ st m, k ≤ m → ps.mapM (dataOf st m) = some ds) (hl : PyData.canLayAll0 ds = true) : ∃ e, Datum (.tup [.str w, n, .tup ps]) (k + 2) (.tuple [.str ⟨w.toArray⟩, e, .tuple ds]) := by
  obtain ⟨e, he, hc⟩ := hn.da
  refine ⟨e, fun st m hm => ?_, ?_⟩
  · obtain ⟨m, rfl⟩ : ∃ q, m = q + 2 := ⟨m - 2, by omega⟩
    refine data_tup ?_
    have h3 := data_tup (hp st m (by omega))
    have h1 : dataOf st (m + 1) (.str w) = some (.str ⟨w.toArray⟩) := rfl
    simp [he st m, h3, h1]
  · unfold PyData.canLay0 PyData.canLayAll0 PyData.canLayAll0 PyData.canLayAll0 PyData.canLayAll0
    have : (PyData.tuple ds).canLay0 = true := by unfold PyData.canLay0; exact hl
    rw [hw, hc, this]
    rfl
theorem datum (f : Fm) (ok : f.Ok) : ∃ d, Datum f.enc (2 * f.dp + 2) (.tuple d) := by
  induction f with
  | lf w n =>
    obtain ⟨e, h⟩ := datum_head (ps := []) (ds := []) (k := 0) ok.1 ok.2 (fun _ _ _ => rfl) (by decide +kernel)
    exact ⟨_, h⟩
  | un w n a ha =>
    obtain ⟨da, h1, h2⟩ := ha ok.2.2
    obtain ⟨e, h⟩ := datum_head (ps := [a.enc]) (ds := [.tuple da]) (k := 2 * a.dp + 2) ok.1 ok.2.1 (fun st m hm => by simp [h1 st m hm]) (by unfold PyData.canLayAll0 PyData.canLayAll0; rw [h2]; rfl)
    exact ⟨_, h⟩
  | bi w n a b ha hb =>
    obtain ⟨da, h1, h2⟩ := ha ok.2.2.1
    obtain ⟨db, h3, h4⟩ := hb ok.2.2.2
    obtain ⟨e, h⟩ := datum_head (ps := [a.enc, b.enc]) (ds := [.tuple da, .tuple db]) (k := 2 * max a.dp b.dp + 2) ok.1 ok.2.1 (fun st m hm => by simp [h1 st m (by omega), h3 st m (by omega)]) (by unfold PyData.canLayAll0 PyData.canLayAll0 PyData.canLayAll0; rw [h2, h4]; rfl)
    exact ⟨_, by simpa [Fm.dp, Fm.enc, Nat.mul_add] using h⟩
  | tr w n a b c ha hb hc =>
    obtain ⟨da, h1, h2⟩ := ha ok.2.2.1
    obtain ⟨db, h3, h4⟩ := hb ok.2.2.2.1
    obtain ⟨dc, h5, h6⟩ := hc ok.2.2.2.2
    obtain ⟨e, h⟩ := datum_head (ps := [a.enc, b.enc, c.enc]) (ds := [.tuple da, .tuple db, .tuple dc]) (k := 2 * max a.dp (max b.dp c.dp) + 2) ok.1 ok.2.1 (fun st m hm => by simp [h1 st m (by omega), h3 st m (by omega), h5 st m (by omega)]) (by unfold PyData.canLayAll0 PyData.canLayAll0 PyData.canLayAll0 PyData.canLayAll0; rw [h2, h4, h6]; rfl)
    exact ⟨_, by simpa [Fm.dp, Fm.enc, Nat.mul_add] using h⟩
/-- a tree is no text -/
theorem eq_text {f : Fm} (ok : f.Ok) (hd : f.dp ≤ 90) {w : W} (hw : (PyData.str ⟨w.toArray⟩).canLay0 = true) (st : Store) : eqF f.enc (.str w) st = some false := by
  obtain ⟨d, h1, h2⟩ := datum f ok
  have e1 := h1 st 190 (by omega)
  have e2 : dataOf st 190 (.str w) = some (.str ⟨w.toArray⟩) := rfl
  have e3 : scalP f.enc (.str w) = false := by cases f <;> rfl
  unfold eqF
  rw [e1, e2, e3]
  have : PyData.eqv (.tuple d) (.str ⟨w.toArray⟩) = false := by unfold PyData.eqv; rfl
  simp only [h2, hw, this, Bool.and_self, if_true, Bool.false_eq_true, if_false]
theorem in_texts {f : Fm} (ok : f.Ok) (hd : f.dp ≤ 90) {ws : List W} (hw : ∀ w ∈ ws, (PyData.str ⟨w.toArray⟩).canLay0 = true) {k : Nat} {st : Store} (hk : st[k]? = some (.lst (ws.map .str))) : inF f.enc (.ref k) st = some false := by
  obtain ⟨d, h1, h2⟩ := datum f ok
  have e1 := h1 st 190 (by omega)
  have e2 := data_words hk 189
  have e3 : flatP f.enc = false := by cases f <;> rfl
  have e4 : (PyData.list (ws.map fun x => PyData.str ⟨x.toArray⟩)).canLay0 = true := by
    unfold PyData.canLay0
    exact lay_words hw
  have e5 : ∀ ws : List W, (ws.map fun x => PyData.str ⟨x.toArray⟩).any (fun z => PyData.eqv z (.tuple d)) = false := fun ws => by
    induction ws with
    | nil => rfl
    | cons w r ih =>
      rw [List.map_cons, List.any_cons, ih]
      unfold PyData.eqv
      rfl
  unfold inF
  split
  · rename_i h
    cases f <;> cases h
  · rw [items_ref hk, e1, e2]
    simp only [e3, Bool.false_and, Bool.false_eq_true, if_false, seqD, h2, e4, Bool.and_self, if_true, e5]
end RA
end
set_option maxRecDepth 100000
set_option maxHeartbeats 2000000
/-! SE: a row's text has the row's pieces. -/
noncomputable section
namespace SA
open GI PySem RA
/-- a row's word: a bracket, or a word that stands by itself -/
def Rw (x : W) : Prop := x = [40] ∨ x = [41] ∨ Wd x
theorem ok_blank {c : Nat} (h : okSign c = true) : c ∉ blanks ∧ c ≠ 40 ∧ c ≠ 41 := by
  unfold okSign at h
  simp only [Bool.and_eq_true, decide_eq_true_eq, Bool.not_eq_true', decide_eq_false_iff_not] at h
  simp only [List.mem_cons, List.not_mem_nil, or_false]
  omega
theorem pcs_word : ∀ (x : List Nat) (r : List Nat) (w : W), (∀ c ∈ x, c ∉ blanks) → pcs (x ++ r) w = pcs r (w ++ x)
  | [], r, w, _ => by simp
  | c :: x, r, w, h => by
    rw [List.cons_append]
    show (if c ∈ blanks then _ else pcs (x ++ r) (w ++ [c])) = _
    rw [if_neg (h c List.mem_cons_self), pcs_word x r (w ++ [c]) fun d hd => h d (List.mem_cons_of_mem _ hd)]
    simp
theorem pcs_blank : ∀ (s r : List Nat) (w : W), (∀ c ∈ s, c = 32 ∨ c = 10 ∨ c = 9) → s ≠ [] → pcs (s ++ r) w = cut w ++ pcs r []
  | [], _, _, _, h => absurd rfl h
  | c :: s, r, w, h, _ => by
    have hc := h c List.mem_cons_self
    have h1 : c ∈ blanks := by simp only [List.mem_cons, List.not_mem_nil, or_false]; omega
    have h2 : ¬ (c = 40 ∨ c = 41) := by omega
    rw [List.cons_append]
    show (if c ∈ blanks then cut w ++ ((if c = 40 ∨ c = 41 then [[c]] else []) ++ pcs (s ++ r) []) else _) = _
    rw [if_pos h1, if_neg h2, List.nil_append]
    by_cases hs : s = []
    · subst hs
      rfl
    · rw [pcs_blank s r [] (fun d hd => h d (List.mem_cons_of_mem _ hd)) hs]
      rfl
/-- how far a text is: its pieces, the word that is open -/
def At (T : List Nat) (acc : List W) (w : W) : Prop := (∀ r, pcs (T ++ r) [] = acc ++ pcs r w) ∧ (w = [] ∨ ∃ c, T.getLast? = some c ∧ c ≠ 40 ∧ c ≠ 41)
theorem at_nil : At [] [] [] := ⟨fun _ => rfl, .inl rfl⟩
def Sp (s : List Nat) : Prop := s = [32] ∨ s = [10] ∨ s = [9] ∨ s = [32, 32]
theorem Sp.is {s : List Nat} (h : Sp s) : (∀ c ∈ s, c = 32 ∨ c = 10 ∨ c = 9) ∧ s ≠ [] ∧ s.length ≤ 2 := by
  rcases h with rfl | rfl | rfl | rfl <;> simp
/-- may a text and a word stand without a blank between? -/
def Tight (T x : List Nat) : Prop := (x = [40] ∨ x = [41]) ∨ (T = [] ∨ T.getLast? = some 40 ∨ T.getLast? = some 41)
theorem at_step {T : List Nat} {acc : List W} {w x s : List Nat} (h : At T acc w) (hx : Rw x) (hs : Sp s ∨ (s = [] ∧ Tight T x)) : ∃ acc' w', At (T ++ s ++ x) acc' w' ∧ acc' ++ cut w' = acc ++ cut w ++ [x] := by
  obtain ⟨h1, h2⟩ := h
  have br : ∀ (c : Nat) (r : List Nat) (w : W), (c = 40 ∨ c = 41) → pcs ([c] ++ r) w = cut w ++ [[c]] ++ pcs r [] := fun c r w hc => by
    show (if c ∈ blanks then cut w ++ ((if c = 40 ∨ c = 41 then [[c]] else []) ++ pcs r []) else _) = _
    rw [if_pos (by simp only [List.mem_cons, List.not_mem_nil, or_false]; omega), if_pos hc, List.append_assoc]
  -- behind the blanks
  have mid : ∀ r, pcs (T ++ (s ++ (x ++ r))) [] = acc ++ cut w ++ pcs (x ++ r) [] ∨ (s = [] ∧ Tight T x) := fun r => by
    rcases hs with hs | hs
    · left
      rw [h1, pcs_blank s _ w hs.is.1 hs.is.2.1, List.append_assoc]
    · exact .inr hs
  have brk : ∀ c : Nat, (c = 40 ∨ c = 41) → x = [c] → ∃ acc' w', At (T ++ s ++ x) acc' w' ∧ acc' ++ cut w' = acc ++ cut w ++ [x] := fun c hc hx => by
    subst hx
    refine ⟨acc ++ cut w ++ [[c]], [], ⟨fun r => ?_, .inl rfl⟩, by simp [cut]⟩
    rw [List.append_assoc, List.append_assoc]
    rcases hs with hs | hs
    · rw [h1, pcs_blank s _ w hs.is.1 hs.is.2.1, br c r [] hc]
      simp [cut]
    · rw [hs.1, List.nil_append, h1, br c r w hc]
      simp
  rcases hx with rfl | rfl | hx
  · exact brk 40 (.inl rfl) rfl
  · exact brk 41 (.inr rfl) rfl
  · have nb : ∀ c ∈ x, c ∉ blanks := fun c hc => (ok_blank (hx.2.2 c hc)).1
    have hne : x ≠ [] := by
      intro z
      have := hx.1
      rw [z] at this
      simp at this
    have hlast : ∃ c, (T ++ s ++ x).getLast? = some c ∧ c ≠ 40 ∧ c ≠ 41 := by
      refine ⟨x.getLast hne, ?_, (ok_blank (hx.2.2 _ (List.getLast_mem hne))).2⟩
      rw [List.getLast?_append, List.getLast?_eq_some_getLast hne]
      rfl
    refine ⟨acc ++ cut w, x, ⟨fun r => ?_, .inr hlast⟩, by rw [show cut x = [x] from if_neg hne]⟩
    rw [List.append_assoc, List.append_assoc]
    rcases hs with hs | hs
    · rw [h1, pcs_blank s _ w hs.is.1 hs.is.2.1, pcs_word x r [] nb, List.nil_append, List.append_assoc]
    · have hw : w = [] := by
        rcases h2 with z | ⟨c, hc, c1, c2⟩
        · exact z
        · exfalso
          rcases hs.2 with z | z
          · rcases z with z | z
            · exact absurd (hx.2.2 40 (by rw [z]; simp)) (by decide)
            · exact absurd (hx.2.2 41 (by rw [z]; simp)) (by decide)
          · rcases z with z | z | z
            · rw [z] at hc
              simp at hc
            · rw [z] at hc
              exact c1 (Option.some.inj hc).symm
            · rw [z] at hc
              exact c2 (Option.some.inj hc).symm
      subst hw
      rw [hs.1, List.nil_append, h1, pcs_word x r [] nb]
      simp [cut]
theorem cutP_last {α : Type} (xs : List α) : cutP xs (some (-1)) none = xs.drop (xs.length - 1) := by
  unfold cutP
  rw [HT.sIx_none]
  have : HT.sIx xs.length 0 (some (-1)) = xs.length - 1 := by
    unfold HT.sIx
    simp only
    rw [if_pos (by omega)]
    omega
  rw [this]
  exact List.take_of_length_le (by rw [List.length_drop]; omega)
theorem last_of {T : List Nat} (h : T.drop (T.length - 1) ∈ ([[], [40], [41]] : List W)) : T = [] ∨ T.getLast? = some 40 ∨ T.getLast? = some 41 := by
  rcases List.eq_nil_or_concat T with rfl | ⟨r, c, rfl⟩
  · exact .inl rfl
  · rw [List.concat_eq_append] at *
    have e : (r ++ [c]).drop ((r ++ [c]).length - 1) = [c] := by simp
    rw [e] at h
    simp only [List.mem_cons, List.not_mem_nil, or_false] at h
    rw [List.getLast?_append]
    rcases h with h | h | h
    · cases h
    · cases h
      exact .inr (.inl rfl)
    · cases h
      exact .inr (.inr rfl)
section
variable {ft : Nat → Option Fn} {gl : Nat → Option PV} {wf n : Nat} {st : Store}
theorem text_step (cx : Ck) (row : Option PV) (v : Int) (T x : List Nat) (k : Nat) (o : Option PV) (hk : k ≤ 1000) (hl : T.length + x.length + 2 ≤ SL) : ∃ s : List Nat, (Sp s ∨ (s = [] ∧ Tight T x)) ∧ ∀ st, Ends (xSs cx GQ.b__law_text0 [row, some (.int v), some (.str T), some (.int k), some (.str x), o] st) (.nx, [row, some (.int v), some (.str (T ++ s ++ x)), some (.int k), some (.str x), some (.str s)]) st := by
  obtain ⟨s, hs, hx⟩ := idx_mod (s := []) (xs := [[32], [10], [9], [32, 32]]) (r := v / ((k : Int) + 1)) (m := 4) rfl (by decide)
  simp only [List.map_cons, List.map_nil] at hx
  have hsp : Sp s := by
    simp only [List.mem_cons, List.not_mem_nil, or_false] at hs
    exact hs
  have b1 : (0 : Int) < (k : Int) + 1 := by omega
  have b2 : (k : Int) + 1 < 1073741824 := by omega
  have b3 : (0 : Int) < (k : Int) + 3 := by omega
  have b4 : (k : Int) + 3 < 1073741824 := by omega
  have i1 : ∀ s : Store, inF (.str x) (.ref s.length) (s ++ [.lst [.str [40], .str [41]]]) = some (decide (x ∈ ([[40], [41]] : List W))) := fun s => inF_items (xs := [[40], [41]]) (items_ref at_end)
  have i2 : ∀ s : Store, inF (.str (T.drop (T.length - 1))) (.ref s.length) (s ++ [.lst [.str [], .str [40], .str [41]]]) = some (decide (T.drop (T.length - 1) ∈ ([[], [40], [41]] : List W))) := fun s => inF_items (xs := [[], [40], [41]]) (items_ref at_end)
  have ls := hsp.is.2.2
  have l0 : T.length ≤ SL := by omega
  have l1 : T.length + s.length ≤ SL := by omega
  have l2 : (T ++ s).length + x.length ≤ SL := by simp; omega
  have l3 : T.length + x.length ≤ SL := by omega
  have tg : x ∈ ([[40], [41]] : List W) ∨ T.drop (T.length - 1) ∈ ([[], [40], [41]] : List W) → Tight T x := fun h => by
    rcases h with h | h
    · exact .inl (by simpa using h)
    · exact .inr (last_of h)
  have tg' : ∀ q1 q2 : Bool, decide (x ∈ ([[40], [41]] : List W)) = q1 → decide (T.drop (T.length - 1) ∈ ([[], [40], [41]] : List W)) = q2 → (q1 || q2) = true → Tight T x := fun q1 q2 e1 e2 h => tg (by
    subst e1 e2
    simpa only [Bool.or_eq_true, decide_eq_true_eq] using h)
  generalize e1 : decide (x ∈ ([[40], [41]] : List W)) = q1 at i1
  generalize e2 : decide (T.drop (T.length - 1) ∈ ([[], [40], [41]] : List W)) = q2 at i2
  have tg2 := tg' q1 q2 e1 e2
  clear tg tg' e1 e2
  have neg1 : ∀ st : Store, slcF (some (-1)) none (.str T) st = .ok (.str (T.drop (T.length - 1))) st := fun st => by rw [slcS, if_pos l0, cutP_last]
  have keep : (if ((v / ((k : Int) + 3) + k) % 2 = 0 ∧ (q1 || q2) = true) then False else True) → ∀ st, Ends (xSs cx GQ.b__law_text0 [row, some (.int v), some (.str T), some (.int k), some (.str x), o] st) (.nx, [row, some (.int v), some (.str (T ++ s ++ x)), some (.int k), some (.str x), some (.str s)]) st := fun hq st => by
    by_cases h3 : (v / ((k : Int) + 3) + k) % 2 = 0 <;> cases q1 <;> cases q2 <;> simp [h3] at hq
    all_goals
      simp [-List.append_assoc, -List.length_append, GQ.b__law_text0, hx, b1, b2, b3, b4, i1, i2, h3, l0, l1, l2, l3, neg1]
      exact Ends.of (by simp [List.append_assoc])
  by_cases h3 : (v / ((k : Int) + 3) + k) % 2 = 0
  · cases hq : (q1 || q2) with
    | false => exact ⟨s, .inl hsp, keep (by simp [hq])⟩
    | true =>
      refine ⟨[], .inr ⟨rfl, tg2 hq⟩, fun st => ?_⟩
      cases q1 <;> cases q2 <;> simp at hq
      all_goals
        simp [-List.append_assoc, -List.length_append, GQ.b__law_text0, hx, b1, b2, b3, b4, i1, i2, h3, l0, l1, l2, l3, neg1]
        exact Ends.of (by simp [List.append_assoc])
  · exact ⟨s, .inl hsp, keep (by simp [h3])⟩
theorem loop_text (cx : Ck) (k : Nat) (v : Int) (full : List PV) : ∀ (ps : List (W × Nat)) (T : List Nat) (acc : List W) (w : W) (o1 o2 o3 : Option PV) (st : Store), st[k]? = some (.lst full) → At T acc w → (∀ p ∈ ps, Rw p.1 ∧ p.2 ≤ 1000) → T.length + 62 * ps.length ≤ 100000 → (∀ c ∈ T, c < 128) →
    ∃ (T' : List Nat) (acc' : List W) (w' : W) (o1' o2' o3' : Option PV), At T' acc' w' ∧ acc' ++ cut w' = acc ++ cut w ++ ps.map (·.1) ∧ T'.length ≤ T.length + 62 * ps.length ∧ (∀ c ∈ T', c < 128) ∧
      Ends (forL [(k, full)] (.tup [3, 4]) (xSs cx GQ.b__law_text0) (ps.map fun p => .tup [.int (p.2 : Nat), .str p.1]) [some (.ref k), some (.int v), some (.str T), o1, o2, o3] st) (.nx, [some (.ref k), some (.int v), some (.str T'), o1', o2', o3']) st
  | [], T, acc, w, o1, o2, o3, st, hk, hA, _, _, hT => ⟨T, acc, w, o1, o2, o3, hA, by simp, by simp, hT, by rw [List.map_nil, forL_nil, if_pos (keeps_one hk)]; exact Ends.of (List.prefix_refl _)⟩
  | (x, i) :: ps, T, acc, w, o1, o2, o3, st, hk, hA, hp, hl, hT => by
    simp only [List.length_cons] at hl
    obtain ⟨hx, hi⟩ := hp (x, i) List.mem_cons_self
    have lx : x.length ≤ 60 ∧ ∀ c ∈ x, c < 128 := by
      rcases hx with hx | hx | hx
      · simp only at hx; subst hx; simp
      · simp only at hx; subst hx; simp
      · refine ⟨hx.2.1, fun c hc => ?_⟩
        have := hx.2.2 c hc
        unfold okSign at this
        simp only [Bool.and_eq_true, decide_eq_true_eq] at this
        omega
    obtain ⟨s, hs, hstep⟩ := text_step cx (some (.ref k)) v T x i o3 hi (by rw [SL_eq]; omega)
    obtain ⟨acc1, w1, hA1, e1⟩ := at_step hA hx hs
    have ls : s.length ≤ 2 ∧ ∀ c ∈ s, c < 128 := by
      rcases hs with hs | hs
      · exact ⟨hs.is.2.2, fun c hc => by have := hs.is.1 c hc; omega⟩
      · rw [hs.1]
        simp
    obtain ⟨g, hg⟩ := hstep st
    have hk2 : (st ++ g)[k]? = some (.lst full) := by
      rw [List.getElem?_append_left (List.getElem?_eq_some_iff.mp hk).1]
      exact hk
    obtain ⟨T', acc', w', o1', o2', o3', r1, r2, r3, r4, r5⟩ := loop_text cx k v full ps (T ++ s ++ x) acc1 w1 (some (.int i)) (some (.str x)) (some (.str s)) (st ++ g) hk2 hA1 (fun p hp' => hp p (List.mem_cons_of_mem _ hp')) (by simp only [List.length_append]; omega) (fun c hc => by
      rcases List.mem_append.mp hc with z | z
      · rcases List.mem_append.mp z with z | z
        · exact hT c z
        · exact ls.2 c z
      · exact lx.2 c z)
    refine ⟨T', acc', w', o1', o2', o3', r1, ?_, ?_, r4, ?_⟩
    · rw [r2, e1]
      simp
    · simp only [List.length_append, List.length_cons] at r3 ⊢
      omega
    · rw [List.map_cons, forL_cons, if_pos (keeps_one hk)]
      simp only [bindTg_tup2, List.set_cons_succ, List.set_cons_zero]
      rw [hg]
      exact Ends.app r5
/-- a row's text has the row's pieces -/
theorem law_text {id : Nat} (hid : ft id = some GQ.fn__law_text) (row : List W) (v : Int) (k : Nat) (st : Store) (hk : st[k]? = some (.lst (row.map .str))) (hr : ∀ x ∈ row, Rw x) (hl : row.length ≤ 100) :
    ∃ t : List Nat, pcs t [] = row ∧ t.length ≤ 62 * row.length + 2 ∧ (∀ c ∈ t, c < 128) ∧ Ends (callF ft gl wf (n + 1) id [.ref k, .int v] st) (.str t) st := by
  have hz : ∀ p ∈ row.zipIdx, Rw p.1 ∧ p.2 ≤ 1000 := fun p hp => by
    obtain ⟨_, h2, h3⟩ := List.mem_zipIdx hp
    exact ⟨hr _ (by rw [h3]; exact List.getElem_mem _), by omega⟩
  obtain ⟨T, acc, w, o1, o2, o3, hA, e1, e2, e3, e4⟩ := loop_text (ckx ft gl wf n) k v (row.map .str) row.zipIdx [] [] [] none none none st hk at_nil hz (by simp; omega) (by simp)
  obtain ⟨s, hs, hx⟩ := idx_mod (s := []) (xs := [[], [32], [10], [32, 9]]) (r := v) (m := 4) rfl (by decide)
  simp only [List.map_cons, List.map_nil] at hx
  have e5 : pcs (T ++ s) [] = row := by
    have h0 : acc ++ cut w = row := by simpa [cut] using e1
    rw [hA.1]
    simp only [List.mem_cons, List.not_mem_nil, or_false] at hs
    rcases hs with rfl | rfl | rfl | rfl
    · exact h0
    · have := pcs_blank [32] [] w (by simp) (by simp)
      rw [List.append_nil] at this
      rw [this, ← h0]
      simp [pcs, cut]
    · have := pcs_blank [10] [] w (by simp) (by simp)
      rw [List.append_nil] at this
      rw [this, ← h0]
      simp [pcs, cut]
    · have := pcs_blank [32, 9] [] w (by simp) (by simp)
      rw [List.append_nil] at this
      rw [this, ← h0]
      simp [pcs, cut]
  have ls : s.length ≤ 2 ∧ ∀ c ∈ s, c < 128 := by
    simp only [List.mem_cons, List.not_mem_nil, or_false] at hs
    rcases hs with rfl | rfl | rfl | rfl <;> simp
  simp only [List.length_nil, List.length_zipIdx] at e2
  refine ⟨T ++ s, e5, by simp; omega, fun c hc => ?_, ?_⟩
  · rcases List.mem_append.mp hc with z | z
    · exact e3 c z
    · exact ls.2 c z
  · obtain ⟨g, e4⟩ := e4
    have ls2 : T.length + s.length ≤ SL := by rw [SL_eq]; omega
    rw [callF_def hid rfl]
    have e6 : enumI 0 (row.map .str) = (row.zipIdx).map fun p => .tup [.int (p.2 : Nat), .str p.1] := enumI_map _ _ _
    simp [-List.append_assoc, -List.length_append, GQ.fn__law_text, enumG_ref hk, e6, e4, hx, ls2]
    exact Ends.of (by simp [List.append_assoc])
end
end SA
end
set_option maxRecDepth 100000
set_option maxHeartbeats 2000000
/-! SF: lists of a call's own. -/
noncomputable section
namespace SA
open GI PySem RA
def Cs (st : Store) (M : List (Nat × List PV)) : Prop := (M.map (·.1)).Nodup ∧ ∀ p ∈ M, st[p.1]? = some (.lst p.2)
/-- what stood stands, and the lists that are the call's own -/
def Lo (st0 st : Store) (M : List (Nat × List PV)) : Prop := st0 <+: st ∧ Cs st M ∧ ∀ p ∈ M, st0.length ≤ p.1
theorem lt_of_some {st : Store} {k : Nat} {c : Cell} (h : st[k]? = some c) : k < st.length := (List.getElem?_eq_some_iff.mp h).1
theorem Lo.start (st : Store) : Lo st st [] := ⟨List.prefix_refl _, ⟨List.nodup_nil, fun _ h => (nomatch h)⟩, fun _ h => (nomatch h)⟩
theorem Lo.app {st0 st : Store} {M : List (Nat × List PV)} (h : Lo st0 st M) (g : Store) : Lo st0 (st ++ g) M := by
  obtain ⟨h1, ⟨h2, h3⟩, h4⟩ := h
  refine ⟨h1.trans (List.prefix_append _ _), ⟨h2, fun p hp => ?_⟩, h4⟩
  rw [List.getElem?_append_left (lt_of_some (h3 p hp))]
  exact h3 p hp
theorem Lo.pre {st0 st : Store} {M : List (Nat × List PV)} (h : Lo st0 st M) : st0 <+: st := h.1
theorem Lo.old {st0 st : Store} {M : List (Nat × List PV)} (h : Lo st0 st M) {k : Nat} {c : Cell} (hk : st0[k]? = some c) : st[k]? = some c := by
  obtain ⟨g, rfl⟩ := h.1
  rw [List.getElem?_append_left (lt_of_some hk)]
  exact hk
theorem Lo.get {st0 st : Store} {M : List (Nat × List PV)} (h : Lo st0 st M) {p : Nat × List PV} (hp : p ∈ M) : st[p.1]? = some (.lst p.2) := h.2.1.2 p hp
theorem Lo.perm {st0 st : Store} {M M' : List (Nat × List PV)} (h : Lo st0 st M) (q : M.Perm M') : Lo st0 st M' :=
  ⟨h.1, ⟨(q.map _).nodup_iff.mp h.2.1.1, fun p hp => h.2.1.2 p (q.mem_iff.mpr hp)⟩, fun p hp => h.2.2 p (q.mem_iff.mpr hp)⟩
theorem Lo.sub {st0 st : Store} {M M' : List (Nat × List PV)} (h : Lo st0 st M) (q : List.Sublist M' M) : Lo st0 st M' :=
  ⟨h.1, ⟨h.2.1.1.sublist (q.map _), fun p hp => h.2.1.2 p (q.subset hp)⟩, fun p hp => h.2.2 p (q.subset hp)⟩
theorem Lo.new {st0 st : Store} {M : List (Nat × List PV)} (h : Lo st0 st M) (xs : List PV) : Lo st0 (st ++ [.lst xs]) ((st.length, xs) :: M) := by
  have h' := h.app [.lst xs]
  obtain ⟨h1, ⟨h2, h3⟩, h4⟩ := h
  refine ⟨h'.1, ⟨?_, fun p hp => ?_⟩, fun p hp => ?_⟩
  · rw [List.map_cons, List.nodup_cons]
    refine ⟨fun z => ?_, h2⟩
    obtain ⟨p, hp, e⟩ := List.mem_map.mp z
    have := lt_of_some (h3 p hp)
    omega
  · rcases List.mem_cons.mp hp with rfl | z
    · exact at_end
    · exact h'.2.1.2 p z
  · rcases List.mem_cons.mp hp with rfl | z
    · exact h1.length_le
    · exact h4 p z
theorem pre_set {st0 st : Store} {k : Nat} {c : Cell} (h : st0 <+: st) (hk : st0.length ≤ k) : st0 <+: st.set k c := by
  obtain ⟨g, rfl⟩ := h
  rw [List.set_append_right _ _ hk]
  exact List.prefix_append _ _
theorem Lo.upd {st0 st : Store} {k : Nat} {xs : List PV} {A B : List (Nat × List PV)} (h : Lo st0 st (A ++ (k, xs) :: B)) (ys : List PV) : Lo st0 (st.set k (.lst ys)) (A ++ (k, ys) :: B) := by
  obtain ⟨h1, ⟨h2, h3⟩, h4⟩ := h
  have hk : st0.length ≤ k := h4 (k, xs) (by simp)
  have hlt : k < st.length := lt_of_some (h3 (k, xs) (by simp))
  rw [List.map_append, List.map_cons] at h2
  refine ⟨pre_set h1 hk, ⟨by rw [List.map_append, List.map_cons]; exact h2, fun p hp => ?_⟩, fun p hp => ?_⟩
  · have nd : k ∉ A.map (·.1) ∧ k ∉ B.map (·.1) := by
      obtain ⟨_, q2, q3⟩ := List.nodup_append.mp h2
      rw [List.nodup_cons] at q2
      exact ⟨fun z => q3 k z k (by simp) rfl, q2.1⟩
    rcases List.mem_append.mp hp with z | z
    · have ne : k ≠ p.1 := fun e => nd.1 (List.mem_map.mpr ⟨p, z, e.symm⟩)
      rw [List.getElem?_set_ne ne]
      exact h3 p (List.mem_append_left _ z)
    · rcases List.mem_cons.mp z with rfl | z
      · simp [hlt]
      · have ne : k ≠ p.1 := fun e => nd.2 (List.mem_map.mpr ⟨p, z, e.symm⟩)
        rw [List.getElem?_set_ne ne]
        exact h3 p (by simp [z])
  · rcases List.mem_append.mp hp with z | z
    · exact h4 p (List.mem_append_left _ z)
    · rcases List.mem_cons.mp z with rfl | z
      · exact hk
      · exact h4 p (by simp [z])
theorem Lo.upd1 {st0 st : Store} {k : Nat} {xs : List PV} {B : List (Nat × List PV)} (h : Lo st0 st ((k, xs) :: B)) (ys : List PV) : Lo st0 (st.set k (.lst ys)) ((k, ys) :: B) := Lo.upd (A := []) h ys
theorem Lo.upd2 {st0 st : Store} {k : Nat} {xs : List PV} {a : Nat × List PV} {B : List (Nat × List PV)} (h : Lo st0 st (a :: (k, xs) :: B)) (ys : List PV) : Lo st0 (st.set k (.lst ys)) (a :: (k, ys) :: B) := Lo.upd (A := [a]) h ys
theorem atI_last {α : Type} (xs : List α) (x : α) : L2.atI (xs ++ [x]) (-1) = some x := by
  unfold L2.atI L2.ixN
  rw [if_neg (by omega), if_pos (by simp; omega)]
  have : ((-1 : Int) + ((xs ++ [x]).length : Nat)).toNat = xs.length := by simp; omega
  show (xs ++ [x])[((-1 : Int) + ((xs ++ [x]).length : Nat)).toNat]? = some x
  rw [this]
  simp
theorem Ends.bind {α : Type} {r : Res α} {v : α} {st : Store} (h : Ends r v st) {P : Prop} (k : ∀ g, r = .ok v (st ++ g) → P) : P := by
  obtain ⟨g, e⟩ := h
  exact k g e
end SA
end
set_option maxRecDepth 100000
set_option maxHeartbeats 2000000
/-! KA (k82): rows of sums and less: the tree by splitting is the tree that is read. -/
namespace K82
open GI PySem RA SA
inductive Itm where
  | f (x : Fm)
  | op (w : W)
def Itm.enc : Itm → PV
  | .f x => x.enc
  | .op w => .str w
def nest : List Fm → Fm
  | [] => fGap
  | a :: r => r.foldl fCall a
abbrev Su : Type := List Fm × List (W × List Fm)
def two (w : W) (a b : Fm) : Fm := if w = [43] then fPlus a b else fMinus a b
def sumsV (s : Su) : Fm := s.2.foldl (fun acc p => two p.1 acc (nest p.2)) (nest s.1)
def insideV (s : Su) (l : List Su) : Fm := l.foldl (fun acc s => fLess acc (sumsV s)) (sumsV s)
def dec : List Itm → Su × List Su
  | [] => (([], []), [])
  | .f x :: r => ((x :: (dec r).1.1, (dec r).1.2), (dec r).2)
  | .op w :: r => if w = [60] then (([], []), (dec r).1 :: (dec r).2) else (([], (w, (dec r).1.1) :: (dec r).1.2), (dec r).2)
def inside (is : List Itm) : Fm := insideV (dec is).1 (dec is).2
abbrev fs (l : List Fm) : List Itm := l.map .f
def flatP (l : List (W × List Fm)) : List Itm := l.flatMap fun p => .op p.1 :: fs p.2
def flatS (s : Su) : List Itm := fs s.1 ++ flatP s.2
def flatL (l : List Su) : List Itm := l.flatMap fun s => .op [60] :: flatS s
theorem dec_flat : ∀ is : List Itm, flatS (dec is).1 ++ flatL (dec is).2 = is
  | [] => rfl
  | .f x :: r => by
    have := dec_flat r
    conv => rhs; rw [← this]
    rfl
  | .op w :: r => by
    have := dec_flat r
    unfold dec
    by_cases h : w = [60]
    · rw [if_pos h]
      conv => rhs; rw [← this]
      subst h
      rfl
    · rw [if_neg h]
      conv => rhs; rw [← this]
      simp [flatS, flatP]
def Ops (is : List Itm) : Prop := ∀ w, Itm.op w ∈ is → w = [43] ∨ w = [45] ∨ w = [60]
theorem dec_ops : ∀ is : List Itm, Ops is → (∀ p ∈ (dec is).1.2, p.1 = [43] ∨ p.1 = [45]) ∧ ∀ s ∈ (dec is).2, ∀ p ∈ s.2, p.1 = [43] ∨ p.1 = [45]
  | [], _ => ⟨fun _ h => (nomatch h), fun _ h => (nomatch h)⟩
  | .f x :: r, h => dec_ops r fun w hw => h w (List.mem_cons_of_mem _ hw)
  | .op w :: r, h => by
    have ih := dec_ops r fun w hw => h w (List.mem_cons_of_mem _ hw)
    have hw := h w List.mem_cons_self
    unfold dec
    by_cases e : w = [60]
    · rw [if_pos e]
      refine ⟨fun _ h => (nomatch h), fun s hs => ?_⟩
      rcases List.mem_cons.mp hs with z | z
      · subst z
        exact ih.1
      · exact ih.2 s z
    · rw [if_neg e]
      refine ⟨fun p hp => ?_, ih.2⟩
      rcases List.mem_cons.mp hp with z | z
      · subst z
        rcases hw with z | z | z
        · exact .inl z
        · exact .inr z
        · exact absurd z e
      · exact ih.1 p z
/-! ### a stream of items -/
inductive Str (e : Nat) : List Itm → List W → List W → Prop
  | nil {ts} : beg ts [] = false → (∀ w, w = [43] ∨ w = [45] ∨ w = [60] → ts.head? ≠ some w) → Str e [] ts ts
  | f {x is ts ts' r} : beg ts [] = true → Rd e .part [] ts x ts' → Str e is ts' r → Str e (.f x :: is) ts r
  | op {w is ts r} : (w = [43] ∨ w = [45] ∨ w = [60]) → Str e is ts r → Str e (.op w :: is) (w :: ts) r
theorem beg_op {w : W} (ts : List W) (h : w = [43] ∨ w = [45] ∨ w = [60]) : beg (w :: ts) [] = false := by
  rcases h with rfl | rfl | rfl
  · have : RA.leafOf [43] [] = none := by decide +kernel
    show (decide (([43] : W) ∈ opens) || (RA.leafOf [43] []).isSome) = false
    rw [this]
    rfl
  · have : RA.leafOf [45] [] = none := by decide +kernel
    show (decide (([45] : W) ∈ opens) || (RA.leafOf [45] []).isSome) = false
    rw [this]
    rfl
  · have : RA.leafOf [60] [] = none := by decide +kernel
    show (decide (([60] : W) ∈ opens) || (RA.leafOf [60] []).isSome) = false
    rw [this]
    rfl
def NoF (rest : List Itm) : Prop := ∀ x is, rest ≠ .f x :: is
theorem str_nof {e : Nat} {is : List Itm} {ts r : List W} (h : Str e is ts r) (n : NoF is) : beg ts [] = false := by
  cases h with
  | nil h _ => exact h
  | f _ _ _ => exact absurd rfl (n _ _)
  | op hw _ => exact beg_op _ hw
theorem l1 {e : Nat} {rest : List Itm} {r : List W} (n : NoF rest) : ∀ (seg : List Fm) (ts : List W) (c : Fm), Str e (fs seg ++ rest) ts r → ∃ t1, Rd e (.callL c) [] ts (seg.foldl fCall c) t1 ∧ Str e rest t1 r
  | [], ts, c, h => ⟨ts, .callE (str_nof h n), h⟩
  | x :: seg, ts, c, h => by
    cases h with
    | f hb hp hs =>
      obtain ⟨t1, h1, h2⟩ := l1 n seg _ (fCall c x) hs
      exact ⟨t1, .callN hb hp h1, h2⟩
theorem l2 {e : Nat} {rest : List Itm} {r : List W} (n : NoF rest) (seg : List Fm) (ts : List W) (h : Str e (fs seg ++ rest) ts r) : ∃ t1, Rd (e + 1) .call [] ts (nest seg) t1 ∧ Str e rest t1 r := by
  cases seg with
  | nil => exact ⟨ts, .call (.gap (str_nof h n)) (.callE (str_nof h n)), h⟩
  | cons x seg =>
    cases h with
    | f hb hp hs =>
      obtain ⟨t1, h1, h2⟩ := l1 n seg _ x hs
      exact ⟨t1, .call hp h1, h2⟩
/-- nothing, or a less -/
def Le (rest : List Itm) : Prop := rest = [] ∨ ∃ is, rest = .op [60] :: is
theorem Le.nof {rest : List Itm} (h : Le rest) : NoF rest := by
  intro x is z
  rcases h with h | ⟨_, h⟩ <;> rw [h] at z <;> cases z
theorem l3 {e : Nat} {rest : List Itm} {r : List W} (n : Le rest) : ∀ (l : List (W × List Fm)) (ts : List W) (c : Fm), (∀ p ∈ l, p.1 = [43] ∨ p.1 = [45]) → Str e (flatP l ++ rest) ts r → ∃ t1, Rd (e + 1) (.sumL c) [] ts (l.foldl (fun acc p => two p.1 acc (nest p.2)) c) t1 ∧ Str e rest t1 r
  | [], ts, c, _, h => by
    refine ⟨ts, ?_, h⟩
    have h' : Str e rest ts r := h
    rcases n with rfl | ⟨is, rfl⟩
    · cases h' with
      | nil _ h2 => exact .sumE (h2 _ (.inl rfl)) (h2 _ (.inr (.inl rfl)))
    · cases h' with
      | op _ _ => exact .sumE (by simp) (by simp)
  | (w, seg) :: l, ts, c, hl, h => by
    have hw := hl _ List.mem_cons_self
    have e1 : flatP ((w, seg) :: l) ++ rest = .op w :: (fs seg ++ (flatP l ++ rest)) := by simp [flatP]
    rw [e1] at h
    cases h with
    | op _ hs =>
      have nf : NoF (flatP l ++ rest) := by
        cases l with
        | nil => exact n.nof
        | cons q l =>
          intro x is z
          simp [flatP] at z
      obtain ⟨t1, h1, h2⟩ := l2 nf seg _ hs
      obtain ⟨t2, h3, h4⟩ := l3 n l t1 (two w c (nest seg)) (fun p hp => hl p (List.mem_cons_of_mem _ hp)) h2
      refine ⟨t2, ?_, h4⟩
      rcases hw with z | z
      · simp only at z
        subst z
        exact .sumP h1 h3
      · simp only at z
        subst z
        exact .sumM h1 h3
theorem l4 {e : Nat} {rest : List Itm} {r : List W} (n : Le rest) (s : Su) (ts : List W) (hs : ∀ p ∈ s.2, p.1 = [43] ∨ p.1 = [45]) (h : Str e (flatS s ++ rest) ts r) : ∃ t1, Rd (e + 2) .sum [] ts (sumsV s) t1 ∧ Str e rest t1 r := by
  obtain ⟨seg, l⟩ := s
  have e1 : flatS (seg, l) ++ rest = fs seg ++ (flatP l ++ rest) := by simp [flatS]
  rw [e1] at h
  have nf : NoF (flatP l ++ rest) := by
    cases l with
    | nil => exact n.nof
    | cons q l =>
      intro x is z
      simp [flatP] at z
  obtain ⟨t1, h1, h2⟩ := l2 nf seg ts h
  obtain ⟨t2, h3, h4⟩ := l3 n l t1 (nest seg) hs h2
  exact ⟨t2, .sum h1 h3, h4⟩
theorem l5 {e : Nat} {r : List W} : ∀ (l : List Su) (ts : List W) (c : Fm), (∀ s ∈ l, ∀ p ∈ s.2, p.1 = [43] ∨ p.1 = [45]) → Str e (flatL l) ts r → Rd (e + 2) (.formL c) [] ts (l.foldl (fun acc s => fLess acc (sumsV s)) c) r
  | [], ts, c, _, h => by
    cases h with
    | nil _ h2 => exact .formE (h2 _ (.inr (.inr rfl)))
  | s :: l, ts, c, hl, h => by
    have e1 : flatL (s :: l) = .op [60] :: (flatS s ++ flatL l) := by simp [flatL]
    rw [e1] at h
    have le : Le (flatL l) := by
      cases l with
      | nil => exact .inl rfl
      | cons q l => exact .inr ⟨_, by simp [flatL]; rfl⟩
    cases h with
    | op _ hs =>
      obtain ⟨t1, h1, h2⟩ := l4 le s _ (hl s List.mem_cons_self) hs
      exact .formN h1 (l5 l t1 _ (fun s hs => hl s (List.mem_cons_of_mem _ hs)) h2)
theorem l6 {e : Nat} {is : List Itm} {ts r : List W} (ho : Ops is) (h : Str e is ts r) : Rd (e + 3) .form [] ts (inside is) r := by
  have hd := dec_ops is ho
  rw [← dec_flat is] at h
  have le : Le (flatL (dec is).2) := by
    cases (dec is).2 with
    | nil => exact .inl rfl
    | cons q l => exact .inr ⟨_, by simp [flatL]; rfl⟩
  obtain ⟨t1, h1, h2⟩ := l4 le (dec is).1 ts hd.1 h
  exact .form h1 (l5 (dec is).2 t1 _ hd.2 h2)
/-! ### brackets -/
inductive Seg : Nat → List Itm → List W → List W → Prop
  | nil {d ts} : (ts = [] ∨ ts.head? = some [41]) → Seg d [] ts ts
  | leaf {d w f is ts r} : RA.leafOf w [] = some f → Seg d is ts r → Seg d (.f f :: is) (w :: ts) r
  | op {d w is ts r} : (w = [43] ∨ w = [45] ∨ w = [60]) → Seg d is ts r → Seg d (.op w :: is) (w :: ts) r
  | par {d js is ts mid r} : Seg d js ts mid → Seg (d + 4) is (pastW mid [41]) r → Seg (d + 4) (.f (inside js) :: is) ([40] :: ts) r
theorem seg_ops {d : Nat} {is : List Itm} {ts r : List W} (h : Seg d is ts r) : Ops is := by
  induction h with
  | nil _ => exact fun _ h => (nomatch h)
  | leaf _ _ ih =>
    intro w hw
    rcases List.mem_cons.mp hw with z | z
    · cases z
    · exact ih w z
  | op h _ ih =>
    intro w hw
    rcases List.mem_cons.mp hw with z | z
    · cases z
      exact h
    · exact ih w z
  | par _ _ _ ih =>
    intro w hw
    rcases List.mem_cons.mp hw with z | z
    · cases z
    · exact ih w z
theorem seg_str {d : Nat} {is : List Itm} {ts r : List W} (h : Seg d is ts r) : Str d is ts r := by
  induction h with
  | nil h =>
    rcases h with rfl | h
    · exact .nil rfl (by simp)
    · rename_i ts
      cases ts with
      | nil => cases h
      | cons w ts =>
        cases h
        refine .nil ?_ ?_
        · have : RA.leafOf [41] [] = none := by decide +kernel
          show (decide (([41] : W) ∈ opens) || (RA.leafOf [41] []).isSome) = false
          rw [this]
          rfl
        · rintro w (rfl | rfl | rfl) <;> simp
  | leaf h _ ih => exact .f (by unfold beg; simp [h]) (.leaf h) ih
  | op h _ ih => exact .op h ih
  | par h _ ih1 ih2 => exact .f rfl ((Rd.paren (l6 (seg_ops h) ih1)).mono (by omega)) ih2
theorem seg_rd {d : Nat} {is : List Itm} {ts r : List W} (h : Seg d is ts r) : Rd (d + 3) .form [] ts (inside is) r := l6 (seg_ops h) (seg_str h)
theorem Seg.mono {d : Nat} {is : List Itm} {ts r : List W} (h : Seg d is ts r) : ∀ {e}, d ≤ e → Seg e is ts r := by
  induction h with
  | nil h => intro e _; exact .nil h
  | leaf h _ ih => intro e he; exact .leaf h (ih he)
  | op h _ ih => intro e he; exact .op h (ih he)
  | par _ _ ih1 ih2 =>
    intro e he
    obtain ⟨e, rfl⟩ : ∃ q, e = q + 4 := ⟨e - 4, by omega⟩
    exact .par (ih1 (by omega)) (ih2 (by omega))
/-- a row's word -/
def Tk (w : W) : Prop := w = [40] ∨ w = [41] ∨ (w = [43] ∨ w = [45] ∨ w = [60]) ∨ ∃ f, RA.leafOf w [] = some f
theorem pastW_suffix (m : List W) : pastW m [41] = m ∨ (∃ r, m = [41] :: r ∧ pastW m [41] = r) := by
  cases m with
  | nil => exact .inl rfl
  | cons v r =>
    by_cases h : v = [41]
    · right
      exact ⟨r, by rw [h], by show (if v = [41] then r else v :: r) = r; rw [if_pos h]⟩
    · left
      show (if v = [41] then r else v :: r) = _
      rw [if_neg h]
theorem seg_ex : ∀ (n : Nat) (ts : List W), ts.length ≤ n → (∀ w ∈ ts, Tk w) → ∃ is r, Seg (4 * n) is ts r ∧ r.length ≤ ts.length ∧ (∀ w ∈ r, Tk w) ∧ (r = [] ∨ r.head? = some [41])
  | n, [], _, _ => ⟨[], [], .nil (.inl rfl), Nat.le_refl _, fun _ h => (nomatch h), .inl rfl⟩
  | 0, _ :: _, h, _ => by simp at h
  | n + 1, w :: ts, hl, hk => by
    simp only [List.length_cons] at hl
    have hk' : ∀ v ∈ ts, Tk v := fun v hv => hk v (List.mem_cons_of_mem _ hv)
    rcases hk w List.mem_cons_self with rfl | rfl | h | ⟨f, h⟩
    · obtain ⟨js, mid, h1, h2, h3, h4⟩ := seg_ex n ts (by omega) hk'
      have lp : (pastW mid [41]).length ≤ n ∧ ∀ v ∈ pastW mid [41], Tk v := by
        rcases pastW_suffix mid with z | ⟨r, z1, z2⟩
        · rw [z]
          exact ⟨by omega, h3⟩
        · rw [z2]
          rw [z1] at h2 h3
          simp only [List.length_cons] at h2
          exact ⟨by omega, fun v hv => h3 v (List.mem_cons_of_mem _ hv)⟩
      obtain ⟨is, r, k1, k2, k3, k4⟩ := seg_ex n (pastW mid [41]) lp.1 lp.2
      have := pastW_len mid [41]
      exact ⟨_, r, show Seg (4 * n + 4) _ _ _ from .par h1 (k1.mono (by omega)), by simp only [List.length_cons]; omega, k3, k4⟩
    · exact ⟨[], _, .nil (.inr rfl), Nat.le_refl _, hk, .inr rfl⟩
    · obtain ⟨is, r, h1, h2, h3, h4⟩ := seg_ex n ts (by omega) hk'
      exact ⟨_, r, .op h (h1.mono (by omega)), by simp only [List.length_cons]; omega, h3, h4⟩
    · obtain ⟨is, r, h1, h2, h3, h4⟩ := seg_ex n ts (by omega) hk'
      exact ⟨_, r, .leaf h (h1.mono (by omega)), by simp only [List.length_cons]; omega, h3, h4⟩
/-! ### the stack -/
def put (S : List (List Itm)) (x : Itm) : List (List Itm) := match S with
  | t :: r => (t ++ [x]) :: r
  | [] => []
def shut (S : List (List Itm)) : List (List Itm) := match S with
  | t :: u :: r => (u ++ [.f (inside t)]) :: r
  | S => S
def step (S : List (List Itm)) (w : W) : List (List Itm) :=
  if w = [40] then [] :: S else if w = [41] then shut S else match RA.leafOf w [] with
  | some f => put S (.f f)
  | none => put S (.op w)
/-- all shut: the lowest's items -/
def low : List (List Itm) → List Itm
  | [] => []
  | [t] => t
  | t :: u :: r => low ((u ++ [.f (inside t)]) :: r)
termination_by S => S.length
def goes (S : List (List Itm)) (ts : List W) : List Itm := low (ts.foldl step S)
theorem step_leaf {S : List (List Itm)} {w : W} {f : Fm} (h : RA.leafOf w [] = some f) : step S w = put S (.f f) := by
  have no := leaf_opens h
  have n1 : w ≠ [40] := fun z => no (by rw [z]; decide)
  have n2 : w ≠ [41] := fun z => by
    rw [z] at h
    exact absurd (show RA.leafOf [41] [] = none by decide +kernel) (by rw [h]; simp)
  unfold step
  rw [if_neg n1, if_neg n2, h]
theorem step_op {S : List (List Itm)} {w : W} (h : w = [43] ∨ w = [45] ∨ w = [60]) : step S w = put S (.op w) := by
  have : RA.leafOf w [] = none := by rcases h with rfl | rfl | rfl <;> decide +kernel
  unfold step
  rw [if_neg (by rcases h with rfl | rfl | rfl <;> decide), if_neg (by rcases h with rfl | rfl | rfl <;> decide), this]
theorem goes_seg {d : Nat} {is : List Itm} {ts r : List W} (h : Seg d is ts r) : ∀ (t : List Itm) (S : List (List Itm)), goes (t :: S) ts = goes ((t ++ is) :: S) r := by
  induction h with
  | nil _ => intro t S; rw [List.append_nil]
  | @leaf d w f is ts r h _ ih =>
    intro t S
    show low (ts.foldl step (step (t :: S) w)) = _
    rw [step_leaf h]
    have := ih (t ++ [.f f]) S
    rw [List.append_assoc] at this
    exact this
  | @op d w is ts r h _ ih =>
    intro t S
    show low (ts.foldl step (step (t :: S) w)) = _
    rw [step_op h]
    have := ih (t ++ [.op w]) S
    rw [List.append_assoc] at this
    exact this
  | @par d js is ts mid r h1 h2 ih1 ih2 =>
    intro t S
    have e1 : goes (t :: S) ([40] :: ts) = goes ([] :: t :: S) ts := rfl
    rw [e1, ih1 [] (t :: S), List.nil_append]
    have e3 : goes (js :: t :: S) mid = goes ((t ++ [.f (inside js)]) :: S) (pastW mid [41]) := by
      have hm : mid = [] ∨ mid.head? = some [41] := by
        clear ih1 ih2 h2 e1
        induction h1 with
        | nil h => exact h
        | leaf _ _ ih => exact ih
        | op _ _ ih => exact ih
        | par _ _ _ ih => exact ih
      cases mid with
      | nil =>
        show low (js :: t :: S) = low ((t ++ [.f (inside js)]) :: S)
        conv => lhs; unfold low
      | cons v m =>
        rcases hm with z | z
        · cases z
        · cases z
          rfl
    rw [e3, ih2, List.append_assoc]
    rfl
/-- closes that close nothing are left out -/
theorem goes_held : ∀ (ts : List W) (t : List Itm) (S : List (List Itm)), goes (t :: S) ts = goes (t :: S) (hld ts S.length)
  | [], _, _ => rfl
  | w :: ts, t, S => by
    by_cases h1 : w = [41]
    · subst h1
      cases S with
      | nil =>
        show goes [t] ts = goes [t] (hld ts 0)
        exact goes_held ts t []
      | cons u S =>
        show goes ((u ++ [.f (inside t)]) :: S) ts = goes (t :: u :: S) (hld ([41] :: ts) (S.length + 1))
        have : hld ([41] :: ts) (S.length + 1) = [41] :: hld ts S.length := by simp [hld]
        rw [this]
        exact goes_held ts _ S
    · by_cases h2 : w = [40]
      · subst h2
        have : hld ([40] :: ts) S.length = [40] :: hld ts (S.length + 1) := by simp [hld]
        rw [this]
        exact goes_held ts [] (t :: S)
      · have : hld (w :: ts) S.length = w :: hld ts S.length := by simp [hld, h1, h2]
        rw [this]
        have e : ∃ t', step (t :: S) w = t' :: S := by
          unfold step
          rw [if_neg h2, if_neg h1]
          cases RA.leafOf w [] <;> exact ⟨_, rfl⟩
        obtain ⟨t', e⟩ := e
        show low (ts.foldl step (step (t :: S) w)) = low ((hld ts S.length).foldl step (step (t :: S) w))
        rw [e]
        exact goes_held ts t' S
def hb : Nat → List W → Bool
  | _, [] => true
  | d, w :: r => if w = [41] then (match d with
    | 0 => false
    | d + 1 => hb d r) else if w = [40] then hb (d + 1) r else hb d r
theorem hb_hld : ∀ (ts : List W) (d : Nat), hb d (hld ts d) = true
  | [], _ => rfl
  | w :: ts, d => by
    unfold hld
    by_cases h1 : w = [41]
    · rw [if_pos h1]
      cases d with
      | zero =>
        rw [if_pos rfl]
        exact hb_hld ts 0
      | succ d =>
        rw [if_neg (by omega)]
        unfold hb
        rw [if_pos h1]
        exact hb_hld ts d
    · rw [if_neg h1]
      by_cases h2 : w = [40]
      · rw [if_pos h2]
        unfold hb
        rw [if_neg h1, if_pos h2]
        exact hb_hld ts (d + 1)
      · rw [if_neg h2]
        unfold hb
        rw [if_neg h1, if_neg h2]
        exact hb_hld ts d
theorem hb_seg {d : Nat} {is : List Itm} {ts r : List W} (h : Seg d is ts r) : ∀ n, hb n ts = true → hb n r = true := by
  induction h with
  | nil _ => exact fun _ h => h
  | @leaf d w f is ts r h _ ih =>
    intro n hn
    have no := leaf_opens h
    have n1 : w ≠ [40] := fun z => no (by rw [z]; decide)
    have n2 : w ≠ [41] := fun z => by
      rw [z] at h
      exact absurd (show RA.leafOf [41] [] = none by decide +kernel) (by rw [h]; simp)
    unfold hb at hn
    rw [if_neg n2, if_neg n1] at hn
    exact ih n hn
  | @op d w is ts r h _ ih =>
    intro n hn
    unfold hb at hn
    rw [if_neg (by rcases h with rfl | rfl | rfl <;> decide), if_neg (by rcases h with rfl | rfl | rfl <;> decide)] at hn
    exact ih n hn
  | @par d js is ts mid r h1 h2 ih1 ih2 =>
    intro n hn
    have h3 : hb (n + 1) ts = true := hn
    have h4 := ih1 (n + 1) h3
    refine ih2 n ?_
    rcases pastW_suffix mid with z | ⟨m, z1, z2⟩
    · have hm : mid = [] ∨ mid.head? = some [41] := by
        clear ih1 ih2 h2 h3 h4 hn z
        induction h1 with
        | nil h => exact h
        | leaf _ _ ih => exact ih
        | op _ _ ih => exact ih
        | par _ _ _ ih => exact ih
      cases mid with
      | nil => rfl
      | cons v m =>
        rcases hm with y | y
        · cases y
        · cases y
          have : pastW ([41] :: m) [41] = m := rfl
          rw [this] at z
          have := congrArg List.length z
          simp at this
    · rw [z2]
      rw [z1] at h4
      exact h4
/-- the row by the stack is a row of items -/
theorem row_seg (ts : List W) (hk : ∀ w ∈ ts, Tk w) : Seg (4 * ts.length) (goes [[]] ts) (hld ts 0) [] := by
  have hk2 : ∀ w ∈ hld ts 0, Tk w := fun w hw => hk w (hld_mem _ _ _ hw)
  obtain ⟨is, r, h1, h2, h3, h4⟩ := seg_ex ts.length (hld ts 0) (hld_len ts 0) hk2
  have h5 := hb_seg h1 0 (hb_hld ts 0)
  have hr : r = [] := by
    rcases h4 with z | z
    · exact z
    · cases r with
      | nil => cases z
      | cons v m =>
        cases z
        cases h5
  subst hr
  have e : goes [[]] ts = is := by
    rw [goes_held ts [] []]
    show goes [[]] (hld ts 0) = _
    rw [goes_seg h1 [] []]
    show low [[] ++ is] = is
    simp [low]
  rw [e]
  exact h1
end K82
set_option maxRecDepth 100000
set_option maxHeartbeats 2000000
/-! KB (k82): the law's own splitting, run. -/
noncomputable section
namespace K82
open GI PySem RA SA
/-! ### sizes -/
def Itm.Ok : Itm → Prop
  | .f x => x.Ok
  | .op w => w = [43] ∨ w = [45] ∨ w = [60]
def wt : Itm → Nat
  | .f x => x.dp + 1
  | .op _ => 1
def wts (is : List Itm) : Nat := (is.map wt).sum
theorem wts_app (a b : List Itm) : wts (a ++ b) = wts a + wts b := by simp [wts]
theorem ok_gap : fGap.Ok := ⟨by decide +kernel, gn_non⟩
theorem nest_dp : ∀ seg : List Fm, (nest seg).dp ≤ wts (fs seg)
  | [] => Nat.zero_le _
  | a :: r => by
    have k : ∀ (r : List Fm) (c : Fm), (r.foldl fCall c).dp ≤ c.dp + wts (fs r) := fun r => by
      induction r with
      | nil => intro c; exact Nat.le_refl _
      | cons x r ih =>
        intro c
        have := ih (fCall c x)
        simp only [List.foldl_cons]
        have e : (fCall c x).dp = max c.dp x.dp + 1 := rfl
        have e2 : wts (fs (x :: r)) = (x.dp + 1) + wts (fs r) := by simp [wts, wt]
        omega
    have := k r a
    have e2 : wts (fs (a :: r)) = (a.dp + 1) + wts (fs r) := by simp [wts, wt]
    show (r.foldl fCall a).dp ≤ _
    omega
theorem sums_dp (s : Su) : (sumsV s).dp ≤ wts (flatS s) := by
  have k : ∀ (l : List (W × List Fm)) (c : Fm), (l.foldl (fun acc p => two p.1 acc (nest p.2)) c).dp ≤ c.dp + wts (flatP l) := fun l => by
    induction l with
    | nil => intro c; exact Nat.le_refl _
    | cons p l ih =>
      intro c
      have h1 := ih (two p.1 c (nest p.2))
      have h2 := nest_dp p.2
      have e : (two p.1 c (nest p.2)).dp = max c.dp (nest p.2).dp + 1 := by unfold two; split <;> rfl
      have e2 : wts (flatP (p :: l)) = 1 + wts (fs p.2) + wts (flatP l) := by simp [wts, wt, flatP]; omega
      simp only [List.foldl_cons]
      omega
  have h1 := k s.2 (nest s.1)
  have h2 := nest_dp s.1
  unfold flatS
  rw [wts_app]
  show (s.2.foldl _ (nest s.1)).dp ≤ _
  omega
theorem inside_dp (is : List Itm) : (inside is).dp ≤ wts is := by
  have k : ∀ (l : List Su) (c : Fm), (l.foldl (fun acc s => fLess acc (sumsV s)) c).dp ≤ c.dp + wts (flatL l) := fun l => by
    induction l with
    | nil => intro c; exact Nat.le_refl _
    | cons p l ih =>
      intro c
      have h1 := ih (fLess c (sumsV p))
      have h2 := sums_dp p
      have e : (fLess c (sumsV p)).dp = max c.dp (sumsV p).dp + 1 := rfl
      have e2 : wts (flatL (p :: l)) = 1 + wts (flatS p) + wts (flatL l) := by simp [wts, wt, flatL]; omega
      simp only [List.foldl_cons]
      omega
  have h1 := k (dec is).2 (sumsV (dec is).1)
  have h2 := sums_dp (dec is).1
  have h3 := wts_app (flatS (dec is).1) (flatL (dec is).2)
  rw [dec_flat] at h3
  show ((dec is).2.foldl _ (sumsV (dec is).1)).dp ≤ _
  omega
theorem call_ok {a b : Fm} (ha : a.Ok) (hb : b.Ok) : (fCall a b).Ok := ⟨by decide +kernel, gn_non, ha, hb⟩
theorem less_ok {a b : Fm} (ha : a.Ok) (hb : b.Ok) : (fLess a b).Ok := ⟨by decide +kernel, gn_non, ha, hb⟩
theorem two_ok {w : W} {a b : Fm} (ha : a.Ok) (hb : b.Ok) : (two w a b).Ok := by
  unfold two
  split
  · exact ⟨by decide +kernel, gn_non, ha, hb⟩
  · exact ⟨by decide +kernel, gn_non, ha, hb⟩
theorem nest_ok : ∀ seg : List Fm, (∀ x ∈ seg, x.Ok) → (nest seg).Ok
  | [], _ => ok_gap
  | a :: r, h => by
    have k : ∀ (r : List Fm) (c : Fm), c.Ok → (∀ x ∈ r, x.Ok) → (r.foldl fCall c).Ok := fun r => by
      induction r with
      | nil => intro c hc _; exact hc
      | cons x r ih => intro c hc hr; exact ih _ (call_ok hc (hr x List.mem_cons_self)) fun y hy => hr y (List.mem_cons_of_mem _ hy)
    exact k r a (h a List.mem_cons_self) fun y hy => h y (List.mem_cons_of_mem _ hy)
theorem mem_fs {x : Fm} {seg : List Fm} (h : x ∈ seg) : Itm.f x ∈ fs seg := List.mem_map.mpr ⟨x, h, rfl⟩
theorem sums_ok (s : Su) (h : ∀ x, Itm.f x ∈ flatS s → x.Ok) : (sumsV s).Ok := by
  have k : ∀ (l : List (W × List Fm)) (c : Fm), c.Ok → (∀ p ∈ l, ∀ x ∈ p.2, x.Ok) → (l.foldl (fun acc p => two p.1 acc (nest p.2)) c).Ok := fun l => by
    induction l with
    | nil => intro c hc _; exact hc
    | cons p l ih => intro c hc hl; exact ih _ (two_ok hc (nest_ok _ (hl p List.mem_cons_self))) fun q hq => hl q (List.mem_cons_of_mem _ hq)
  refine k s.2 _ (nest_ok _ fun x hx => h x (List.mem_append_left _ (mem_fs hx))) fun p hp x hx => h x (List.mem_append_right _ ?_)
  exact List.mem_flatMap.mpr ⟨p, hp, List.mem_cons_of_mem _ (mem_fs hx)⟩
theorem inside_ok (is : List Itm) (h : ∀ x, Itm.f x ∈ is → x.Ok) : (inside is).Ok := by
  have k : ∀ (l : List Su) (c : Fm), c.Ok → (∀ s ∈ l, (sumsV s).Ok) → (l.foldl (fun acc s => fLess acc (sumsV s)) c).Ok := fun l => by
    induction l with
    | nil => intro c hc _; exact hc
    | cons p l ih => intro c hc hl; exact ih _ (less_ok hc (hl p List.mem_cons_self)) fun q hq => hl q (List.mem_cons_of_mem _ hq)
  have hf := dec_flat is
  refine k (dec is).2 _ (sums_ok _ fun x hx => h x (by rw [← hf]; exact List.mem_append_left _ hx)) fun s hs => sums_ok s fun x hx => h x ?_
  rw [← hf]
  exact List.mem_append_right _ (List.mem_flatMap.mpr ⟨s, hs, List.mem_cons_of_mem _ hx⟩)
/-! ### nest -/
section
variable {ft : Nat → Option Fn} {gl : Nat → Option PV} {wf n : Nat} {st : Store}
theorem mapM_forms (st : Store) : ∀ seg : List Fm, (∀ x ∈ seg, x.Ok ∧ x.dp ≤ 90) → ∃ ds, (seg.map Fm.enc).mapM (dataOf st 189) = some ds ∧ PyData.canLayAll0 ds = true ∧ ds.length = seg.length
  | [], _ => ⟨[], rfl, by decide +kernel, rfl⟩
  | x :: r, h => by
    obtain ⟨ds, h1, h2, h3⟩ := mapM_forms st r fun y hy => h y (List.mem_cons_of_mem _ hy)
    obtain ⟨hx, hd⟩ := h x List.mem_cons_self
    obtain ⟨d, e1, e2⟩ := datum x hx
    refine ⟨.tuple d :: ds, ?_, ?_, by simp [h3]⟩
    · rw [List.map_cons, List.mapM_cons, e1 st 189 (by omega), h1]
      rfl
    · unfold PyData.canLayAll0
      rw [e2, h2]
      rfl
theorem eq_nil {a b : Nat} {seg : List Fm} (h : ∀ x ∈ seg, x.Ok ∧ x.dp ≤ 90) (ha : st[a]? = some (.lst (seg.map Fm.enc))) (hb : st[b]? = some (.lst [])) : eqF (.ref a) (.ref b) st = some (decide (seg = [])) := by
  obtain ⟨ds, h1, h2, h3⟩ := mapM_forms st seg h
  have e : ∀ (k : Nat) (xs : List PV), st[k]? = some (.lst xs) → dataOf st 190 (.ref k) = (xs.mapM (dataOf st 189)).map .list := fun k xs hk => by
    have e : dataOf st 190 (.ref k) = match st[k]? with
      | some (.lst xs) => (xs.mapM (dataOf st 189)).map PyData.list
      | _ => none := by
      conv => lhs; unfold dataOf
      try rfl
    rw [e, hk]
  have ea : dataOf st 190 (.ref a) = some (.list ds) := by rw [e a _ ha, h1]; rfl
  have eb : dataOf st 190 (.ref b) = some (.list []) := by rw [e b _ hb]; rfl
  have la : (PyData.list ds).canLay0 = true := by unfold PyData.canLay0; exact h2
  have lb : (PyData.list []).canLay0 = true := by decide +kernel
  have ev : PyData.eqv (.list ds) (.list []) = decide (seg = []) := by
    unfold PyData.eqv
    cases ds with
    | nil =>
      have : seg = [] := List.length_eq_zero_iff.mp h3.symm
      subst this
      rfl
    | cons d ds =>
      cases seg with
      | nil => cases h3
      | cons x r => rfl
  unfold eqF
  rw [ea, eb]
  simp only [scalP, la, lb, ev, Bool.and_self, if_true]
  rfl
theorem loop_nest (cx : Ck) (k : Nat) (full : List PV) (a : Option PV) : ∀ (seg : List Fm) (c : Fm) (o : Option PV) (st : Store), st[k]? = some (.lst full) → ∃ o', forL [(k, full)] (.one 2) (xSs cx L82.b__law_nest0) (seg.map Fm.enc) [a, some c.enc, o] st = .ok (.nx, [a, some (seg.foldl fCall c).enc, o']) st
  | [], c, o, st, hk => ⟨o, by rw [List.map_nil, forL_nil, if_pos (keeps_one hk)]; rfl⟩
  | x :: seg, c, o, st, hk => by
    obtain ⟨o', ih⟩ := loop_nest cx k full a seg (fCall c x) (some x.enc) st hk
    refine ⟨o', ?_⟩
    rw [List.map_cons, forL_cons, if_pos (keeps_one hk)]
    have e : xSs cx L82.b__law_nest0 [a, some c.enc, some x.enc] st = .ok (.nx, [a, some (fCall c x).enc, some x.enc]) st := by
      simp [L82.b__law_nest0, fCall, Fm.enc]
    simp only [bindTg_one, List.set_cons_succ, List.set_cons_zero]
    rw [e]
    exact ih
theorem law_nest {id : Nat} (hid : ft id = some L82.fn__law_nest) (seg : List Fm) (k : Nat) (st : Store) (hk : st[k]? = some (.lst (seg.map Fm.enc))) (h : ∀ x ∈ seg, x.Ok ∧ x.dp ≤ 90) : Ends (callF ft gl wf (n + 1) id [.ref k] st) (nest seg).enc st := by
  have hk1 : (st ++ [Cell.lst []])[k]? = some (.lst (seg.map Fm.enc)) := by rw [List.getElem?_append_left (lt_of_some hk)]; exact hk
  have e0 := eq_nil (a := k) (b := st.length) h hk1 at_end
  rw [callF_def hid rfl]
  cases seg with
  | nil =>
    simp [-List.append_assoc, -List.length_append, L82.fn__law_nest, e0, nest, fGap, Fm.enc]
    exact Ends.of (by simp)
  | cons x r =>
    rw [decide_eq_false (show ¬ (x :: r = []) from fun z => by cases z)] at e0
    have i0 : idxF (.ref k) (.int 0) (st ++ [Cell.lst []]) = .ok x.enc (st ++ [Cell.lst []]) := by
      rw [idxR hk1, show (0 : Int) = ((0 : Nat) : Int) from rfl, atI_nat]
      rfl
    have cp : cutP (x.enc :: r.map Fm.enc) (some 1) none = r.map Fm.enc := cutP_from ((x :: r).map Fm.enc) 1
    obtain ⟨o', lp⟩ := loop_nest (ckx ft gl wf n) (st ++ [Cell.lst []]).length (r.map Fm.enc) (some (.ref k)) r x none (st ++ [Cell.lst []] ++ [.lst (r.map Fm.enc)]) at_end
    simp [-List.append_assoc, -List.length_append, L82.fn__law_nest, e0, i0, slcR hk1, cp, walkG_ref at_end, lp]
    exact Ends.of (by simp [List.append_assoc])
/-! ### the splitting loops -/
def Small (its : List Itm) : Prop := ∀ x, Itm.f x ∈ its → x.Ok ∧ x.dp ≤ 90
abbrev encs (is : List Itm) : List PV := is.map Itm.enc
theorem last_ref {st0 st : Store} {k : Nat} {rs : List Nat} {r : Nat} {X : List (Nat × List PV)} (h : Lo st0 st ((k, (rs ++ [r]).map .ref) :: X)) : idxF (.ref k) (.int (-1)) st = .ok (.ref r) st := by
  rw [idxR (h.get (p := (k, (rs ++ [r]).map .ref)) List.mem_cons_self), List.map_append, List.map_singleton, atI_last]
  rfl
theorem zsnoc {α : Type} {rs : List Nat} {r : Nat} {ls : List α} {x : α} (h : rs.length = ls.length) : (rs ++ [r]).zip (ls ++ [x]) = rs.zip ls ++ [(r, x)] := by
  rw [List.zip_append h]
  rfl
/-- a new list, put behind the others -/
theorem Lo.push {st0 st : Store} {k : Nat} {rs : List Nat} {r : Nat} {lls : List (List PV)} {seg : List PV} {X : List (Nat × List PV)} (h : Lo st0 st ((k, (rs ++ [r]).map .ref) :: (r, seg) :: (rs.zip lls ++ X))) (hn : rs.length = lls.length) :
    Lo st0 ((st ++ [Cell.lst []]).set k (.lst ((rs ++ [r]).map .ref ++ [.ref st.length]))) ((k, ((rs ++ [r]) ++ [st.length]).map .ref) :: (st.length, []) :: ((rs ++ [r]).zip (lls ++ [seg]) ++ X)) := by
  have h1 := (h.new []).perm (List.Perm.swap _ _ _)
  have h2 := h1.upd1 ((rs ++ [r]).map .ref ++ [.ref st.length])
  have e : ((rs ++ [r]) ++ [st.length]).map PV.ref = (rs ++ [r]).map .ref ++ [.ref st.length] := by rw [List.map_append, List.map_singleton]
  rw [e]
  refine h2.perm (.cons _ (.cons _ ?_))
  rw [zsnoc hn, List.append_assoc]
  exact (List.perm_middle (l₁ := rs.zip lls)).symm
theorem dec_other {y : Itm} {r : List Itm} (h : ∀ w, y = .op w → w ≠ [60]) : flatS (dec (y :: r)).1 = y :: flatS (dec r).1 ∧ (dec (y :: r)).2 = (dec r).2 := by
  cases y with
  | f x => exact ⟨rfl, rfl⟩
  | op w =>
    have hw := h w rfl
    have e : dec (.op w :: r) = (([], (w, (dec r).1.1) :: (dec r).1.2), (dec r).2) := by
      conv => lhs; unfold dec
      rw [if_neg hw]
    rw [e]
    exact ⟨by simp [flatS, flatP], rfl⟩
theorem loop_inside (cx : Ck) (st0 : Store) (k0 k : Nat) (full : List PV) (hk0 : st0[k0]? = some (.lst full)) (a b : Option PV) : ∀ (its : List Itm) (rs : List Nat) (r : Nat) (lls : List (List Itm)) (seg : List Itm) (o : Option PV) (st : Store),
    Lo st0 st ((k, (rs ++ [r]).map .ref) :: (r, encs seg) :: rs.zip (lls.map encs)) → rs.length = lls.length → Small its → seg.length + its.length ≤ 1000 → lls.length + its.length ≤ 1000 →
    ∃ (rs' : List Nat) (r' : Nat) (lls' : List (List Itm)) (seg' : List Itm) (o' : Option PV) (st' : Store),
      forL [(k0, full)] (.one 2) (xSs cx L82.b__law_inside1) (its.map Itm.enc) [some (.ref k0), some (.ref k), o, a, b] st = .ok (.nx, [some (.ref k0), some (.ref k), o', a, b]) st' ∧
      Lo st0 st' ((k, (rs' ++ [r']).map .ref) :: (r', encs seg') :: rs'.zip (lls'.map encs)) ∧ rs'.length = lls'.length ∧ lls' ++ [seg'] = lls ++ (seg ++ flatS (dec its).1) :: (dec its).2.map flatS
  | [], rs, r, lls, seg, o, st, hL, hn, _, _, _ => ⟨rs, r, lls, seg, o, st, by rw [List.map_nil, forL_nil, if_pos (keeps_one (hL.old hk0))], hL, hn, by simp [dec, flatS, flatP]⟩
  | y :: its, rs, r, lls, seg, o, st, hL, hn, hs, l1, l2 => by
    simp only [List.length_cons] at l1 l2
    have hs' : Small its := fun x hx => hs x (List.mem_cons_of_mem _ hx)
    by_cases hy : y = .op [60]
    · subst hy
      have step : xSs cx L82.b__law_inside1 [some (.ref k0), some (.ref k), some (.str [60]), a, b] st = .ok (.nx, [some (.ref k0), some (.ref k), some (.str [60]), a, b]) ((st ++ [Cell.lst []]).set k (.lst ((rs ++ [r]).map .ref ++ [.ref st.length]))) := by
        have c := (hL.app [Cell.lst []]).get (p := (k, (rs ++ [r]).map .ref)) List.mem_cons_self
        have lt : ((rs ++ [r]).map PV.ref).length < SL := by rw [SL_eq]; simp; omega
        have c0 := hL.get (p := (k, (rs ++ [r]).map .ref)) List.mem_cons_self
        simp only [List.map_append, List.map_cons, List.map_nil, List.length_append, List.length_map, List.length_cons, List.length_nil] at c c0 lt
        simp [-List.append_assoc, L82.b__law_inside1, isLst_ref c, isLst_ref c0, mt_append c, lt]
      have hL2 := Lo.push (X := []) (lls := lls.map encs) (by rw [List.append_nil]; exact hL) (by simpa using hn)
      rw [List.append_nil] at hL2
      obtain ⟨rs', r', lls', seg', o', st', e1, e2, e3, e4⟩ := loop_inside cx st0 k0 k full hk0 a b its (rs ++ [r]) st.length (lls ++ [seg]) [] (some (.str [60])) _ (by rw [show (lls ++ [seg]).map encs = lls.map encs ++ [encs seg] from by simp]; exact hL2) (by simp [hn]) hs' (by simp; omega) (by simp; omega)
      refine ⟨rs', r', lls', seg', o', st', ?_, e2, e3, ?_⟩
      · rw [List.map_cons, forL_cons, if_pos (keeps_one (hL.old hk0))]
        simp only [bindTg_one, List.set_cons_succ, List.set_cons_zero, Itm.enc]
        rw [step]
        exact e1
      · rw [e4]
        simp [dec, flatS, flatP]
    · have ey : ∀ s : Store, eqF y.enc (.str [60]) s = some false := fun s => by
        cases y with
        | f x => exact eq_text (hs x List.mem_cons_self).1 (hs x List.mem_cons_self).2 ok60 s
        | op w =>
          show some (w == [60]) = _
          rw [beq_dec, decide_eq_false fun z => hy (by rw [z])]
      have step : xSs cx L82.b__law_inside1 [some (.ref k0), some (.ref k), some y.enc, a, b] st = .ok (.nx, [some (.ref k0), some (.ref k), some y.enc, a, b]) (st.set r (.lst (encs (seg ++ [y])))) := by
        have c := hL.get (p := (r, encs seg)) (by simp)
        have lt : seg.length < SL := by rw [SL_eq]; omega
        simp [-List.append_assoc, L82.b__law_inside1, ey, last_ref hL, isLst_ref c, mt_append c, lt]
      have hL2 := hL.upd2 (encs (seg ++ [y]))
      obtain ⟨rs', r', lls', seg', o', st', e1, e2, e3, e4⟩ := loop_inside cx st0 k0 k full hk0 a b its rs r lls (seg ++ [y]) (some y.enc) _ hL2 hn hs' (by simp; omega) (by omega)
      refine ⟨rs', r', lls', seg', o', st', ?_, e2, e3, ?_⟩
      · rw [List.map_cons, forL_cons, if_pos (keeps_one (hL.old hk0))]
        simp only [bindTg_one, List.set_cons_succ, List.set_cons_zero]
        rw [step]
        exact e1
      · obtain ⟨d1, d2⟩ := dec_other (y := y) (r := its) fun w z => fun z2 => hy (by rw [z, z2])
        rw [e4, d1, d2]
        simp
def nm (w : W) : W := if w = [45] then [109, 105, 110, 117, 115] else [112, 108, 117, 115]
theorem loop_sums (cx : Ck) (st0 : Store) (k0 k ks : Nat) (full : List PV) (hk0 : st0[k0]? = some (.lst full)) (a b c : Option PV) : ∀ (its : List Itm) (rs : List Nat) (r : Nat) (lls : List (List Fm)) (seg : List Fm) (sg : List W) (o : Option PV) (st : Store),
    Lo st0 st ((k, (rs ++ [r]).map .ref) :: (r, seg.map Fm.enc) :: (rs.zip (lls.map fun l => l.map Fm.enc) ++ [(ks, sg.map .str)])) → rs.length = lls.length → Small its → (∀ w, Itm.op w ∈ its → w = [43] ∨ w = [45]) → seg.length + its.length ≤ 1000 → lls.length + its.length ≤ 1000 → sg.length + its.length ≤ 1000 →
    ∃ (rs' : List Nat) (r' : Nat) (lls' : List (List Fm)) (seg' : List Fm) (o' : Option PV) (st' : Store),
      forL [(k0, full)] (.one 3) (xSs cx L82.b__law_sums1) (its.map Itm.enc) [some (.ref k0), some (.ref k), some (.ref ks), o, a, b, c] st = .ok (.nx, [some (.ref k0), some (.ref k), some (.ref ks), o', a, b, c]) st' ∧
      Lo st0 st' ((k, (rs' ++ [r']).map .ref) :: (r', seg'.map Fm.enc) :: (rs'.zip (lls'.map fun l => l.map Fm.enc) ++ [(ks, (sg ++ (dec its).1.2.map fun p => nm p.1).map .str)])) ∧ rs'.length = lls'.length ∧ lls' ++ [seg'] = lls ++ (seg ++ (dec its).1.1) :: (dec its).1.2.map (·.2)
  | [], rs, r, lls, seg, sg, o, st, hL, hn, _, _, _, _, _ => ⟨rs, r, lls, seg, o, st, by rw [List.map_nil, forL_nil, if_pos (keeps_one (hL.old hk0))], by simpa [dec] using hL, hn, by simp [dec]⟩
  | .op w :: its, rs, r, lls, seg, sg, o, st, hL, hn, hs, ho, l1, l2, l3 => by
    simp only [List.length_cons] at l1 l2 l3
    have hs' : Small its := fun x hx => hs x (List.mem_cons_of_mem _ hx)
    have ho' : ∀ w, Itm.op w ∈ its → w = [43] ∨ w = [45] := fun x hx => ho x (List.mem_cons_of_mem _ hx)
    have hw := ho w List.mem_cons_self
    have hw2 : w ≠ [60] := by rcases hw with rfl | rfl <;> decide
    have ei : ∀ s : Store, inF (.str w) (.ref s.length) (s ++ [.lst [.str [43], .str [45]]]) = some true := fun s => by
      have := inF_items (x := w) (xs := [[43], [45]]) (items_ref (st := s ++ [Cell.lst [.str [43], .str [45]]]) at_end)
      rw [this, decide_eq_true (by simpa using hw)]
    have hL2 := (hL.app [.lst [.str [43], .str [45]]]).app [.lst [.str [112, 108, 117, 115], .str [109, 105, 110, 117, 115]]]
    have hL3 := Lo.upd (A := (k, (rs ++ [r]).map .ref) :: (r, seg.map Fm.enc) :: rs.zip (lls.map fun l => l.map Fm.enc)) (B := []) hL2 ((sg ++ [nm w]).map .str)
    have hL4 := Lo.push (X := [(ks, (sg ++ [nm w]).map .str)]) hL3 (by simpa using hn)
    have c1 := (hL.app [.lst [.str [43], .str [45]]]).get (p := (ks, sg.map .str)) (by simp)
    have c2 := hL2.get (p := (ks, sg.map .str)) (by simp)
    have c3 := hL3.get (p := (k, (rs ++ [r]).map .ref)) (by simp)
    have c4 := (hL3.app [.lst []]).get (p := (k, (rs ++ [r]).map .ref)) (by simp)
    simp only at c1 c2 c3 c4
    have m2 : mtF .append (.ref ks) [.str (nm w)] (st ++ [Cell.lst [.str [43], .str [45]]] ++ [Cell.lst [.str [112, 108, 117, 115], .str [109, 105, 110, 117, 115]]]) = .ok .non ((st ++ [Cell.lst [.str [43], .str [45]]] ++ [Cell.lst [.str [112, 108, 117, 115], .str [109, 105, 110, 117, 115]]]).set ks (.lst ((sg ++ [nm w]).map .str))) := by
      rw [mt_append c2, if_pos (by rw [SL_eq, List.length_map]; omega), List.map_append]
      rfl
    generalize (st ++ [Cell.lst [.str [43], .str [45]]] ++ [Cell.lst [.str [112, 108, 117, 115], .str [109, 105, 110, 117, 115]]]).set ks (.lst ((sg ++ [nm w]).map .str)) = s3 at m2 c3 c4 hL3 hL4
    have m4 : mtF .append (.ref k) [.ref s3.length] (s3 ++ [Cell.lst []]) = .ok .non ((s3 ++ [Cell.lst []]).set k (.lst ((rs ++ [r]).map .ref ++ [.ref s3.length]))) := by
      rw [mt_append c4, if_pos (by rw [SL_eq, List.length_map]; simp; omega)]
    generalize (s3 ++ [Cell.lst []]).set k (.lst ((rs ++ [r]).map .ref ++ [.ref s3.length])) = s5 at m4 hL4
    have step : xSs cx L82.b__law_sums1 [some (.ref k0), some (.ref k), some (.ref ks), some (.str w), a, b, c] st = .ok (.nx, [some (.ref k0), some (.ref k), some (.ref ks), some (.str w), a, b, c]) s5 := by
      rcases hw with rfl | rfl
      · have m2' : mtF .append (.ref ks) [.str [112, 108, 117, 115]] (st ++ [Cell.lst [.str [43], .str [45]]] ++ [Cell.lst [.str [112, 108, 117, 115], .str [109, 105, 110, 117, 115]]]) = .ok .non s3 := m2
        simp [-List.append_assoc, -List.length_append, L82.b__law_sums1, ei, isLst_ref c1, m2', isLst_ref c3, m4]
      · have m2' : mtF .append (.ref ks) [.str [109, 105, 110, 117, 115]] (st ++ [Cell.lst [.str [43], .str [45]]] ++ [Cell.lst [.str [112, 108, 117, 115], .str [109, 105, 110, 117, 115]]]) = .ok .non s3 := m2
        simp [-List.append_assoc, -List.length_append, L82.b__law_sums1, ei, isLst_ref c1, m2', isLst_ref c3, m4]
    obtain ⟨rs', r', lls', seg', o', st', e1, e2, e3, e4⟩ := loop_sums cx st0 k0 k ks full hk0 a b c its (rs ++ [r]) _ (lls ++ [seg]) [] (sg ++ [nm w]) (some (.str w)) _ (by rw [show (lls ++ [seg]).map (fun l => l.map Fm.enc) = (lls.map fun l => l.map Fm.enc) ++ [seg.map Fm.enc] from by simp]; exact hL4) (by simp [hn]) hs' ho' (by simp; omega) (by simp; omega) (by simp; omega)
    have ed : (dec (.op w :: its)).1 = ([], (w, (dec its).1.1) :: (dec its).1.2) := by
      conv => lhs; unfold dec
      rw [if_neg hw2]
    refine ⟨rs', r', lls', seg', o', st', ?_, ?_, e3, ?_⟩
    · rw [List.map_cons, forL_cons, if_pos (keeps_one (hL.old hk0))]
      simp only [bindTg_one, List.set_cons_succ, List.set_cons_zero, Itm.enc]
      rw [step]
      exact e1
    · rw [ed]
      simpa using e2
    · rw [e4, ed]
      simp
  | .f x :: its, rs, r, lls, seg, sg, o, st, hL, hn, hs, ho, l1, l2, l3 => by
    simp only [List.length_cons] at l1 l2 l3
    have hs' : Small its := fun x hx => hs x (List.mem_cons_of_mem _ hx)
    have ho' : ∀ w, Itm.op w ∈ its → w = [43] ∨ w = [45] := fun x hx => ho x (List.mem_cons_of_mem _ hx)
    have hx := hs x List.mem_cons_self
    have ei : ∀ s : Store, inF x.enc (.ref s.length) (s ++ [.lst [.str [43], .str [45]]]) = some false := fun s => in_texts (ws := [[43], [45]]) hx.1 hx.2 (by decide +kernel) at_end
    have hL1 := hL.app [.lst [.str [43], .str [45]]]
    have step : xSs cx L82.b__law_sums1 [some (.ref k0), some (.ref k), some (.ref ks), some x.enc, a, b, c] st = .ok (.nx, [some (.ref k0), some (.ref k), some (.ref ks), some x.enc, a, b, c]) ((st ++ [Cell.lst [.str [43], .str [45]]]).set r (.lst ((seg ++ [x]).map Fm.enc))) := by
      have c := hL1.get (p := (r, seg.map Fm.enc)) (by simp)
      have lt : seg.length < SL := by rw [SL_eq]; omega
      simp [-List.append_assoc, L82.b__law_sums1, ei, last_ref hL1, isLst_ref c, mt_append c, lt]
    have hL2 := hL1.upd2 ((seg ++ [x]).map Fm.enc)
    obtain ⟨rs', r', lls', seg', o', st', e1, e2, e3, e4⟩ := loop_sums cx st0 k0 k ks full hk0 a b c its rs r lls (seg ++ [x]) sg (some x.enc) _ hL2 hn hs' ho' (by simp; omega) (by omega) (by omega)
    refine ⟨rs', r', lls', seg', o', st', ?_, e2, e3, ?_⟩
    · rw [List.map_cons, forL_cons, if_pos (keeps_one (hL.old hk0))]
      simp only [bindTg_one, List.set_cons_succ, List.set_cons_zero, Itm.enc]
      rw [step]
      exact e1
    · rw [e4]
      simp [dec]
end
end K82
end
set_option maxRecDepth 100000
set_option maxHeartbeats 2000000
/-! KC (k82): sums, inside. -/
noncomputable section
namespace K82
open GI PySem RA SA
section
variable {ft : Nat → Option Fn} {gl : Nat → Option PV} {wf n : Nat} {st : Store}
theorem keeps_two {k l : Nat} {xs ys : List PV} (h : st[k]? = some (.lst xs)) (h2 : st[l]? = some (.lst ys)) : keeps [(k, xs), (l, ys)] st = true := by
  unfold keeps
  exact @decide_eq_true _ (Classical.propDecidable _) ⟨h, h2, trivial⟩
theorem two_enc {w : W} (hw : w = [43] ∨ w = [45]) (a b : Fm) : (two w a b).enc = .tup [.str (nm w), .non, .tup [a.enc, b.enc]] := by
  rcases hw with rfl | rfl <;> rfl
theorem app_get {st g : Store} {k : Nat} {c : Cell} (h : st[k]? = some c) : (st ++ g)[k]? = some c := by
  rw [List.getElem?_append_left (lt_of_some h)]
  exact h
structure Kf (ft : Nat → Option Fn) : Prop where
  nest : ft 1001 = some L82.fn__law_nest
  sums : ft 1002 = some L82.fn__law_sums
  inside : ft 1003 = some L82.fn__law_inside
theorem loop_sums2 (F : Kf ft) (ks k2 : Nat) (A B : List PV) (a b c d : Option PV) : ∀ (l : List (W × List Fm)) (Rs : List Nat) (acc : Fm) (o1 o2 : Option PV) (st : Store), Rs.length = l.length → (∀ p ∈ l, (p.1 = [43] ∨ p.1 = [45]) ∧ ∀ x ∈ p.2, x.Ok ∧ x.dp ≤ 90) → (∀ q ∈ Rs.zip (l.map (·.2)), st[q.1]? = some (.lst (q.2.map Fm.enc))) → st[ks]? = some (.lst A) → st[k2]? = some (.lst B) →
    ∃ o1' o2', Ends (forL [(ks, A), (k2, B)] (.tup [5, 6]) (xSs (ckx ft gl wf (n + 1)) L82.b__law_sums0) (zipI (l.map fun p => .str (nm p.1)) (Rs.map .ref)) [a, b, c, d, some acc.enc, o1, o2] st) (.nx, [a, b, c, d, some (l.foldl (fun acc p => two p.1 acc (nest p.2)) acc).enc, o1', o2']) st
  | [], Rs, acc, o1, o2, st, hl, _, _, h1, h2 => by
    have : Rs = [] := List.length_eq_zero_iff.mp hl
    subst this
    exact ⟨o1, o2, by
      show Ends (forL _ _ _ [] _ _) _ _
      rw [forL_nil, if_pos (keeps_two h1 h2)]
      exact Ends.of (List.prefix_refl _)⟩
  | (w, seg) :: l, [], acc, o1, o2, st, hl, _, _, _, _ => by simp at hl
  | (w, seg) :: l, R :: Rs, acc, o1, o2, st, hl, hp, hc, h1, h2 => by
    obtain ⟨hw, hs⟩ := hp _ List.mem_cons_self
    obtain ⟨g, e⟩ := law_nest (ft := ft) (gl := gl) (wf := wf) (n := n) F.nest seg R st (hc (R, seg) (by simp)) hs
    obtain ⟨o1', o2', ih⟩ := loop_sums2 F ks k2 A B a b c d l Rs (two w acc (nest seg)) (some (.str (nm w))) (some (.ref R)) (st ++ g) (by simpa using hl) (fun p h => hp p (List.mem_cons_of_mem _ h)) (fun q h => app_get (hc q (by simp only [List.map_cons, List.zip_cons_cons]; exact List.mem_cons_of_mem _ h))) (app_get h1) (app_get h2)
    refine ⟨o1', o2', ?_⟩
    show Ends (forL _ _ _ (PV.tup [.str (nm w), .ref R] :: zipI _ _) _ _) _ _
    rw [forL_cons, if_pos (keeps_two h1 h2)]
    simp only [bindTg_tup2, List.set_cons_succ, List.set_cons_zero]
    have step : xSs (ckx ft gl wf (n + 1)) L82.b__law_sums0 [a, b, c, d, some acc.enc, some (.str (nm w)), some (.ref R)] st = .ok (.nx, [a, b, c, d, some (two w acc (nest seg)).enc, some (.str (nm w)), some (.ref R)]) (st ++ g) := by
      rw [two_enc hw]
      simp [L82.b__law_sums0, e]
    rw [step]
    exact Ends.app ih
theorem law_sums (F : Kf ft) (its : List Itm) (k0 : Nat) (st : Store) (hk : st[k0]? = some (.lst (its.map Itm.enc))) (hs : Small its) (ho : ∀ w, Itm.op w ∈ its → w = [43] ∨ w = [45]) (hl : its.length ≤ 900) : Ends (callF ft gl wf (n + 2) 1002 [.ref k0] st) (sumsV (dec its).1).enc st := by
  have hL := (((Lo.start st).new []).new [.ref st.length]).new []
  have hL := hL.perm (M' := (( (st ++ [Cell.lst []]).length, ([] ++ [st.length]).map PV.ref) :: (st.length, ([] : List Fm).map Fm.enc) :: (([] : List Nat).zip (([] : List (List Fm)).map fun l => l.map Fm.enc) ++ [((st ++ [Cell.lst []] ++ [Cell.lst [.ref st.length]]).length, ([] : List W).map .str)]))) (by
    simp only [List.map_nil, List.nil_append, List.map_cons, List.zip_nil_left]
    exact (List.Perm.swap _ _ _).trans (.cons _ (List.Perm.swap _ _ _)))
  obtain ⟨rs', r', lls', seg', o', st', e1, e2, e3, e4⟩ := loop_sums (ckx ft gl wf (n + 1)) st k0 _ _ _ hk none none none its [] st.length [] [] [] none _ hL rfl hs ho (by simp; omega) (by simp; omega) (by simp; omega)
  simp only [List.nil_append] at e4 e2
  -- the cells
  have cz : ∀ q ∈ (rs' ++ [r']).zip ((lls' ++ [seg'])), st'[q.1]? = some (.lst (q.2.map Fm.enc)) := fun q hq => by
    rw [zsnoc e3] at hq
    rcases List.mem_append.mp hq with z | z
    · refine e2.get (p := (q.1, q.2.map Fm.enc)) (List.mem_cons_of_mem _ (List.mem_cons_of_mem _ (List.mem_append_left _ ?_)))
      rw [List.zip_map_right]
      exact List.mem_map.mpr ⟨q, z, rfl⟩
    · rw [List.mem_singleton] at z
      subst z
      exact e2.get (p := (r', seg'.map Fm.enc)) (by simp)
  have hlen : (rs' ++ [r']).length = (lls' ++ [seg']).length := by simp [e3]
  have ck := e2.get (p := ((st ++ [Cell.lst []]).length, (rs' ++ [r']).map .ref)) (by simp)
  have cks := e2.get (p := ((st ++ [Cell.lst []] ++ [Cell.lst [.ref st.length]]).length, ((dec its).1.2.map fun p => nm p.1).map .str)) (by simp)
  have pre := e2.pre
  have hsm : ∀ q ∈ lls' ++ [seg'], ∀ x ∈ q, x.Ok ∧ x.dp ≤ 90 := fun q hq x hx => by
    refine hs x ?_
    rw [← dec_flat its]
    refine List.mem_append_left _ ?_
    rw [e4] at hq
    rcases List.mem_cons.mp hq with z | z
    · subst z
      exact List.mem_append_left _ (mem_fs hx)
    · obtain ⟨p, hp, rfl⟩ := List.mem_map.mp z
      exact List.mem_append_right _ (List.mem_flatMap.mpr ⟨p, hp, List.mem_cons_of_mem _ (mem_fs hx)⟩)
  have hops : ∀ p ∈ (dec its).1.2, p.1 = [43] ∨ p.1 = [45] := (dec_ops its fun w hw => by
    rcases ho w hw with z | z
    · exact .inl z
    · exact .inr (.inl z)).1
  rw [e4] at cz hlen hsm
  generalize rs' ++ [r'] = refs at cz hlen ck
  cases refs with
  | nil => simp at hlen
  | cons R0 Rs =>
  clear e2
  obtain ⟨g1, n1⟩ := law_nest (ft := ft) (gl := gl) (wf := wf) (n := n) F.nest (dec its).1.1 R0 st' (cz (R0, _) (by simp)) (hsm _ (by simp))
  have i0 : idxF (.ref (st ++ [Cell.lst []]).length) (.int 0) st' = .ok (.ref R0) st' := by
    rw [idxR ck, show (0 : Int) = ((0 : Nat) : Int) from rfl, atI_nat]
    rfl
  have cp : cutP ((R0 :: Rs).map PV.ref) (some 1) none = Rs.map .ref := cutP_from ((R0 :: Rs).map PV.ref) 1
  have sl : slcF (some 1) none (.ref (st ++ [Cell.lst []]).length) (st' ++ g1) = .ok (.ref (st' ++ g1).length) (st' ++ g1 ++ [.lst (Rs.map .ref)]) := by
    rw [slcR (app_get ck), cp]
  have cks2 : (st' ++ g1 ++ [Cell.lst (Rs.map .ref)])[(st ++ [Cell.lst []] ++ [Cell.lst [.ref st.length]]).length]? = some (.lst ((dec its).1.2.map fun p => .str (nm p.1))) := by
    rw [app_get (app_get cks), List.map_map]
    rfl
  obtain ⟨o1, o2, g2, lp⟩ := loop_sums2 (ft := ft) (gl := gl) (wf := wf) (n := n) F _ (st' ++ g1).length _ _ (some (.ref k0)) (some (.ref (st ++ [Cell.lst []]).length)) (some (.ref (st ++ [Cell.lst []] ++ [Cell.lst [.ref st.length]]).length)) o' (dec its).1.2 Rs (nest (dec its).1.1) none none (st' ++ g1 ++ [.lst (Rs.map .ref)]) (by simpa using hlen) (fun p hp => ⟨hops p hp, hsm _ (by simp; exact .inr ⟨_, hp⟩)⟩) (fun q hq => app_get (app_get (cz q (by simp only [List.zip_cons_cons]; exact List.mem_cons_of_mem _ hq)))) cks2 at_end
  rw [callF_def F.sums rfl]
  simp only [ckx] at e1 lp
  simp [-List.append_assoc, -List.length_append, L82.fn__law_sums, walkG_ref (app_get (app_get (app_get hk))), e1, i0, n1, sl, zipG_ref cks2 at_end, lp]
  exact Ends.of (((pre.trans (List.prefix_append _ _)).trans (List.prefix_append _ _)).trans (List.prefix_append _ _))
theorem dec_flatS : ∀ (s : Su), (∀ p ∈ s.2, p.1 = [43] ∨ p.1 = [45]) → dec (flatS s) = (s, []) := by
  have k1 : ∀ (l : List Fm) (r : List Itm), dec (fs l ++ r) = ((l ++ (dec r).1.1, (dec r).1.2), (dec r).2) := fun l r => by
    induction l with
    | nil => rfl
    | cons x l ih =>
      have e : dec (.f x :: (fs l ++ r)) = ((x :: (dec (fs l ++ r)).1.1, (dec (fs l ++ r)).1.2), (dec (fs l ++ r)).2) := rfl
      show dec (.f x :: (fs l ++ r)) = _
      rw [e, ih]
      rfl
  have k2 : ∀ l : List (W × List Fm), (∀ p ∈ l, p.1 = [43] ∨ p.1 = [45]) → dec (flatP l) = (([], l), []) := fun l => by
    induction l with
    | nil => intro _; rfl
    | cons p l ih =>
      intro h
      have hp : p.1 ≠ [60] := by rcases h p List.mem_cons_self with z | z <;> rw [z] <;> decide
      have e : flatP (p :: l) = .op p.1 :: (fs p.2 ++ flatP l) := by simp [flatP]
      rw [e]
      conv => lhs; unfold dec
      rw [if_neg hp, k1, ih fun q hq => h q (List.mem_cons_of_mem _ hq)]
      simp
  intro s h
  unfold flatS
  rw [k1, k2 s.2 h]
  simp
theorem loop_inside2 (F : Kf ft) (k2 : Nat) (B : List PV) (a b c : Option PV) : ∀ (l : List Su) (Rs : List Nat) (acc : Fm) (o1 : Option PV) (st : Store), Rs.length = l.length → (∀ s ∈ l, (∀ p ∈ s.2, p.1 = [43] ∨ p.1 = [45]) ∧ Small (flatS s) ∧ (flatS s).length ≤ 900) → (∀ q ∈ Rs.zip (l.map flatS), st[q.1]? = some (.lst (encs q.2))) → st[k2]? = some (.lst B) →
    ∃ o1', Ends (forL [(k2, B)] (.one 4) (xSs (ckx ft gl wf (n + 2)) L82.b__law_inside0) (Rs.map .ref) [a, b, c, some acc.enc, o1] st) (.nx, [a, b, c, some (l.foldl (fun acc s => fLess acc (sumsV s)) acc).enc, o1']) st
  | [], Rs, acc, o1, st, hl, _, _, h1 => by
    have : Rs = [] := List.length_eq_zero_iff.mp hl
    subst this
    exact ⟨o1, by
      rw [List.map_nil, forL_nil, if_pos (keeps_one h1)]
      exact Ends.of (List.prefix_refl _)⟩
  | s :: l, [], acc, o1, st, hl, _, _, _ => by simp at hl
  | s :: l, R :: Rs, acc, o1, st, hl, hp, hc, h1 => by
    obtain ⟨hw, hs, hl2⟩ := hp _ List.mem_cons_self
    have hops : ∀ w, Itm.op w ∈ flatS s → w = [43] ∨ w = [45] := fun w hw2 => by
      unfold flatS at hw2
      rcases List.mem_append.mp hw2 with z | z
      · obtain ⟨x, _, z2⟩ := List.mem_map.mp z
        cases z2
      · obtain ⟨p, hp, z2⟩ := List.mem_flatMap.mp z
        rcases List.mem_cons.mp z2 with z3 | z3
        · cases z3
          exact hw p hp
        · obtain ⟨x, _, z2⟩ := List.mem_map.mp z3
          cases z2
    obtain ⟨g, e⟩ := law_sums (ft := ft) (gl := gl) (wf := wf) (n := n) F (flatS s) R st (hc (R, flatS s) (by simp)) hs hops hl2
    rw [dec_flatS s hw] at e
    obtain ⟨o1', ih⟩ := loop_inside2 F k2 B a b c l Rs (fLess acc (sumsV s)) (some (.ref R)) (st ++ g) (by simpa using hl) (fun p h => hp p (List.mem_cons_of_mem _ h)) (fun q h => app_get (hc q (by simp only [List.map_cons, List.zip_cons_cons]; exact List.mem_cons_of_mem _ h))) (app_get h1)
    refine ⟨o1', ?_⟩
    rw [List.map_cons, forL_cons, if_pos (keeps_one h1)]
    simp only [bindTg_one, List.set_cons_succ, List.set_cons_zero]
    have step : xSs (ckx ft gl wf (n + 2)) L82.b__law_inside0 [a, b, c, some acc.enc, some (.ref R)] st = .ok (.nx, [a, b, c, some (fLess acc (sumsV s)).enc, some (.ref R)]) (st ++ g) := by
      simp [L82.b__law_inside0, e, fLess, Fm.enc]
    rw [step]
    exact Ends.app ih
theorem law_inside (F : Kf ft) (its : List Itm) (k0 : Nat) (st : Store) (hk : st[k0]? = some (.lst (its.map Itm.enc))) (hs : Small its) (ho : Ops its) (hl : its.length ≤ 900) : Ends (callF ft gl wf (n + 3) 1003 [.ref k0] st) (inside its).enc st := by
  have hL := ((Lo.start st).new []).new [.ref st.length]
  have hL' : Lo st (st ++ [Cell.lst []] ++ [Cell.lst [.ref st.length]]) (((st ++ [Cell.lst []]).length, (([] : List Nat) ++ [st.length]).map PV.ref) :: (st.length, encs []) :: (([] : List Nat).zip (([] : List (List Itm)).map encs))) := hL
  obtain ⟨rs', r', lls', seg', o', st', e1, e2, e3, e4⟩ := loop_inside (ckx ft gl wf (n + 2)) st k0 _ _ hk none none its [] st.length [] [] none _ hL' rfl hs (by simp; omega) (by simp; omega)
  simp only [List.nil_append] at e4 e2
  have cz : ∀ q ∈ (rs' ++ [r']).zip ((lls' ++ [seg'])), st'[q.1]? = some (.lst (encs q.2)) := fun q hq => by
    rw [zsnoc e3] at hq
    rcases List.mem_append.mp hq with z | z
    · refine e2.get (p := (q.1, encs q.2)) (List.mem_cons_of_mem _ (List.mem_cons_of_mem _ ?_))
      rw [List.zip_map_right]
      exact List.mem_map.mpr ⟨q, z, rfl⟩
    · rw [List.mem_singleton] at z
      subst z
      exact e2.get (p := (r', encs seg')) (by simp)
  have hlen : (rs' ++ [r']).length = (lls' ++ [seg']).length := by simp [e3]
  have ck := e2.get (p := ((st ++ [Cell.lst []]).length, (rs' ++ [r']).map .ref)) (by simp)
  have pre := e2.pre
  have hd := dec_ops its ho
  have hfl := dec_flat its
  have hlen2 : (flatS (dec its).1).length + (flatL (dec its).2).length = its.length := by
    rw [← List.length_append, hfl]
  have sm0 : Small (flatS (dec its).1) := fun x hx => hs x (by rw [← hfl]; exact List.mem_append_left _ hx)
  have sm1 : ∀ s ∈ (dec its).2, Small (flatS s) ∧ (flatS s).length ≤ 900 := fun s hs2 => by
    refine ⟨fun x hx => hs x (by rw [← hfl]; exact List.mem_append_right _ (List.mem_flatMap.mpr ⟨s, hs2, List.mem_cons_of_mem _ hx⟩)), ?_⟩
    have : (flatS s).length ≤ (flatL (dec its).2).length := by
      refine List.Sublist.length_le ?_
      have : List.Sublist (Itm.op [60] :: flatS s) (flatL (dec its).2) := List.sublist_flatten_of_mem (List.mem_map.mpr ⟨s, hs2, rfl⟩)
      exact (List.sublist_cons_self _ _).trans this
    omega
  have hops0 : ∀ w, Itm.op w ∈ flatS (dec its).1 → w = [43] ∨ w = [45] := fun w hw2 => by
    unfold flatS at hw2
    rcases List.mem_append.mp hw2 with z | z
    · obtain ⟨x, _, z2⟩ := List.mem_map.mp z
      cases z2
    · obtain ⟨p, hp, z2⟩ := List.mem_flatMap.mp z
      rcases List.mem_cons.mp z2 with z3 | z3
      · cases z3
        exact hd.1 p hp
      · obtain ⟨x, _, z2⟩ := List.mem_map.mp z3
        cases z2
  rw [e4] at cz hlen
  generalize rs' ++ [r'] = refs at cz hlen ck
  cases refs with
  | nil => simp at hlen
  | cons R0 Rs =>
  clear e2
  obtain ⟨g1, n1⟩ := law_sums (ft := ft) (gl := gl) (wf := wf) (n := n) F (flatS (dec its).1) R0 st' (cz (R0, flatS (dec its).1) (by rw [List.zip_cons_cons]; exact List.mem_cons_self)) sm0 hops0 (by omega)
  rw [dec_flatS _ hd.1] at n1
  have i0 : idxF (.ref (st ++ [Cell.lst []]).length) (.int 0) st' = .ok (.ref R0) st' := by
    rw [idxR ck, show (0 : Int) = ((0 : Nat) : Int) from rfl, atI_nat]
    rfl
  have cp : cutP ((R0 :: Rs).map PV.ref) (some 1) none = Rs.map .ref := cutP_from ((R0 :: Rs).map PV.ref) 1
  have sl : slcF (some 1) none (.ref (st ++ [Cell.lst []]).length) (st' ++ g1) = .ok (.ref (st' ++ g1).length) (st' ++ g1 ++ [.lst (Rs.map .ref)]) := by
    rw [slcR (app_get ck), cp]
  obtain ⟨o1, g2, lp⟩ := loop_inside2 (ft := ft) (gl := gl) (wf := wf) (n := n) F (st' ++ g1).length _ (some (.ref k0)) (some (.ref (st ++ [Cell.lst []]).length)) o' (dec its).2 Rs (sumsV (dec its).1) none (st' ++ g1 ++ [.lst (Rs.map .ref)]) (by simpa using hlen) (fun p hp => ⟨hd.2 p hp, sm1 p hp⟩) (fun q hq => app_get (app_get (cz q (by simp only [List.zip_cons_cons]; exact List.mem_cons_of_mem _ hq)))) at_end
  rw [callF_def F.inside rfl]
  simp only [ckx] at e1 lp
  simp [-List.append_assoc, -List.length_append, L82.fn__law_inside, walkG_ref (app_get (app_get hk)), e1, i0, n1, sl, walkG_ref at_end, lp]
  exact Ends.of (((pre.trans (List.prefix_append _ _)).trans (List.prefix_append _ _)).trans (List.prefix_append _ _))
end
end K82
end
set_option maxRecDepth 100000
set_option maxHeartbeats 4000000
/-! KD (k82): the row and the tree built. -/
noncomputable section
namespace K82
open GI PySem RA SA
theorem wd_lay {w : W} (h : Wd w) : (PyData.str ⟨w.toArray⟩).canLay0 = true := lay_of fun c hc => by
  have := h.2.2 c hc
  unfold okSign at this
  simp only [Bool.and_eq_true, decide_eq_true_eq] at this
  omega
theorem leaf_ok {w : W} {ws : List W} {f : Fm} (h : RA.leafOf w ws = some f) (hw : (PyData.str ⟨w.toArray⟩).canLay0 = true) : f.Ok ∧ f.dp = 0 := by
  unfold RA.leafOf at h
  split at h
  · cases h
    exact ⟨ok_gap, rfl⟩
  · split at h
    · cases h
      exact ⟨⟨by decide +kernel, gn_bl _⟩, rfl⟩
    · split at h
      · cases h
        exact ⟨⟨by decide +kernel, gn_int _⟩, rfl⟩
      · split at h
        · cases h
          exact ⟨⟨by decide +kernel, gn_str hw⟩, rfl⟩
        · split at h
          · cases h
            exact ⟨⟨by decide +kernel, gn_str hw⟩, rfl⟩
          · cases h
def total (ls : List (List Itm)) : Nat := (ls.map wts).sum
def Good (ls : List (List Itm)) : Prop := ∀ l ∈ ls, Ops l ∧ ∀ x, Itm.f x ∈ l → x.Ok
theorem wt_pos (x : Itm) : 1 ≤ wt x := by cases x <;> simp [wt]
theorem wts_mem {x : Itm} : ∀ {l : List Itm}, x ∈ l → wt x ≤ wts l
  | y :: l, h => by
    have e : wts (y :: l) = wt y + wts l := by simp [wts]
    rcases List.mem_cons.mp h with z | z
    · subst z
      omega
    · have := wts_mem z
      omega
theorem wts_len : ∀ l : List Itm, l.length ≤ wts l
  | [] => Nat.zero_le _
  | y :: l => by
    have e : wts (y :: l) = wt y + wts l := by simp [wts]
    have := wts_len l
    have := wt_pos y
    simp only [List.length_cons]
    omega
theorem small_of {l : List Itm} (h1 : ∀ x, Itm.f x ∈ l → x.Ok) (h2 : wts l ≤ 91) : Small l := fun x hx => ⟨h1 x hx, by
  have := wts_mem hx
  simp only [wt] at this
  omega⟩
theorem total_app (a b : List (List Itm)) : total (a ++ b) = total a + total b := by simp [total]
theorem total_one (a : List Itm) : total [a] = wts a := by simp [total]
section
variable {ft : Nat → Option Fn} {gl : Nat → Option PV} {wf n : Nat} {st : Store}
abbrev Ms (kr ks : Nat) (row : List W) (rs : List Nat) (r : Nat) (lls : List (List Itm)) (t : List Itm) : List (Nat × List PV) := (kr, row.map .str) :: (ks, (rs ++ [r]).map .ref) :: (r, encs t) :: rs.zip (lls.map encs)
theorem last_ref2 {st0 st : Store} {kr ks : Nat} {row : List W} {rs : List Nat} {r : Nat} {lls : List (List Itm)} {t : List Itm} (h : Lo st0 st (Ms kr ks row rs r lls t)) : idxF (.ref ks) (.int (-1)) st = .ok (.ref r) st := by
  rw [idxR (h.get (p := (ks, (rs ++ [r]).map .ref)) (by simp)), List.map_append, List.map_singleton, atI_last]
  rfl
theorem Lo.row {st0 st : Store} {kr ks : Nat} {row : List W} {rs : List Nat} {r : Nat} {lls : List (List Itm)} {t : List Itm} (h : Lo st0 st (Ms kr ks row rs r lls t)) (w : W) : Lo st0 (st.set kr (.lst ((row ++ [w]).map .str))) (Ms kr ks (row ++ [w]) rs r lls t) := h.upd1 _
theorem Lo.top {st0 st : Store} {kr ks : Nat} {row : List W} {rs : List Nat} {r : Nat} {lls : List (List Itm)} {t : List Itm} (h : Lo st0 st (Ms kr ks row rs r lls t)) (y : Itm) : Lo st0 (st.set r (.lst (encs (t ++ [y])))) (Ms kr ks row rs r lls (t ++ [y])) := Lo.upd (A := [(kr, row.map .str), (ks, (rs ++ [r]).map .ref)]) h _
theorem row_app {st0 st : Store} {kr ks : Nat} {row : List W} {rs : List Nat} {r : Nat} {lls : List (List Itm)} {t : List Itm} (h : Lo st0 st (Ms kr ks row rs r lls t)) (hl : row.length ≤ 100) (w : W) : mtF .append (.ref kr) [.str w] st = .ok .non (st.set kr (.lst ((row ++ [w]).map .str))) := by
  rw [mt_append (h.get (p := (kr, row.map .str)) (by simp)), if_pos (by rw [SL_eq, List.length_map]; omega), List.map_append]
  rfl
theorem top_app {st0 st : Store} {kr ks : Nat} {row : List W} {rs : List Nat} {r : Nat} {lls : List (List Itm)} {t : List Itm} (h : Lo st0 st (Ms kr ks row rs r lls t)) (hl : t.length ≤ 100) (y : Itm) : mtF .append (.ref r) [y.enc] st = .ok .non (st.set r (.lst (encs (t ++ [y])))) := by
  rw [mt_append (h.get (p := (r, encs t)) (by simp)), if_pos (by rw [SL_eq, List.length_map]; omega)]
  congr 3
  simp
theorem Lo.push2 {st0 st : Store} {kr ks : Nat} {row : List W} {rs : List Nat} {r : Nat} {lls : List (List Itm)} {t : List Itm} (h : Lo st0 st (Ms kr ks row rs r lls t)) (hn : rs.length = lls.length) : Lo st0 ((st ++ [Cell.lst []]).set ks (.lst ((rs ++ [r]).map .ref ++ [.ref st.length]))) (Ms kr ks row (rs ++ [r]) st.length (lls ++ [t]) []) := by
  have h0 : Lo st0 st ((ks, (rs ++ [r]).map .ref) :: (r, encs t) :: (rs.zip (lls.map encs) ++ [(kr, row.map .str)])) := h.perm (by
    have := (List.perm_append_comm (l₁ := [(kr, row.map PV.str)]) (l₂ := (ks, (rs ++ [r]).map PV.ref) :: (r, encs t) :: rs.zip (lls.map encs)))
    exact this)
  have h1 := Lo.push h0 (by simpa using hn)
  have h2 := h1.perm (M' := (kr, row.map .str) :: (ks, ((rs ++ [r]) ++ [st.length]).map .ref) :: (st.length, []) :: ((rs ++ [r]).zip (lls.map encs ++ [encs t]))) (by
    have := (List.perm_append_comm (l₁ := [(kr, row.map PV.str)]) (l₂ := (ks, ((rs ++ [r]) ++ [st.length]).map PV.ref) :: (st.length, []) :: ((rs ++ [r]).zip (lls.map encs ++ [encs t]))))
    exact this.symm)
  have e : (lls ++ [t]).map encs = lls.map encs ++ [encs t] := by simp
  unfold Ms
  rw [e]
  exact h2
/-- the top one out -/
theorem Lo.pop2 {st0 st : Store} {kr ks : Nat} {row : List W} {rs : List Nat} {u r : Nat} {lls : List (List Itm)} {v t : List Itm} (h : Lo st0 st (Ms kr ks row (rs ++ [u]) r (lls ++ [v]) t)) (hn : rs.length = lls.length) : Lo st0 (st.set ks (.lst ((rs ++ [u]).map .ref))) (Ms kr ks row rs u lls v) := by
  have h1 := Lo.upd2 h ((rs ++ [u]).map .ref)
  have e : (lls ++ [v]).map encs = lls.map encs ++ [encs v] := by simp
  rw [e, zsnoc (by simpa using hn)] at h1
  refine (h1.sub (M' := (kr, row.map .str) :: (ks, (rs ++ [u]).map .ref) :: (rs.zip (lls.map encs) ++ [(u, encs v)])) ?_).perm ?_
  · exact .cons₂ _ (.cons₂ _ (.cons _ (List.Sublist.refl _)))
  · refine .cons _ (.cons _ ?_)
    exact List.perm_append_comm (l₁ := rs.zip (lls.map encs)) (l₂ := [(u, encs v)])
theorem pop_st {st0 st : Store} {kr ks : Nat} {row : List W} {rs : List Nat} {r : Nat} {lls : List (List Itm)} {t : List Itm} (h : Lo st0 st (Ms kr ks row rs r lls t)) : mtF .pop (.ref ks) [] st = .ok (.ref r) (st.set ks (.lst (rs.map .ref))) := by
  refine mt_pop ?_
  have := h.get (p := (ks, (rs ++ [r]).map .ref)) (by simp)
  simpa using this
/-- shutting: the tree of the top one behind the next -/
theorem shut_run (F : Kf ft) {st0 st : Store} {kr ks : Nat} {row : List W} {rs : List Nat} {u r : Nat} {lls : List (List Itm)} {v t : List Itm} (a o3 o4 o5 o6 o7 : Option PV) (h : Lo st0 st (Ms kr ks row (rs ++ [u]) r (lls ++ [v]) t)) (hn : rs.length = lls.length) (ht : Small t) (ho : Ops t) (hl : t.length ≤ 100) (hv : v.length ≤ 100) :
    ∃ st', xSs (ckx ft gl wf (n + 3)) L82.b__law_build0 [a, some (.ref kr), some (.ref ks), o3, o4, o5, o6, o7] st = .ok (.nx, [a, some (.ref kr), some (.ref ks), o3, o4, some (.ref r), o6, o7]) st' ∧ Lo st0 st' (Ms kr ks row rs u lls (v ++ [.f (inside t)])) := by
  have h1 := Lo.pop2 h hn
  have p1 := pop_st h
  have ct := (Lo.get (Lo.upd2 h ((rs ++ [u]).map .ref)) (p := (r, encs t)) (by simp))
  obtain ⟨g, e⟩ := law_inside (ft := ft) (gl := gl) (wf := wf) (n := n) F t r _ ct ht ho (by omega)
  have h2 := h1.app g
  have h3 := Lo.top h2 (.f (inside t))
  refine ⟨_, ?_, h3⟩
  have m3 := top_app h2 hv (.f (inside t))
  simp only [Itm.enc] at m3
  have c0 := h.get (p := (ks, ((rs ++ [u]) ++ [r]).map .ref)) (by simp)
  have cu := h1.get (p := (u, encs v)) (by simp)
  simp [-List.map_append, -List.map_cons, -List.append_assoc, L82.b__law_build0, isLst_ref c0, p1, last_ref2 h1, isLst_ref cu, e, m3]
theorem tk_op {w : W} (h : w = [43] ∨ w = [45] ∨ w = [60]) : Rw w ∧ Tk w := by
  refine ⟨.inr (.inr ?_), .inr (.inr (.inl h))⟩
  rcases h with rfl | rfl | rfl <;> (unfold SA.Wd; decide)
/-- one cell -/
theorem cell_step (F : Kf ft) (L : Lw ft) (v : Int) {st0 st : Store} {kr ks : Nat} {row : List W} {rs : List Nat} {r : Nat} {lls : List (List Itm)} {t : List Itm} (a o4 o5 o6 o7 : Option PV) (h : Lo st0 st (Ms kr ks row rs r lls t)) (hn : rs.length = lls.length) (hg : Good (lls ++ [t])) (ht : total (lls ++ [t]) + lls.length ≤ row.length) (hl : row.length ≤ 70) (hr : rs.length ≤ row.length) :
    ∃ (w : W) (rs' : List Nat) (r' : Nat) (lls' : List (List Itm)) (t' : List Itm) (o4' o5' o6' o7' : Option PV) (st' : Store), xSs (ckx ft gl wf (n + 3)) L82.b__law_build1 [a, some (.ref kr), some (.ref ks), some (.int v), o4, o5, o6, o7] st = .ok (.nx, [a, some (.ref kr), some (.ref ks), some (.int v), o4', o5', o6', o7']) st' ∧
      Lo st0 st' (Ms kr ks (row ++ [w]) rs' r' lls' t') ∧ rs'.length = lls'.length ∧ Good (lls' ++ [t']) ∧ total (lls' ++ [t']) + lls'.length ≤ row.length + 1 ∧ rs'.length ≤ row.length + 1 ∧ (t' :: lls'.reverse) = step (t :: lls.reverse) w ∧ Rw w ∧ Tk w := by
  have h14 := Int.emod_nonneg v (show (14 : Int) ≠ 0 by omega)
  have h14' := Int.emod_lt_of_pos v (show (0 : Int) < 14 by omega)
  have cr := h.get (p := (kr, row.map .str)) (by simp)
  have tw : wts t ≤ 70 := by rw [total_app, total_one] at ht; omega
  have tl := wts_len t
  by_cases c0 : v % 14 = 0
  · have h1 := Lo.row h [40]
    have h2 := Lo.push2 h1 hn
    have m1 := row_app h (by omega) [40]
    generalize st.set kr (.lst ((row ++ [[40]]).map .str)) = s1 at h1 h2 m1
    have c1 := h1.get (p := (ks, (rs ++ [r]).map .ref)) (by simp)
    have c2 := (h1.app [Cell.lst []]).get (p := (ks, (rs ++ [r]).map .ref)) (by simp)
    have m2 : mtF .append (.ref ks) [.ref s1.length] (s1 ++ [Cell.lst []]) = .ok .non ((s1 ++ [Cell.lst []]).set ks (.lst ((rs ++ [r]).map .ref ++ [.ref s1.length]))) := by
      rw [mt_append c2, if_pos (by rw [SL_eq, List.length_map]; simp; omega)]
    refine ⟨[40], rs ++ [r], _, lls ++ [t], [], some (.int (v / 14)), o5, o6, o7, _, ?_, h2, by simp [hn], ?_, ?_, by simp; omega, by simp [step], .inl rfl, .inl rfl⟩
    rotate_left
    · intro l hl2
      rcases List.mem_append.mp hl2 with z | z
      · exact hg l z
      · rw [List.mem_singleton] at z
        subst z
        exact ⟨fun _ h => (nomatch h), fun _ h => (nomatch h)⟩
    · rw [total_app, total_one]
      have : wts [] = 0 := rfl
      simp only [List.length_append, List.length_cons, List.length_nil]
      omega
    simp [-List.map_append, -List.map_cons, -List.append_assoc, L82.b__law_build1, c0, isLst_ref cr, m1, isLst_ref c1, m2]
  by_cases c1 : v % 14 = 1
  · have h1 := Lo.row h [41]
    have m1 := row_app h (by omega) [41]
    generalize st.set kr (.lst ((row ++ [[41]]).map .str)) = s1 at h1 m1
    have ck := h1.get (p := (ks, (rs ++ [r]).map .ref)) (by simp)
    rcases List.eq_nil_or_concat lls with hz | ⟨lls0, u, hz⟩
    · subst hz
      have : rs = [] := List.length_eq_zero_iff.mp hn
      subst this
      refine ⟨[41], [], r, [], t, some (.int (v / 14)), o5, o6, o7, _, ?_, h1, rfl, hg, by omega, by simp, by simp [step, shut], .inr (.inl rfl), .inr (.inl rfl)⟩
      have ck' : s1[ks]? = some (.lst [.ref r]) := ck
      simp [-List.append_assoc, L82.b__law_build1, c0, c1, isLst_ref cr, m1, bi_lenR ck']
    · rw [List.concat_eq_append] at hz
      subst hz
      rcases List.eq_nil_or_concat rs with hz | ⟨rs0, q, hz⟩
      · subst hz
        simp at hn
      rw [List.concat_eq_append] at hz
      subst hz
      have hn0 : rs0.length = lls0.length := by simpa using hn
      have gt := hg t (by simp)
      have gu := hg u (by simp)
      have uw : wts u ≤ 70 := by rw [total_app, total_app, total_one, total_one] at ht; omega
      simp only [List.length_append, List.length_cons, List.length_nil] at ht
      have ul := wts_len u
      obtain ⟨st', e1, e2⟩ := shut_run (ft := ft) (gl := gl) (wf := wf) (n := n) F a (some (.int v)) (some (.int (v / 14))) o5 o6 o7 h1 hn0 (small_of gt.2 (by omega)) gt.1 (by omega) (by omega)
      have idp := inside_dp t
      refine ⟨[41], rs0, q, lls0, u ++ [.f (inside t)], some (.int (v / 14)), some (.ref r), o6, o7, st', ?_, e2, hn0, ?_, ?_, by simp at hr; omega, by simp [step, shut], .inr (.inl rfl), .inr (.inl rfl)⟩
      rotate_left
      · intro l hl2
        rcases List.mem_append.mp hl2 with z | z
        · exact hg l (by simp [z])
        · rw [List.mem_singleton] at z
          subst z
          refine ⟨fun w hw => ?_, fun x hx => ?_⟩
          · rcases List.mem_append.mp hw with y | y
            · exact gu.1 w y
            · simp at y
          · rcases List.mem_append.mp hx with y | y
            · exact gu.2 x y
            · simp at y
              subst y
              exact inside_ok t gt.2
      · rw [total_app, total_app, total_one, total_one] at ht
        rw [total_app, total_one, wts_app]
        have : wts [.f (inside t)] = (inside t).dp + 1 := by simp [wts, wt]
        omega
      have gl1 : (1 : Int) < ((rs0 ++ [q] ++ [r]).map PV.ref).length := by simp; omega
      obtain ⟨A, B, hb⟩ : ∃ A B, L82.b__law_build1 = .cons (.asg 4 (.bin .fdiv (.var 3) (.int 14))) (.cons (.ife (.cmp .eq (.bin .mod (.var 3) (.int 14)) (.int 0)) A (.cons (.ife (.cmp .eq (.bin .mod (.var 3) (.int 14)) (.int 1)) (.cons (.ex (.mth .append (.var 1) (.cons (.str [41]) .nil))) (.cons (.ife (.cmp .gt (.bi .len (.cons (.var 2) .nil)) (.int 1)) L82.b__law_build0 .nil) .nil)) B) .nil)) .nil) := ⟨_, _, rfl⟩
      simp only [ckx] at e1
      have bl := bi_lenR ck
      have hlr : (1 : Int) < ((rs0 ++ [q] ++ [r]).map PV.ref).length := gl1
      simp only at bl
      generalize ((rs0 ++ [q] ++ [r]).map PV.ref).length = len at bl hlr
      simp [hb, c0, c1, isLst_ref cr, m1, bl, hlr, e1]
  have rest3 := Int.emod_nonneg (v / 14) (show (3 : Int) ≠ 0 by omega)
  by_cases c2 : v % 14 < 6
  · obtain ⟨c, hc, hx⟩ := idxS_mod (z := [43, 45, 60]) (r := v / 14) (m := 3) rfl (by decide) (by rw [SL_eq]; decide)
    have hop : [c] = [43] ∨ [c] = [45] ∨ [c] = [60] := by simpa using hc
    have h1 := Lo.row h [c]
    have m1 := row_app h (by omega) [c]
    generalize st.set kr (.lst ((row ++ [[c]]).map .str)) = s1 at h1 m1
    have h2 := Lo.top h1 (.op [c])
    have m2 := top_app h1 (by omega) (.op [c])
    simp only [Itm.enc] at m2
    have cu := h1.get (p := (r, encs t)) (by simp)
    refine ⟨[c], rs, r, lls, t ++ [.op [c]], some (.int (v / 14)), o5, o6, o7, _, ?_, h2, hn, ?_, ?_, by omega, by rw [step_op hop]; rfl, (tk_op hop).1, (tk_op hop).2⟩
    rotate_left
    · intro l hl2
      rcases List.mem_append.mp hl2 with z | z
      · exact hg l (by simp [z])
      · rw [List.mem_singleton] at z
        subst z
        have gt := hg t (by simp)
        refine ⟨fun w hw => ?_, fun x hx => ?_⟩
        · rcases List.mem_append.mp hw with y | y
          · exact gt.1 w y
          · simp at y
            subst y
            exact hop
        · rcases List.mem_append.mp hx with y | y
          · exact gt.2 x y
          · simp at y
    · rw [total_app, total_one] at ht
      rw [total_app, total_one, wts_app]
      have : wts [.op [c]] = 1 := by simp [wts, wt]
      omega
    simp [-List.append_assoc, L82.b__law_build1, c0, c1, c2, isLst_ref cr, hx, m1, last_ref2 h1, isLst_ref cu, m2]
  · obtain ⟨w, f, ⟨lf1, lf2⟩, hx⟩ := law_leaf (ft := ft) (gl := gl) (wf := wf) L (v / 14)
    obtain ⟨g, k, e, ek, _⟩ := hx n st
    have h0 := h.app g
    have h1 := Lo.row h0 w
    have m1 := row_app h0 (by omega) w
    have cr0 := h0.get (p := (kr, row.map .str)) (by simp)
    generalize (st ++ g).set kr (.lst ((row ++ [w]).map .str)) = s1 at h1 m1
    have h2 := Lo.top h1 (.f f)
    have m2 := top_app h1 (by omega) (.f f)
    simp only [Itm.enc] at m2
    have cu := h1.get (p := (r, encs t)) (by simp)
    have fo := leaf_ok lf1 (wd_lay lf2)
    refine ⟨w, rs, r, lls, t ++ [.f f], some (.int (v / 14)), o5, some (.str w), some f.enc, _, ?_, h2, hn, ?_, ?_, by omega, by rw [step_leaf lf1]; rfl, .inr (.inr lf2), .inr (.inr (.inr ⟨f, lf1⟩))⟩
    rotate_left
    · intro l hl2
      rcases List.mem_append.mp hl2 with z | z
      · exact hg l (by simp [z])
      · rw [List.mem_singleton] at z
        subst z
        have gt := hg t (by simp)
        refine ⟨fun w hw => ?_, fun x hx => ?_⟩
        · rcases List.mem_append.mp hw with y | y
          · exact gt.1 w y
          · simp at y
        · rcases List.mem_append.mp hx with y | y
          · exact gt.2 x y
          · simp at y
            subst y
            exact fo.1
    · rw [total_app, total_one] at ht
      rw [total_app, total_one, wts_app]
      have : wts [.f f] = 1 := by simp [wts, wt, fo.2]
      omega
    simp [-List.append_assoc, L82.b__law_build1, c0, c1, c2, e, asgTG_ref2 ek, isLst_ref cr0, m1, last_ref2 h1, isLst_ref cu, m2]
end
end K82
end
set_option maxRecDepth 100000
set_option maxHeartbeats 4000000
/-! KE82 (k82): the build, the law. -/
noncomputable section
namespace K82
open GI PySem RA SA
section
variable {ft : Nat → Option Fn} {gl : Nat → Option PV} {wf n : Nat} {st : Store}
theorem loop_build (F : Kf ft) (L : Lw ft) {st0 : Store} {k0 kr ks : Nat} {full : List PV} (hk0 : st0[k0]? = some (.lst full)) : ∀ (vs : List Int) (row : List W) (rs : List Nat) (r : Nat) (lls : List (List Itm)) (t : List Itm) (o o4 o5 o6 o7 : Option PV) (st : Store),
    Lo st0 st (Ms kr ks row rs r lls t) → rs.length = lls.length → Good (lls ++ [t]) → total (lls ++ [t]) + lls.length ≤ row.length → row.length + vs.length ≤ 70 → rs.length ≤ row.length →
    ∃ (ws : List W) (rs' : List Nat) (r' : Nat) (lls' : List (List Itm)) (t' : List Itm) (o' o4' o5' o6' o7' : Option PV) (st' : Store),
      forL [(k0, full)] (.one 3) (xSs (ckx ft gl wf (n + 3)) L82.b__law_build1) (vs.map .int) [some (.ref k0), some (.ref kr), some (.ref ks), o, o4, o5, o6, o7] st = .ok (.nx, [some (.ref k0), some (.ref kr), some (.ref ks), o', o4', o5', o6', o7']) st' ∧
      Lo st0 st' (Ms kr ks (row ++ ws) rs' r' lls' t') ∧ rs'.length = lls'.length ∧ Good (lls' ++ [t']) ∧ total (lls' ++ [t']) + lls'.length ≤ (row ++ ws).length ∧ rs'.length ≤ (row ++ ws).length ∧ (t' :: lls'.reverse) = ws.foldl step (t :: lls.reverse) ∧ ws.length = vs.length ∧ ∀ w ∈ ws, Rw w ∧ Tk w
  | [], row, rs, r, lls, t, o, o4, o5, o6, o7, st, h, hn, hg, ht, _, hr => ⟨[], rs, r, lls, t, o, o4, o5, o6, o7, st, by rw [List.map_nil, forL_nil, if_pos (keeps_one (h.old hk0))], by simpa using h, hn, hg, by simpa using ht, by simpa using hr, rfl, rfl, fun _ h => (nomatch h)⟩
  | v :: vs, row, rs, r, lls, t, o, o4, o5, o6, o7, st, h, hn, hg, ht, hl, hr => by
    simp only [List.length_cons] at hl
    obtain ⟨w, rs1, r1, lls1, t1, p4, p5, p6, p7, st1, e1, h1, n1, g1, t1', r1', s1, w1, w2⟩ := cell_step (ft := ft) (gl := gl) (wf := wf) (n := n) F L v (some (.ref k0)) o4 o5 o6 o7 h hn hg ht (by omega) hr
    obtain ⟨ws, rs', r', lls', t', q, q4, q5, q6, q7, st', e2, h2, n2, g2, t2, r2, s2, l2, w3⟩ := loop_build F L hk0 vs (row ++ [w]) rs1 r1 lls1 t1 (some (.int v)) p4 p5 p6 p7 st1 h1 n1 g1 (by simpa using t1') (by simp; omega) (by simpa using r1')
    refine ⟨w :: ws, rs', r', lls', t', q, q4, q5, q6, q7, st', ?_, by simpa using h2, n2, g2, by simpa using t2, by simpa using r2, ?_, by simp [l2], fun x hx => ?_⟩
    · rw [List.map_cons, forL_cons, if_pos (keeps_one (h.old hk0))]
      simp only [bindTg_one, List.set_cons_succ, List.set_cons_zero]
      rw [e1]
      exact e2
    · rw [s2, s1]
      rfl
    · rcases List.mem_cons.mp hx with rfl | z
      · exact ⟨w1, w2⟩
      · exact w3 x z
theorem loop_shut (F : Kf ft) {st0 : Store} {kr ks : Nat} {row : List W} (a o3 o4 : Option PV) : ∀ (m : Nat) (rs : List Nat) (r : Nat) (lls : List (List Itm)) (t : List Itm) (o5 o6 o7 : Option PV) (st : Store),
    Lo st0 st (Ms kr ks row rs r lls t) → rs.length = lls.length → Good (lls ++ [t]) → total (lls ++ [t]) + lls.length ≤ 90 → rs.length < m →
    ∃ (q : Nat) (items : List Itm) (o5' o6' o7' : Option PV) (st' : Store), whlL (ev (ckx ft gl wf (n + 3)) L82.c__law_build0) (xSs (ckx ft gl wf (n + 3)) L82.b__law_build0) m [a, some (.ref kr), some (.ref ks), o3, o4, o5, o6, o7] st = .ok (.nx, [a, some (.ref kr), some (.ref ks), o3, o4, o5', o6', o7']) st' ∧
      Lo st0 st' (Ms kr ks row [] q [] items) ∧ items = low (t :: lls.reverse) ∧ Good [items] ∧ wts items ≤ total (lls ++ [t]) + lls.length
  | 0, _, _, _, _, _, _, _, _, _, _, _, _, h => absurd h (Nat.not_lt_zero _)
  | m + 1, rs, r, lls, t, o5, o6, o7, st, h, hn, hg, ht, hm => by
    have ck := h.get (p := (ks, (rs ++ [r]).map .ref)) (by simp)
    simp only at ck
    have bl := bi_lenR ck
    rcases List.eq_nil_or_concat lls with hz | ⟨lls0, u, hz⟩
    · subst hz
      have : rs = [] := List.length_eq_zero_iff.mp hn
      subst this
      refine ⟨r, t, o5, o6, o7, st, ?_, h, by simp [low], hg, by simp [total_one, total]⟩
      have e : ev (ckx ft gl wf (n + 3)) L82.c__law_build0 [a, some (.ref kr), some (.ref ks), o3, o4, o5, o6, o7] st = .ok (.bl false) st := by
        have bl' : biF .len [.ref ks] st = .ok (.int 1) st := bl
        simp [L82.c__law_build0, bl']
      rw [whlL_succ, e]
      simp
    · rw [List.concat_eq_append] at hz
      subst hz
      rcases List.eq_nil_or_concat rs with hz | ⟨rs0, q, hz⟩
      · subst hz
        simp at hn
      rw [List.concat_eq_append] at hz
      subst hz
      have hn0 : rs0.length = lls0.length := by simpa using hn
      have gt := hg t (by simp)
      have gu := hg u (by simp)
      have e0 : total (lls0 ++ [u] ++ [t]) = total lls0 + wts u + wts t := by rw [total_app, total_app, total_one, total_one]
      rw [e0] at ht
      simp only [List.length_append, List.length_cons, List.length_nil] at ht hm
      have tl := wts_len t
      have ul := wts_len u
      obtain ⟨st1, e1, h1⟩ := shut_run (ft := ft) (gl := gl) (wf := wf) (n := n) F a o3 o4 o5 o6 o7 h hn0 (small_of gt.2 (by omega)) gt.1 (by omega) (by omega)
      have idp := inside_dp t
      have wi : wts (u ++ [.f (inside t)]) ≤ wts u + wts t + 1 := by
        rw [wts_app]
        have : wts [.f (inside t)] = (inside t).dp + 1 := by simp [wts, wt]
        omega
      have e2 : total (lls0 ++ [u ++ [.f (inside t)]]) = total lls0 + wts (u ++ [.f (inside t)]) := by rw [total_app, total_one]
      obtain ⟨q', items, o5', o6', o7', st', k1, k2, k3, k4, k5⟩ := loop_shut F a o3 o4 m rs0 q lls0 (u ++ [.f (inside t)]) (some (.ref r)) o6 o7 st1 h1 hn0 (by
        intro l hl2
        rcases List.mem_append.mp hl2 with z | z
        · exact hg l (by simp [z])
        · rw [List.mem_singleton] at z
          subst z
          refine ⟨fun w hw => ?_, fun x hx => ?_⟩
          · rcases List.mem_append.mp hw with y | y
            · exact gu.1 w y
            · simp at y
          · rcases List.mem_append.mp hx with y | y
            · exact gu.2 x y
            · simp at y
              subst y
              exact inside_ok t gt.2) (by omega) (by omega)
      refine ⟨q', items, o5', o6', o7', st', ?_, k2, ?_, k4, by rw [e0]; simp only [List.length_append, List.length_cons, List.length_nil]; omega⟩
      · have hlr : (1 : Int) < ((rs0 ++ [q] ++ [r]).map PV.ref).length := by simp; omega
        generalize ((rs0 ++ [q] ++ [r]).map PV.ref).length = len at bl hlr
        have e : ev (ckx ft gl wf (n + 3)) L82.c__law_build0 [a, some (.ref kr), some (.ref ks), o3, o4, o5, o6, o7] st = .ok (.bl true) st := by
          simp [L82.c__law_build0, bl, hlr]
        rw [whlL_succ, e]
        simp only [Res.lift_ok, bcase_bl, if_true]
        rw [e1]
        exact k1
      · rw [k3]
        simp [low]
theorem law_build (F : Kf ft) (L : Lw ft) {id : Nat} (hid : ft id = some L82.fn__law_build) (hw : 100 ≤ wf) (vs : List Int) (k0 : Nat) (st : Store) (hk : st[k0]? = some (.lst (vs.map .int))) (hl : vs.length ≤ 55) :
    ∃ (ws : List W) (k kr ki : Nat) (g : Store), callF ft gl wf (n + 4) id [.ref k0] st = .ok (.ref k) (st ++ g) ∧ (st ++ g)[k]? = some (.lst [.ref kr, .ref ki]) ∧ (st ++ g)[kr]? = some (.lst (ws.map .str)) ∧ (st ++ g)[ki]? = some (.lst (encs (goes [[]] ws))) ∧ ws.length = vs.length ∧ (∀ w ∈ ws, Rw w ∧ Tk w) ∧ Good [goes [[]] ws] ∧ wts (goes [[]] ws) ≤ ws.length := by
  have hL := (((Lo.start st).new []).new []).new [.ref (st ++ [Cell.lst []]).length]
  have hL' : Lo st (st ++ [Cell.lst []] ++ [Cell.lst []] ++ [Cell.lst [.ref (st ++ [Cell.lst []]).length]]) (Ms st.length (st ++ [Cell.lst []] ++ [Cell.lst []]).length [] [] (st ++ [Cell.lst []]).length [] []) := by
    refine hL.perm ?_
    exact (List.perm_append_comm (l₁ := [((st ++ [Cell.lst []] ++ [Cell.lst []]).length, [PV.ref (st ++ [Cell.lst []]).length]), ((st ++ [Cell.lst []]).length, [])]) (l₂ := [(st.length, [])]))
  obtain ⟨ws, rs', r', lls', t', q, q4, q5, q6, q7, st1, e2, h2, n2, g2, t2, r2, s2, l2, w3⟩ := loop_build (ft := ft) (gl := gl) (wf := wf) (n := n) F L hk vs [] [] _ [] [] none none none none none _ hL' rfl (by intro l hl; simp at hl; subst hl; exact ⟨fun _ h => (nomatch h), fun _ h => (nomatch h)⟩) (by simp [total, wts]) (by simp; omega) (by simp)
  simp only [List.nil_append] at h2 t2 r2
  obtain ⟨qi, items, o5', o6', o7', st2, k1, k2, k3, k4, k5⟩ := loop_shut (ft := ft) (gl := gl) (wf := wf) (n := n) F (some (.ref k0)) q q4 wf rs' r' lls' t' q5 q6 q7 st1 h2 n2 g2 (by omega) (by omega)
  have ei : items = goes [[]] ws := by
    rw [k3, s2]
    rfl
  rw [ei] at k2 k4 k5
  have ckr := k2.get (p := (st.length, ws.map .str)) (by simp)
  have cks := k2.get (p := ((st ++ [Cell.lst []] ++ [Cell.lst []]).length, ([] ++ [qi]).map .ref)) (by simp)
  have cki := k2.get (p := (qi, encs (goes [[]] ws))) (by simp)
  obtain ⟨g, hg⟩ := k2.pre
  refine ⟨ws, st2.length, st.length, qi, g ++ [.lst [.ref st.length, .ref qi]], ?_, ?_, ?_, ?_, l2, w3, k4, by omega⟩
  · rw [callF_def hid rfl]
    simp only [ckx] at e2 k1
    have i0 : idxF (.ref (st ++ [Cell.lst []] ++ [Cell.lst []]).length) (.int 0) st2 = .ok (.ref qi) st2 := by
      rw [idxR cks]
      rfl
    simp [-List.append_assoc, -List.length_append, L82.fn__law_build, walkG_ref (app_get (app_get (app_get hk))), e2, k1, i0]
    rw [← hg]
    simp [List.append_assoc]
  · rw [← List.append_assoc, hg]
    exact at_end
  · rw [← List.append_assoc, hg]
    exact app_get ckr
  · rw [← List.append_assoc, hg]
    exact app_get cki
end
end K82
end
set_option maxRecDepth 100000
set_option maxHeartbeats 4000000
/-! KF82 (k82): the law. -/
noncomputable section
namespace L82
open GI PySem RA SA K82
theorem hR : Rs tx.ft tx.gl := by
  refine { isName := ?_, isNumber := ?_, isOdd := ?_, letters := ?_, figures := ?_, noNames := ?_, notOdd := ?_, gap := ?_, leaf_of := ?_, name_from := ?_, part_begins := ?_, past_word := ?_, read := ?_, read_call := ?_, read_form := ?_, read_function := ?_, read_if := ?_, read_let := ?_, read_part := ?_, read_sum := ?_, held_pieces := ?_, pieces_of := ?_ } <;> rfl
theorem hL : Lw tx.ft := by
  refine { alike := ?_, cells := ?_, leaf := ?_, long := ?_, name := ?_, number := ?_, odd := ?_, signs := ?_, taken := ?_ } <;> rfl
theorem hK : Kf tx.ft := by
  refine { nest := ?_, sums := ?_, inside := ?_ } <;> rfl
theorem law_run (ns : List Int) (hl : ns.length ≤ 63) : ∃ st, callF tx.ft tx.gl 1000000 680 dd_law.id [.frl (ns.map .int)] [] = .ok (.bl true) st := by
  obtain ⟨vs, x1, v1, v2, c1⟩ := law_cells (ft := tx.ft) (gl := tx.gl) (wf := 1000000) hL ns 1 55 hl
  obtain ⟨us, x2, u1, u2, c2⟩ := law_cells (ft := tx.ft) (gl := tx.gl) (wf := 1000000) hL ns 0 1 hl
  have c1 := c1 678 []
  obtain ⟨ws, k, kr, ki, g1, b1, b2, b3, b4, b5, b6, b7, b8⟩ := law_build (ft := tx.ft) (gl := tx.gl) (wf := 1000000) (n := 675) hK hL (id := 1004) rfl (by decide) vs ([] ++ [x1]).length ([] ++ [x1] ++ [.lst (vs.map .int)]) at_end v1
  generalize hS0 : [] ++ [x1] ++ [Cell.lst (vs.map .int)] = S0 at c1 b1 b2 b3 b4
  generalize hS1 : S0 ++ g1 = S1 at b1 b2 b3 b4
  generalize ([] ++ [x1]).length = K0 at c1 b1
  have c2 := c2 678 S1
  have cs := sum_ref (st := S1 ++ [x2] ++ [.lst (us.map .int)]) at_end
  obtain ⟨t, t1, t2, t3, g3, t4⟩ := law_text (ft := tx.ft) (gl := tx.gl) (wf := 1000000) (n := 678) (id := 1000) rfl ws us.sum kr (S1 ++ [x2] ++ [.lst (us.map .int)]) (app_get (app_get b3)) (fun x hx => (b6 x hx).1) (by omega)
  generalize hS2 : S1 ++ [x2] ++ [Cell.lst (us.map .int)] = S2 at c2 cs t4
  have ki2 : S2[ki]? = some (.lst (encs (goes [[]] ws))) := by rw [← hS2]; exact app_get (app_get b4)
  generalize hS3 : S2 ++ g3 = S3 at t4
  have ki3 : S3[ki]? = some (.lst (encs (goes [[]] ws))) := by rw [← hS3]; exact app_get ki2
  have seg := row_seg ws fun w hw => (b6 w hw).2
  have g7 := b7 (goes [[]] ws) (by simp)
  generalize goes [[]] ws = its at seg ki3 b8 g7
  have sm : Small its := small_of g7.2 (by omega)
  have le := wts_len its
  obtain ⟨g4, i4⟩ := law_inside (ft := tx.ft) (gl := tx.gl) (wf := 1000000) (n := 676) hK its ki S3 ki3 sm g7.1 (by omega)
  have idp := inside_dp its
  have iok := inside_ok its g7.2
  generalize hS4 : S3 ++ g4 = S4 at i4
  have ki4 : S4[ki]? = some (.lst (encs its)) := by rw [← hS4]; exact app_get ki3
  -- read once
  have rd1 := (seg_rd seg).mono (e := 670) (by omega)
  have ht : ∀ c ∈ t, c < 1114112 := fun c hc => by have := t3 c hc; omega
  have tl : t.length ≤ 3500 := by omega
  rw [← t1] at rd1
  have rd := fun S => read_ok (ft := tx.ft) (gl := tx.gl) (wf := 1000000) hR rd1 ht (by rw [SL_eq]; omega) (by omega) (by decide) S
  obtain ⟨g5, r5⟩ := rd S4
  have al := fun S => law_alike (ft := tx.ft) (gl := tx.gl) (wf := 1000000) hL (inside its) 679 S iok (by omega)
  generalize hS5 : S4 ++ g5 = S5 at r5
  have ki5 : S5[ki]? = some (.lst (encs its)) := by rw [← hS5]; exact app_get ki4
  -- read behind another text
  have l7 : RA.leafOf [55] [] = some (fNum 7) := leaf_number (w := [55]) (by decide +kernel) []
  have f7 : (fNum 7).Ok := ⟨by decide +kernel, gn_int _⟩
  have seg2 : Seg (4 * ws.length) (.f (fNum 7) :: .op [45] :: its) (hld (pcs ([55, 32, 45, 10] ++ t) []) 0) [] := by
    have e : pcs ([55, 32, 45, 10] ++ t) [] = [55] :: [45] :: pcs t [] := rfl
    rw [e, t1]
    exact .leaf l7 (.op (.inr (.inl rfl)) seg)
  have rd2 := (seg_rd seg2).mono (e := 670) (by omega)
  obtain ⟨g6, r6⟩ := read_ok (ft := tx.ft) (gl := tx.gl) (wf := 1000000) hR rd2 (by
    intro c hc
    rcases List.mem_append.mp hc with z | z
    · simp at z
      omega
    · exact ht c z) (by rw [SL_eq]; simp; omega) (by simp; omega) (by decide) S5
  generalize hS6 : S5 ++ g6 = S6 at r6
  have ki6 : (S6 ++ [Cell.lst [(fNum 7).enc, .str [45]]])[ki]? = some (.lst (encs its)) := by rw [← hS6]; exact app_get (app_get ki5)
  have add := bin_addR (st := S6 ++ [Cell.lst [(fNum 7).enc, .str [45]]]) at_end ki6
  rw [if_pos (by rw [SL_eq, List.length_map]; simp; omega)] at add
  have sm2 : Small (.f (fNum 7) :: .op [45] :: its) := fun x hx => by
    simp only [List.mem_cons, Itm.f.injEq, reduceCtorEq, false_or] at hx
    rcases hx with rfl | hx
    · exact ⟨f7, by decide⟩
    · exact sm x hx
  have ops2 : Ops (.f (fNum 7) :: .op [45] :: its) := fun w hw => by
    simp only [List.mem_cons, reduceCtorEq, Itm.op.injEq, false_or] at hw
    rcases hw with rfl | hw
    · exact .inr (.inl rfl)
    · exact g7.1 w hw
  obtain ⟨g8, i8⟩ := law_inside (ft := tx.ft) (gl := tx.gl) (wf := 1000000) (n := 676) hK (.f (fNum 7) :: .op [45] :: its) (S6 ++ [Cell.lst [(fNum 7).enc, .str [45]]]).length (S6 ++ [Cell.lst [(fNum 7).enc, .str [45]]] ++ [.lst ([(fNum 7).enc, .str [45]] ++ encs its)]) at_end sm2 ops2 (by simp; omega)
  have w2 : wts (.f (fNum 7) :: .op [45] :: its) = 2 + wts its := by
    have : (fNum 7).dp = 0 := rfl
    simp [wts, wt, this]
    omega
  have idp2 := inside_dp (.f (fNum 7) :: .op [45] :: its)
  have iok2 := inside_ok (.f (fNum 7) :: .op [45] :: its) fun x hx => (sm2 x hx).1
  have al2 := fun S => law_alike (ft := tx.ft) (gl := tx.gl) (wf := 1000000) hL (inside (.f (fNum 7) :: .op [45] :: its)) 679 S iok2 (by omega)
  generalize hS8 : S6 ++ [Cell.lst [(fNum 7).enc, .str [45]]] ++ [Cell.lst ([(fNum 7).enc, .str [45]] ++ encs its)] ++ g8 = S8 at i8
  obtain ⟨g9, r9⟩ := rd S8
  refine ⟨S8 ++ g9, ?_⟩
  have hid : tx.ft dd_law.id = some fn_law := rfl
  have ls : 4 + t.length ≤ SL := by rw [SL_eq]; omega
  simp only [fNum, Fm.enc] at add i8
  rw [show (680 : Nat) = 679 + 1 from rfl, callF_def hid rfl]
  have c1' : callF tx.ft tx.gl 1000000 679 2020 [.frl (ns.map .int), .int 1, .int 55] [] = .ok (.ref K0) S0 := c1
  have b1' : callF tx.ft tx.gl 1000000 679 1004 [.ref K0] S0 = .ok (.ref k) S1 := b1
  have c2' : callF tx.ft tx.gl 1000000 679 2020 [.frl (ns.map .int), .int 0, .int 1] S1 = .ok (.ref (S1 ++ [x2]).length) S2 := c2
  have t4' : callF tx.ft tx.gl 1000000 679 1000 [.ref kr, .int us.sum] S2 = .ok (.str t) S3 := t4
  have i4' : callF tx.ft tx.gl 1000000 679 1003 [.ref ki] S3 = .ok (inside its).enc S4 := i4
  have r5' : callF tx.ft tx.gl 1000000 679 344 [.str t] S4 = .ok (inside its).enc S5 := r5
  have r6' : callF tx.ft tx.gl 1000000 679 344 [.str (55 :: 32 :: 45 :: 10 :: t)] S5 = .ok (inside (.f (fNum 7) :: .op [45] :: its)).enc S6 := r6
  have r9' : callF tx.ft tx.gl 1000000 679 344 [.str t] S8 = .ok (inside its).enc (S8 ++ g9) := r9
  simp only [List.cons_append, List.nil_append] at add i8
  generalize (S6 ++ [Cell.lst [PV.tup [PV.str [110, 117, 109], PV.int 7, PV.tup []], PV.str [45]]]).length = K6 at add i8
  generalize S6 ++ [Cell.lst [PV.tup [PV.str [110, 117, 109], PV.int 7, PV.tup []], PV.str [45]]] ++ [Cell.lst (PV.tup [PV.str [110, 117, 109], PV.int 7, PV.tup []] :: PV.str [45] :: encs its)] = S7 at add i8
  have i8' : callF tx.ft tx.gl 1000000 679 1003 [.ref K6] S7 = .ok (inside (.f (fNum 7) :: .op [45] :: its)).enc S8 := i8
  simp [-List.append_assoc, -List.length_append, fn_law, c1', b1', asgTG_ref2 b2, c2', cs, t4', i4', r5', al, ls, r6', add, i8', al2, r9']
end L82
end
set_option maxRecDepth 100000
set_option maxHeartbeats 0
open PySem PySem.W PySem.Calls PyProof.Rows
theorem PySem.Challenge.cw_gapscribe_k82_sums_and_less_read_holds : PySem.Challenge.rw_gapscribe_k82_sums_and_less_read.Holds := by
  w_on; o_law
  refine HandSHeadRun.head_any (r := OpenLaw.row PySem.Challenge.rw_gapscribe_k82_sums_and_less_read) (q := view (OpenLaw.row PySem.Challenge.rw_gapscribe_k82_sums_and_less_read).prog [40]) (H := L82.tx.hk 4) (ob := L82.tx.ob 4) (M := 4000) (loose := L82.loose) (d := HandSHeadRun.topDef (OpenLaw.row PySem.Challenge.rw_gapscribe_k82_sums_and_less_read).prog 40) (kwd := []) (L82.tx.ob_eq 4)
    (by kernel_rfl) (fun s => by kernel_rfl) L82.run (by kernel_rfl) (by kernel_rfl) (by kernel_rfl) (by rfl) (by first | assumption | decide +kernel) (by decide +kernel) ⟨rfl, rfl, rfl, rfl, rfl, by decide +kernel⟩ ?hw ?hc
  case hw => w_witness2
  case hc =>
    exact GI.Tx.walk (l := PySem.Challenge.rw_gapscribe_k82_sums_and_less_read) (px := "_law_script") (wf := 1000000) L82.tx L82.ok (d := L82.dd_law) (by simp [L82.tx]) rfl (by kernel_rfl) rfl (by kernel_rfl) rfl L82.law_run
