import PyProof.Rows.All
import PySem.PyData
import HandS.ForMost
import HandS.Wide
import HandS.Deep
import HandS.TupAny
import HandS.TupLe
import HandS.Flow
import HandS.Star
import HandS.Walk
import HandS.Style
import HandS.NoneIn
import PyProof.EnumMake
import HandS.TupLen
import HandS.WordsDict
import HandS.IsInst
import HandS.RaiseMore
import PyProof.Rows.SortShellAny
import HandS.DictComp
import HandS.Replace
import HandS.FStr
import HandS.Small
import HandS.OwnEq
import HandS.ClsMeth
import HandS.Comp
import HandS.SortOrd
import HandS.SortInts
import PyProof.CallFns
import KE.KRevSl
import PyProof.StrBlock2
import OpenK.KMeth
import HandS.Exc
import HandS.ExcInit
import HandS.ExcOwn
import HandS.ExcField
import HandS.ExcIs
import KE.KExcIs
import HandS.SetTxt0
import HandS.SetFor
import PyProof.ReprRoads
import HandS.Ends
import HandS.Text
import PySem.Challenge.RW_leavelots_k13_who_has_to_stay
set_option Elab.async false
set_option linter.all false
set_option maxRecDepth 100000
/-! Mi, part A: values, a store of the objects that change, the small language, its evaluator. -/
namespace Mi
open PySem

inductive Val where
  | non | bl (b : Bool) | int (i : Int) | str (x : Str)
  | tup (xs : List Val) | wt (xs : List Val) | wl (xs : List Val) | fl (xs : List Val) | ref (i : Nat) | ins (c : Nat) (fs : List (Str × Val)) | cl (c : Nat)
deriving Inhabited

mutual
def Val.beq : Val → Val → Bool
  | .non, .non => true
  | .bl a, .bl b => a == b
  | .int a, .int b => a == b
  | .str a, .str b => a == b
  | .tup xs, .tup ys => Val.beqL xs ys
  | .wt xs, .wt ys => Val.beqL xs ys
  | .wl xs, .wl ys => Val.beqL xs ys
  | .fl xs, .fl ys => Val.beqL xs ys
  | .ref i, .ref j => i == j
  | .ins c fs, .ins d gs => c == d && Val.beqF fs gs
  | .cl a, .cl b => a == b
  | _, _ => false
def Val.beqL : List Val → List Val → Bool
  | [], [] => true
  | x :: xs, y :: ys => Val.beq x y && Val.beqL xs ys
  | _, _ => false
def Val.beqF : List (Str × Val) → List (Str × Val) → Bool
  | [], [] => true
  | (f, x) :: xs, (g, y) :: ys => f == g && Val.beq x y && Val.beqF xs ys
  | _, _ => false
end
mutual
theorem Val.beq_refl : ∀ v : Val, v.beq v = true
  | .non => rfl
  | .bl a => by simp [Val.beq]
  | .int a => by simp [Val.beq]
  | .str a => by simp [Val.beq]
  | .tup xs => by simp [Val.beq, Val.beqL_refl xs]
  | .wt xs => by simp [Val.beq, Val.beqL_refl xs]
  | .wl xs => by simp [Val.beq, Val.beqL_refl xs]
  | .fl xs => by simp [Val.beq, Val.beqL_refl xs]
  | .ref i => by simp [Val.beq]
  | .ins c fs => by simp [Val.beq, Val.beqF_refl fs]
  | .cl a => by simp [Val.beq]
theorem Val.beqL_refl : ∀ xs : List Val, Val.beqL xs xs = true
  | [] => rfl
  | x :: xs => by simp [Val.beqL, Val.beq_refl x, Val.beqL_refl xs]
theorem Val.beqF_refl : ∀ xs : List (Str × Val), Val.beqF xs xs = true
  | [] => rfl
  | (f, x) :: xs => by simp [Val.beqF, Val.beq_refl x, Val.beqF_refl xs]
end
mutual
theorem Val.eq_of_beq : ∀ {v u : Val}, v.beq u = true → v = u
  | .non, u, h => by cases u <;> simp_all [Val.beq]
  | .bl a, u, h => by cases u <;> simp_all [Val.beq]
  | .int a, u, h => by cases u <;> simp_all [Val.beq]
  | .str a, u, h => by cases u <;> simp_all [Val.beq]
  | .tup xs, u, h => by
    cases u <;> simp [Val.beq] at h
    rw [Val.eq_of_beqL h]
  | .wt xs, u, h => by
    cases u <;> simp [Val.beq] at h
    rw [Val.eq_of_beqL h]
  | .wl xs, u, h => by
    cases u <;> simp [Val.beq] at h
    rw [Val.eq_of_beqL h]
  | .fl xs, u, h => by
    cases u <;> simp [Val.beq] at h
    rw [Val.eq_of_beqL h]
  | .ref i, u, h => by cases u <;> simp_all [Val.beq]
  | .ins c fs, u, h => by
    cases u <;> simp [Val.beq] at h
    rw [h.1, Val.eq_of_beqF h.2]
  | .cl a, u, h => by cases u <;> simp_all [Val.beq]
theorem Val.eq_of_beqL : ∀ {xs ys : List Val}, Val.beqL xs ys = true → xs = ys
  | [], ys, h => by cases ys <;> simp_all [Val.beqL]
  | x :: xs, ys, h => by
    cases ys <;> simp [Val.beqL] at h
    rw [Val.eq_of_beq h.1, Val.eq_of_beqL h.2]
theorem Val.eq_of_beqF : ∀ {xs ys : List (Str × Val)}, Val.beqF xs ys = true → xs = ys
  | [], ys, h => by cases ys <;> simp_all [Val.beqF]
  | (f, x) :: xs, ys, h => by
    cases ys with
    | nil => simp [Val.beqF] at h
    | cons y ys =>
      obtain ⟨g, y⟩ := y
      simp [Val.beqF] at h
      rw [h.1.1, Val.eq_of_beq h.1.2, Val.eq_of_beqF h.2]
end
instance : DecidableEq Val := fun v u => if h : v.beq u = true then isTrue (Val.eq_of_beq h) else isFalse fun e => h (e ▸ Val.beq_refl v)

/-- an object that may change; a dict may be locked while a loop walks it -/
inductive Ob where
  | lst (xs : List Val) | dic (kvs : List (Val × Val)) (lk : Bool) | ins (c : Nat) (fs : List (Str × Val))
deriving Inhabited, DecidableEq
abbrev Store := List Ob
structure Exc where
  c : Nat
  fs : List (Str × Val)
inductive Res (α : Type) where
  | ok (a : α) (st : Store) | exc (e : Exc) (st : Store) | no
def Res.bnd {α β : Type} : Res α → (α → Store → Res β) → Res β
  | .ok a st, f => f a st
  | .exc e st, _ => .exc e st
  | .no, _ => .no
@[simp] theorem Res.bnd_ok {α β : Type} (a : α) (st : Store) (f : α → Store → Res β) : (Res.ok a st).bnd f = f a st := rfl
@[simp] theorem Res.bnd_no {α β : Type} (f : α → Store → Res β) : (Res.no : Res α).bnd f = .no := rfl
@[simp] theorem Res.bnd_exc {α β : Type} (e : Exc) (st : Store) (f : α → Store → Res β) : (Res.exc e st : Res α).bnd f = .exc e st := rfl
def opt {α : Type} (o : Option α) (st : Store) : Res α := match o with | some a => .ok a st | none => .no

/-! ### what values hold -/
def lstOf (st : Store) : Val → Option (List Val)
  | .fl xs => some xs
  | .wl xs => some xs
  | .ref i => match st[i]? with | some (.lst xs) => some xs | _ => none
  | _ => none
/-- a list that may be joined to another one -/
def lstJ (st : Store) : Val → Option (List Val)
  | .wl _ => none
  | v => lstOf st v
def seqOf (st : Store) : Val → Option (List Val)
  | .tup xs => some xs
  | .wt xs => some xs
  | v => lstOf st v
def dicOf (st : Store) : Val → Option (List (Val × Val) × Bool)
  | .ref i => match st[i]? with | some (.dic kvs lk) => some (kvs, lk) | _ => none
  | _ => none
def fldsOf (st : Store) : Val → Option (Nat × List (Str × Val))
  | .ins c fs => some (c, fs)
  | .ref i => match st[i]? with | some (.ins c fs) => some (c, fs) | _ => none
  | _ => none
mutual
/-- no reference at n or above (a frozen instance bears none) -/
def Val.blw (n : Nat) : Val → Bool
  | .ref i => decide (i < n)
  | .tup xs => Val.blwL n xs
  | .wt xs => Val.blwL n xs
  | .wl xs => Val.blwL n xs
  | .fl xs => Val.blwL n xs
  | _ => true
def Val.blwL (n : Nat) : List Val → Bool
  | [] => true
  | x :: xs => x.blw n && Val.blwL n xs
end
def Val.blwF (n : Nat) : List (Str × Val) → Bool
  | [] => true
  | (_, x) :: xs => x.blw n && Val.blwF n xs
def Val.blwD (n : Nat) : List (Val × Val) → Bool
  | [] => true
  | (k, x) :: xs => k.blw n && x.blw n && Val.blwD n xs
def Ob.blw (n : Nat) : Ob → Bool
  | .lst xs => Val.blwL n xs
  | .dic kvs _ => Val.blwD n kvs
  | .ins _ fs => Val.blwF n fs
def mapO {α β : Type} (f : α → Option β) : List α → Option (List β)
  | [] => some []
  | x :: xs => match f x, mapO f xs with | some y, some ys => some (y :: ys) | _, _ => none
/-- a value as data, to a depth -/
def dat (st : Store) : Nat → Val → Option PyData
  | 0, _ => none
  | n + 1, v => match v with
    | .non => some .none
    | .bl b => some (.bool b)
    | .int i => some (.int i)
    | .str x => if PyData.strOk x then some (.str x) else none
    | .tup xs => (mapO (dat st n) xs).map PyData.tuple
    | .wt xs => (mapO (dat st n) xs).map PyData.tuple
    | .wl xs => (mapO (dat st n) xs).map PyData.list
    | .fl xs => (mapO (dat st n) xs).map PyData.list
    | .ref i => match st[i]? with | some (.lst xs) => (mapO (dat st n) xs).map PyData.list | _ => none
    | .ins _ _ => none
    | .cl _ => none
end Mi

/-! Mi, part B: operations on values, the small language, its evaluator. -/
namespace Mi
open PySem L2

/-! ### the language -/
/-- what is walked: a value; range; enumerate; zip; d.items() -/
inductive ItK where
  | val | rng | enum | zip | items
deriving DecidableEq
inductive Tg where
  | nm (i : Nat) | tp (gs : List Tg)
inductive IE where
  | cst (v : Val) | var (i : Nat)
  | bin (mt : Bool) (op : Operator) (a b : IE) | neg (a : IE)
  | bnot (a : IE) | band (a b : IE) | bor (a b : IE)
  | cmp (op : CmpOp) (a b : IE) | cmp2 (op op' : CmpOp) (a b c : IE)
  | ite (c a b : IE)
  | tup (xs : List (Bool × IE)) | lst (mt : Bool) (xs : List (Bool × IE)) | dic (kvs : List (IE × IE))
  | attr (o : IE) (f : Str) | idx (o i : IE) | slc (mt : Bool) (o : IE) (lo hi : Option IE) | rev (mt : Bool) (o : IE)
  | call (f : Str) (xs : List IE) | make (c : Nat) (xs : List IE) | meth (mt : Bool) (o : IE) (m : Str) (xs : List IE)
  | bi (mt : Bool) (b : Str) (xs : List IE) | isi (a : IE) (ts : List Str)
  | lc (mt : Bool) (own : List Nat) (tg : Tg) (k : ItK) (its : List IE) (c : Option IE) (e : IE)
  | lc2 (mt : Bool) (own own1 : List Nat) (tg : Tg) (k : ItK) (its : List IE) (c : Option IE) (tg1 : Tg) (k1 : ItK) (its1 : List IE) (c1 : Option IE) (e : IE)
  | dc (own : List Nat) (tg : Tg) (k : ItK) (its : List IE) (ke e : IE)
  | fstr (ps : List IE)
inductive IS where
  | asg (tg : Tg) (e : IE) | aug (i : Nat) (op : Operator) (e : IE)
  | setI (o i e : IE) | setA (o : IE) (f : Str) (e : IE)
  | expr (e : IE) | ife (c : IE) (a b : List IS) | whil (c : IE) (b : List IS)
  | forr (tg : Tg) (k : ItK) (its : List IE) (b : List IS)
  | ret (e : IE) | retN | brk | cont | pass | bad

/-! ### operations -/
def lim : Nat := 1000000
def newL (mt : Bool) (xs : List Val) (st : Store) : Res Val := if mt then .ok (.ref st.length) (st ++ [.lst xs]) else .ok (.fl xs) st
def scalarKey : Val → Bool
  | .int _ => true
  | .str _ => true
  | _ => false
def isKey : Val → Bool
  | .int _ => true
  | .str _ => true
  | .tup xs => xs.all scalarKey
  | _ => false
/-- a key that may be asked of a dict with such keys -/
def keyFits (kvs : List (Val × Val)) (lk : Bool) (k : Val) : Bool := isKey k && (match kvs with
  | [] => !lk
  | (a, _) :: _ => scalarKey a == scalarKey k)
def dget (kvs : List (Val × Val)) (k : Val) : Option Val := (kvs.find? fun kv => decide (kv.1 = k)).map (·.2)
def dput (kvs : List (Val × Val)) (k v : Val) : List (Val × Val) :=
  if (kvs.any fun kv => decide (kv.1 = k)) = true then kvs.map (fun kv => if kv.1 = k then (kv.1, v) else kv) else kvs ++ [(k, v)]
def truth (st : Store) : Val → Option Bool
  | .non => some false
  | .bl b => some b
  | .int i => some (i != 0)
  | .str x => if x.length ≤ lim then some ((x.length : Int) != 0) else none
  | .tup xs => some (!xs.isEmpty)
  | .wt xs => some (!xs.isEmpty)
  | .wl xs => some (!xs.isEmpty)
  | .fl xs => some (!xs.isEmpty)
  | .ref i => match st[i]? with | some (.lst xs) => some (!xs.isEmpty) | _ => none
  | .ins _ _ => none
  | .cl _ => none
def in64 (i : Int) : Bool := decide (-(2 ^ 64) < i) && decide (i < 2 ^ 64)
def tupJ : Val → Option (List Val)
  | .tup xs => some xs
  | .wt xs => some xs
  | _ => none
/-- two tuples, one of them written -/
def catW (x y : Val) (xs ys : List Val) (st : Store) : Res Val :=
  if xs.length + ys.length ≤ lim then (if xs.isEmpty then .ok y st else if ys.isEmpty then .ok x st else .ok (.tup (xs ++ ys)) st) else .no
def binop (mt : Bool) (op : Operator) (x y : Val) (st : Store) : Res Val := match op with
  | .Add => match x, y with
    | .int i, .int j => .ok (.int (i + j)) st
    | .str a, .str b => if a.length + b.length ≤ lim then .ok (.str (a ++ b)) st else .no
    | .tup xs, .tup ys => if xs.length + ys.length ≤ lim then .ok (.tup (xs ++ ys)) st else .no
    | .wt xs, y => (match tupJ y with | some ys => catW (.wt xs) y xs ys st | none => .no)
    | .tup xs, .wt ys => catW (.tup xs) (.wt ys) xs ys st
    | x, y => match lstJ st x, lstJ st y with
      | some xs, some ys => if xs.length + ys.length ≤ lim then newL mt (xs ++ ys) st else .no
      | _, _ => .no
  | .Sub => match x, y with | .int i, .int j => .ok (.int (i - j)) st | _, _ => .no
  | .Mult => match x, y with
    | .int i, .int j => if in64 i || in64 j then .ok (.int (i * j)) st else .no
    | _, _ => .no
  | .FloorDiv => match x, y with | .int i, .int j => if 0 < j ∧ j < 1073741824 then .ok (.int (i / j)) st else .no | _, _ => .no
  | .Mod => match x, y with | .int i, .int j => if 0 < j then .ok (.int (i % j)) st else .no | _, _ => .no
  | .Pow => match x, y with | .int i, .int j => if 0 ≤ j ∧ j ≤ 1000 ∧ in64 i = true then .ok (.int (i ^ j.toNat)) st else .no | _, _ => .no
  | _ => .no
/-- scalars that == tells apart as they are -/
def scalE : Val → Val → Option Bool
  | .non, .non => some true
  | .non, .int _ => some false | .non, .bl _ => some false | .non, .str _ => some false
  | .int _, .non => some false | .bl _, .non => some false | .str _, .non => some false
  | .int i, .int j => some (decide (i = j)) | .bl a, .bl b => some (decide (a = b)) | .str x, .str y => some (decide (x = y))
  | .int _, .str _ => some false | .str _, .int _ => some false | .bl _, .str _ => some false | .str _, .bl _ => some false
  | _, _ => none
def pyEq (st : Store) (x y : Val) : Option Bool := match scalE x y with
  | some b => some b
  | none => match dat st 12 x, dat st 12 y with
    | some d, some e => some (PyData.eqv d e)
    | _, _ => none
def pyInS (st : Store) (x y : Val) : Option Bool := match seqOf st y with
  | some ys => match dat st 12 x, mapO (dat st 12) ys with
    | some d, some es => some (es.any fun e => PyData.eqv e d)
    | _, _ => none
  | none => match dicOf st y with
    | some (kvs, lk) => if keyFits kvs lk x then some (dget kvs x).isSome else none
    | none => none
def pyIn (st : Store) (x y : Val) : Option Bool := match y with
  | .str b => match x with | .str a => some (!(Builtin.Str.occurrences b a 0 b.length 1).isEmpty) | _ => none
  | y => pyInS st x y
def cmpop (op : CmpOp) (x y : Val) (st : Store) : Option Bool := match op with
  | .Eq => pyEq st x y
  | .NotEq => (pyEq st x y).map (!·)
  | .Lt => match x, y with | .int i, .int j => some (decide (i < j)) | .str a, .str b => some (decide (a.cps.toList < b.cps.toList)) | _, _ => none
  | .LtE => match x, y with | .int i, .int j => some (decide (i ≤ j)) | _, _ => none
  | .Gt => match x, y with | .int i, .int j => some (decide (j < i)) | _, _ => none
  | .GtE => match x, y with | .int i, .int j => some (decide (j ≤ i)) | _, _ => none
  | .In => pyIn st x y
  | .NotIn => (pyIn st x y).map (!·)
  | .Is => match y with | .non => some (decide (x = .non)) | .bl b => (match x with | .bl a => some (decide (a = b)) | _ => none) | _ => none
  | .IsNot => match y with | .non => some (!decide (x = .non)) | .bl b => (match x with | .bl a => some (!decide (a = b)) | _ => none) | _ => none
def indexS (o i : Val) (st : Store) : Option Val := match seqOf st o with
  | some xs => match i with | .int k => atI xs k | _ => none
  | none => match dicOf st o with
    | some (kvs, lk) => if keyFits kvs lk i then dget kvs i else none
    | none => none
def strAt (x : Str) (i : Val) : Option Val := match i with
  | .int k => if x.length ≤ lim then (atI x.cps.toList k).map (fun c => .str ⟨#[c]⟩) else none
  | _ => none
def index (o i : Val) (st : Store) : Option Val := match o with
  | .str x => strAt x i
  | o => indexS o i st
end Mi

/-! Mi, part C: the evaluator. -/
namespace Mi
open PySem L2

abbrev Env := List (Option Val)
def startE (n : Nat) (vs : List Val) : Env := vs.map some ++ List.replicate (n - vs.length) none
def wipeE (σ : Env) : List Nat → Env
  | [] => σ
  | v :: vs => (wipeE σ vs).set v none

/-- a def: how many parameters, slots; defaults of the last ones; its body; whether a list that it returns may be changed -/
structure FD where
  ps : Nat
  N : Nat
  dfl : List Val
  body : List IS
  rm : Bool
structure CD where
  frz : Bool
  meths : List (Str × FD)
structure Tab where
  funs : List (Str × FD)
  clss : List CD

structure Rc where
  e : IE → Env → Store → Res Val
  ss : List IS → Env → Store → Res (Option (Option Val) × Env)
  call : Str → List Val → Store → Res Val
  make : Nat → List Val → Store → Res Val
  meth : Nat → Str → List Val → Store → Res Val

def bool (o : Option Bool) (st : Store) : Res Val := match o with | some b => .ok (.bl b) st | none => .no
def evL (f : IE → Store → Res Val) : List IE → Store → Res (List Val)
  | [], st => .ok [] st
  | e :: es, st => (f e st).bnd fun v st => (evL f es st).bnd fun vs st => .ok (v :: vs) st
def evSL (f : IE → Store → Res Val) : List (Bool × IE) → Store → Res (List Val)
  | [], st => .ok [] st
  | (false, e) :: es, st => (f e st).bnd fun v st => (evSL f es st).bnd fun vs st => .ok (v :: vs) st
  | (true, e) :: es, st => (f e st).bnd fun v st => match seqOf st v with
    | some xs => (evSL f es st).bnd fun vs st => .ok (xs ++ vs) st
    | none => .no
def evO (f : IE → Store → Res Val) : Option IE → Store → Res (Option Int)
  | none, st => .ok none st
  | some e, st => (f e st).bnd fun v st => match v with | .int i => .ok (some i) st | _ => .no
def evD (f : IE → Store → Res Val) : List (IE × IE) → Store → Res (List (Val × Val))
  | [], st => .ok [] st
  | (k, e) :: es, st => (f k st).bnd fun a st => (f e st).bnd fun v st => (evD f es st).bnd fun r st => .ok ((a, v) :: r) st
def mkD : List (Val × Val) → List (Val × Val) → List (Val × Val)
  | acc, [] => acc
  | acc, (k, v) :: r => mkD (dput acc k v) r

/-! ### targets -/
mutual
def asg (g : Tg) (v : Val) (σ : Env) (st : Store) : Option Env := match g with
  | .nm i => if i < σ.length then some (σ.set i (some v)) else none
  | .tp gs => match seqOf st v with
    | some xs => asgL gs xs σ st
    | none => none
def asgL (gs : List Tg) (vs : List Val) (σ : Env) (st : Store) : Option Env := match gs, vs with
  | [], [] => some σ
  | g :: gs, v :: vs => match asg g v σ st with
    | some σ => asgL gs vs σ st
    | none => none
  | _, _ => none
end

mutual
def Tg.slots : Tg → List Nat
  | .nm i => [i]
  | .tp gs => Tg.slotsL gs
def Tg.slotsL : List Tg → List Nat
  | [] => []
  | g :: gs => g.slots ++ Tg.slotsL gs
end

/-! ### what is walked: the items, and what has to stand still (a list or dict of the store) -/
def enumFrom (n : Nat) : List Val → List Val
  | [] => []
  | x :: xs => .tup [.int (n : Int), x] :: enumFrom (n + 1) xs
def zipT : List Val → List Val → List Val
  | x :: xs, y :: ys => .tup [x, y] :: zipT xs ys
  | _, _ => []
def rngL (lo : Int) : Nat → List Val
  | 0 => []
  | n + 1 => .int lo :: rngL (lo + 1) n
inductive Gd where
  | none | lst (v : Val) (xs : List Val) | dic (v : Val) (kvs : List (Val × Val)) | two (v u : Val) (xs ys : List Val)
def Gd.ok (st : Store) : Gd → Bool
  | .none => true
  | .lst v xs => decide (lstOf st v = some xs)
  | .dic v kvs => decide (dicOf st v = some (kvs, true))
  | .two v u xs ys => decide (lstOf st v = some xs) && decide (lstOf st u = some ys)
def walkVal (v : Val) (st : Store) : Option (List Val × Gd × Store) := match v with
  | .tup xs => some (xs, .none, st)
  | .wt xs => some (xs, .none, st)
  | .str x => some (x.cps.toList.map fun c => .str ⟨#[c]⟩, .none, st)
  | .fl xs => some (xs, .lst v xs, st)
  | .wl xs => some (xs, .lst v xs, st)
  | .ref i => match st[i]? with
    | some (.lst xs) => some (xs, .lst v xs, st)
    | some (.dic kvs _) => some (kvs.map (·.1), .dic v kvs, st.set i (.dic kvs true))
    | _ => none
  | _ => none
def inRng : Int → Bool
  | .ofNat n => Nat.ble n 1000000
  | .negSucc n => Nat.ble n 999999
theorem inRng_iff (i : Int) : inRng i = true ↔ -1000000 ≤ i ∧ i ≤ 1000000 := by
  cases i with
  | ofNat n =>
    show Nat.ble n 1000000 = true ↔ _
    rw [Nat.ble_eq]
    constructor
    · intro h; exact ⟨by have : (0 : Int) ≤ Int.ofNat n := Int.natCast_nonneg n; omega, by show (n : Int) ≤ _; omega⟩
    · rintro ⟨_, h⟩; have h : (n : Int) ≤ 1000000 := h; omega
  | negSucc n =>
    show Nat.ble n 999999 = true ↔ _
    rw [Nat.ble_eq]
    constructor
    · intro h; rw [Int.negSucc_eq]; omega
    · rintro ⟨h, _⟩; rw [Int.negSucc_eq] at h; omega
def walkRng (vs : List Val) (st : Store) : Option (List Val × Gd × Store) := match vs with
  | [.int n] => if inRng n then some (rngL 0 n.toNat, .none, st) else none
  | [.int a, .int b] => if inRng a && inRng b then some (rngL a (b - a).toNat, .none, st) else none
  | _ => none
def walkEnum (v : Val) (st : Store) : Option (List Val × Gd × Store) := match v with
  | .tup xs => some (enumFrom 0 xs, .none, st)
  | .wt xs => some (enumFrom 0 xs, .none, st)
  | v => match lstOf st v with
    | some xs => some (enumFrom 0 xs, .lst v xs, st)
    | none => none
def walkZip (v u : Val) (st : Store) : Option (List Val × Gd × Store) := match lstOf st v, lstOf st u with
  | some xs, some ys => some (zipT xs ys, .two v u xs ys, st)
  | _, _ => none
def walkItems (v : Val) (st : Store) : Option (List Val × Gd × Store) := match v with
  | .ref i => match st[i]? with
    | some (.dic kvs _) => if kvs.all (fun p => scalarKey p.1) then some (kvs.map fun p => .tup [p.1, p.2], .dic (.ref i) kvs, st.set i (.dic kvs true)) else none
    | _ => none
  | _ => none
def walk (k : ItK) (vs : List Val) (st : Store) : Option (List Val × Gd × Store) := match k with
  | .val => match vs with | [v] => walkVal v st | _ => none
  | .rng => walkRng vs st
  | .enum => match vs with | [v] => walkEnum v st | _ => none
  | .zip => match vs with | [v, u] => walkZip v u st | _ => none
  | .items => match vs with | [v] => walkItems v st | _ => none

/-! ### comprehensions, loops -/
def lcL (g : Gd) (tg : Tg) (c : Env → Store → Res Bool) (f : Env → Store → Res Val) (σ : Env) : List Val → Store → Res (List Val)
  | [], st => .ok [] st
  | x :: xs, st => match asg tg x σ st with
    | none => .no
    | some σ' => (c σ' st).bnd fun b st =>
      if b then (f σ' st).bnd fun v st => if g.ok st then (lcL g tg c f σ xs st).bnd fun vs st => .ok (v :: vs) st else .no
      else if g.ok st then lcL g tg c f σ xs st else .no
def flow (r : Option (Option Val)) : Bool := r.isNone
def noX {α : Type} : Res α → Res α
  | .ok a st => .ok a st
  | _ => .no
/-- behind a statement: none: go on; some none: break or continue (told apart by the first letter) .. -/
inductive Fw where
  | nx | brk | ct | ret (v : Val)
def forL (g : Gd) (tg : Tg) (b : Env → Store → Res (Fw × Env)) : List Val → Env → Store → Res (Fw × Env)
  | [], σ, st => .ok (.nx, σ) st
  | x :: xs, σ, st => match asg tg x σ st with
    | none => .no
    | some σ' => (b σ' st).bnd fun r st => match r.1 with
      | .ret v => .ok (.ret v, r.2) st
      | .brk => .ok (.nx, r.2) st
      | _ => if g.ok st then forL g tg b xs r.2 st else .no
def whileL (c : Env → Store → Res Bool) (b : Env → Store → Res (Fw × Env)) : Nat → Env → Store → Res (Fw × Env)
  | 0, _, _ => .no
  | n + 1, σ, st => (c σ st).bnd fun t st => if t then (b σ st).bnd fun r st => match r.1 with
      | .ret v => .ok (.ret v, r.2) st
      | .brk => .ok (.nx, r.2) st
      | _ => whileL c b n r.2 st
    else .ok (.nx, σ) st
end Mi

/-! Mi, part S: how values, the store and the layer's heap belong together. -/
namespace Mi
open PySem PySem.Spec PyProof.Rows L2

/-- the written part, and where the classes stand -/
structure Gm where
  K : PySem.W.Frag
  cad : Nat → Addr

mutual
def Rep (G : Gm) (F : Hp) (m : Nat → Addr) (n : Nat) : Val → V → Prop
  | .non, v => v = .non
  | .bl b, v => v = .bl b
  | .int i, v => v = .int i
  | .str x, v => v = .str x
  | .tup xs, v => ∃ a vs, v = .ref a ∧ F a = some (.tup vs) ∧ RepL G F m n xs vs
  | .wt xs, v => ∃ a vs, v = .ref a ∧ SqT G.K F a vs ∧ RepL G F m n xs vs
  | .wl xs, v => ∃ a vs, v = .ref a ∧ SqL G.K F a vs ∧ RepL G F m n xs vs
  | .fl xs, v => ∃ a vs, v = .ref a ∧ F a = some (.lst vs) ∧ RepL G F m n xs vs
  | .ref i, v => i < n ∧ v = .ref (m i)
  | .ins c fs, v => ∃ a dx vs, v = .ref a ∧ F a = some (.ins (G.cad c) dx vs) ∧ RepF G F m 0 fs vs
  | .cl c, v => v = .ref (G.cad c)
def RepL (G : Gm) (F : Hp) (m : Nat → Addr) (n : Nat) : List Val → List V → Prop
  | [], vs => vs = []
  | x :: xs, vs => ∃ y ys, vs = y :: ys ∧ Rep G F m n x y ∧ RepL G F m n xs ys
def RepF (G : Gm) (F : Hp) (m : Nat → Addr) (n : Nat) : List (Str × Val) → List (Str × V) → Prop
  | [], vs => vs = []
  | (f, x) :: xs, vs => ∃ y ys, vs = (f, y) :: ys ∧ Rep G F m n x y ∧ RepF G F m n xs ys
end
def kVal : Key → Val
  | .inl i => .int i
  | .inr x => .str x
def RepDK (G : Gm) (F : Hp) (m : Nat → Addr) (n : Nat) : List (Val × Val) → List (Key × V) → Prop
  | [], vs => vs = []
  | (k, x) :: xs, vs => ∃ a y ys, vs = (a, y) :: ys ∧ k = kVal a ∧ Rep G F m n x y ∧ RepDK G F m n xs ys
def RepDT (G : Gm) (F : Hp) (m : Nat → Addr) (n : Nat) : List (Val × Val) → List (List Key × V) → Prop
  | [], vs => vs = []
  | (k, x) :: xs, vs => ∃ a y ys, vs = (a, y) :: ys ∧ k = .tup (a.map kVal) ∧ Rep G F m n x y ∧ RepDT G F m n xs ys
def RepD (G : Gm) (F : Hp) (m : Nat → Addr) (n : Nat) (kvs : List (Val × Val)) (u : HO) : Prop :=
  (∃ ks, u = .dK ks ∧ RepDK G F m n kvs ks) ∨ (∃ ks, u = .dT ks ∧ RepDT G F m n kvs ks)
def RepO (G : Gm) (F : Hp) (m : Nat → Addr) (n : Nat) : Ob → HO → Prop
  | .lst xs, u => ∃ vs, u = .lst vs ∧ RepL G F m n xs vs
  | .dic kvs false, u => RepD G F m n kvs u
  | .dic kvs true, u => ∃ o u', u = .frz o u' ∧ RepD G F m n kvs u'
  | .ins c fs, u => ∃ dx vs, u = .ins (G.cad c) dx vs ∧ RepF G F m n fs vs

theorem Same.sqT {K : PySem.W.Frag} {H H' : Hp} {a : Addr} {xs : List V} (e : Same H H') (h : SqT K H a xs) : SqT K H' a xs := by
  rcases h with (h | ⟨o, h⟩) | h
  · exact .inl (.inl (e _ _ h))
  · exact .inl (.inr ⟨o, e _ _ h⟩)
  · exact .inr h

section
variable {G : Gm} {F F' : Hp} {m m' : Nat → Addr} {n n' : Nat}
mutual
theorem Rep.ext' (hF : Same F F') : ∀ {v : Val} {x : V} {n n' : Nat}, (∀ i, i < n → m' i = m i) → n ≤ n' → Rep G F m n v x → Rep G F' m' n' v x
  | .non, _, _, _, _, _, h => h
  | .bl _, _, _, _, _, _, h => h
  | .int _, _, _, _, _, _, h => h
  | .str _, _, _, _, _, _, h => h
  | .tup xs, _, _, _, hm, hn, h => by
    unfold Rep at h ⊢
    obtain ⟨a, vs, e, h1, h2⟩ := h
    exact ⟨a, vs, e, hF _ _ h1, RepL.ext' hF hm hn h2⟩
  | .wt xs, _, _, _, hm, hn, h => by
    unfold Rep at h ⊢
    obtain ⟨a, vs, e, h1, h2⟩ := h
    exact ⟨a, vs, e, Same.sqT hF h1, RepL.ext' hF hm hn h2⟩
  | .wl xs, _, _, _, hm, hn, h => by
    unfold Rep at h ⊢
    obtain ⟨a, vs, e, h1, h2⟩ := h
    exact ⟨a, vs, e, hF.seq h1, RepL.ext' hF hm hn h2⟩
  | .fl xs, _, _, _, hm, hn, h => by
    unfold Rep at h ⊢
    obtain ⟨a, vs, e, h1, h2⟩ := h
    exact ⟨a, vs, e, hF _ _ h1, RepL.ext' hF hm hn h2⟩
  | .ref i, _, _, _, hm, hn, h => by
    unfold Rep at h ⊢
    exact ⟨Nat.lt_of_lt_of_le h.1 hn, by rw [hm i h.1]; exact h.2⟩
  | .ins c fs, _, _, _, hm, hn, h => by
    unfold Rep at h ⊢
    obtain ⟨a, dx, vs, e, h1, h2⟩ := h
    exact ⟨a, dx, vs, e, hF _ _ h1, RepF.ext' hF (fun i hi => absurd hi (Nat.not_lt_zero _)) (Nat.le_refl _) h2⟩
  | .cl _, _, _, _, _, _, h => h
theorem RepL.ext' (hF : Same F F') : ∀ {xs : List Val} {vs : List V} {n n' : Nat}, (∀ i, i < n → m' i = m i) → n ≤ n' → RepL G F m n xs vs → RepL G F' m' n' xs vs
  | [], _, _, _, _, _, h => h
  | x :: xs, _, _, _, hm, hn, h => by
    unfold RepL at h ⊢
    obtain ⟨y, ys, e, h1, h2⟩ := h
    exact ⟨y, ys, e, Rep.ext' hF hm hn h1, RepL.ext' hF hm hn h2⟩
theorem RepF.ext' (hF : Same F F') : ∀ {xs : List (Str × Val)} {vs : List (Str × V)} {n n' : Nat}, (∀ i, i < n → m' i = m i) → n ≤ n' → RepF G F m n xs vs → RepF G F' m' n' xs vs
  | [], _, _, _, _, _, h => h
  | (f, x) :: xs, _, _, _, hm, hn, h => by
    unfold RepF at h ⊢
    obtain ⟨y, ys, e, h1, h2⟩ := h
    exact ⟨y, ys, e, Rep.ext' hF hm hn h1, RepF.ext' hF hm hn h2⟩
end
theorem Rep.ext (hF : Same F F') (hm : ∀ i, i < n → m' i = m i) (hn : n ≤ n') {v : Val} {x : V} (h : Rep G F m n v x) : Rep G F' m' n' v x := Rep.ext' hF hm hn h
theorem RepL.ext (hF : Same F F') (hm : ∀ i, i < n → m' i = m i) (hn : n ≤ n') {v : List Val} {x : List V} (h : RepL G F m n v x) : RepL G F' m' n' v x := RepL.ext' hF hm hn h
theorem RepF.ext (hF : Same F F') (hm : ∀ i, i < n → m' i = m i) (hn : n ≤ n') {v : List (Str × Val)} {x : List (Str × V)} (h : RepF G F m n v x) : RepF G F' m' n' v x := RepF.ext' hF hm hn h
mutual
theorem Rep.blw : ∀ {v : Val} {x : V}, Rep G F m n v x → v.blw n' = true → Rep G F m n' v x
  | .non, _, h, _ => h
  | .bl _, _, h, _ => h
  | .int _, _, h, _ => h
  | .str _, _, h, _ => h
  | .tup xs, _, h, b => by
    unfold Rep at h ⊢
    obtain ⟨a, vs, e, h1, h2⟩ := h
    exact ⟨a, vs, e, h1, RepL.blw h2 b⟩
  | .wl xs, _, h, b => by
    unfold Rep at h ⊢
    obtain ⟨a, vs, e, h1, h2⟩ := h
    exact ⟨a, vs, e, h1, RepL.blw h2 b⟩
  | .wt xs, _, h, b => by
    unfold Rep at h ⊢
    obtain ⟨a, vs, e, h1, h2⟩ := h
    exact ⟨a, vs, e, h1, RepL.blw h2 b⟩
  | .fl xs, _, h, b => by
    unfold Rep at h ⊢
    obtain ⟨a, vs, e, h1, h2⟩ := h
    exact ⟨a, vs, e, h1, RepL.blw h2 b⟩
  | .ref i, _, h, b => by
    unfold Rep at h ⊢
    exact ⟨of_decide_eq_true b, h.2⟩
  | .ins c fs, _, h, _ => h
  | .cl c, _, h, _ => h
theorem RepL.blw : ∀ {xs : List Val} {vs : List V}, RepL G F m n xs vs → Val.blwL n' xs = true → RepL G F m n' xs vs
  | [], _, h, _ => h
  | x :: xs, _, h, b => by
    unfold RepL at h ⊢
    obtain ⟨y, ys, e, h1, h2⟩ := h
    rw [Val.blwL, Bool.and_eq_true] at b
    exact ⟨y, ys, e, Rep.blw h1 b.1, RepL.blw h2 b.2⟩
end
theorem RepF.blw : ∀ {xs : List (Str × Val)} {vs : List (Str × V)}, RepF G F m n xs vs → Val.blwF n' xs = true → RepF G F m n' xs vs
  | [], _, h, _ => h
  | (f, x) :: xs, _, h, b => by
    unfold RepF at h ⊢
    obtain ⟨y, ys, e, h1, h2⟩ := h
    rw [Val.blwF, Bool.and_eq_true] at b
    exact ⟨y, ys, e, Rep.blw h1 b.1, RepF.blw h2 b.2⟩
theorem RepDK.ext (hF : Same F F') (hm : ∀ i, i < n → m' i = m i) (hn : n ≤ n') : ∀ {xs : List (Val × Val)} {vs : List (Key × V)}, RepDK G F m n xs vs → RepDK G F' m' n' xs vs
  | [], _, h => h
  | (k, x) :: xs, _, h => by
    unfold RepDK at h ⊢
    obtain ⟨a, y, ys, e, h0, h1, h2⟩ := h
    exact ⟨a, y, ys, e, h0, Rep.ext hF hm hn h1, RepDK.ext hF hm hn h2⟩
theorem RepDT.ext (hF : Same F F') (hm : ∀ i, i < n → m' i = m i) (hn : n ≤ n') : ∀ {xs : List (Val × Val)} {vs : List (List Key × V)}, RepDT G F m n xs vs → RepDT G F' m' n' xs vs
  | [], _, h => h
  | (k, x) :: xs, _, h => by
    unfold RepDT at h ⊢
    obtain ⟨a, y, ys, e, h0, h1, h2⟩ := h
    exact ⟨a, y, ys, e, h0, Rep.ext hF hm hn h1, RepDT.ext hF hm hn h2⟩
theorem RepD.ext (hF : Same F F') (hm : ∀ i, i < n → m' i = m i) (hn : n ≤ n') {kvs : List (Val × Val)} {u : HO} (h : RepD G F m n kvs u) : RepD G F' m' n' kvs u := by
  rcases h with ⟨ks, e, h⟩ | ⟨ks, e, h⟩
  · exact .inl ⟨ks, e, h.ext hF hm hn⟩
  · exact .inr ⟨ks, e, h.ext hF hm hn⟩
theorem RepO.ext (hF : Same F F') (hm : ∀ i, i < n → m' i = m i) (hn : n ≤ n') : ∀ {o : Ob} {u : HO}, RepO G F m n o u → RepO G F' m' n' o u
  | .lst xs, _, ⟨vs, e, h⟩ => ⟨vs, e, h.ext hF hm hn⟩
  | .dic kvs false, _, h => RepD.ext hF hm hn h
  | .dic kvs true, _, ⟨o, u, e, h⟩ => ⟨o, u, e, h.ext hF hm hn⟩
  | .ins c fs, _, ⟨dx, vs, e, h⟩ => ⟨dx, vs, e, h.ext hF hm hn⟩
end

/-- the state: F never changes any more; the object with number i stands at m i -/
structure Sim (G : Gm) (F : Hp) (m : Nat → Addr) (st : Store) (H : Hp) : Prop where
  same : Same F H
  obj : ∀ i o, st[i]? = some o → ∃ u, H (m i) = some u ∧ RepO G F m st.length o u ∧ F (m i) = none
  inj : ∀ i j, i < st.length → j < st.length → m i = m j → i = j
/-- what a step leaves -/
structure Ext (F : Hp) (m : Nat → Addr) (n : Nat) (H : Hp) (F' : Hp) (m' : Nat → Addr) (n' : Nat) (H' : Hp) : Prop where
  same : Same F F'
  mp : ∀ i, i < n → m' i = m i
  le : n ≤ n'
  fr : ∀ a o, H a = some o → (∀ xs, o ≠ .tup xs) → F a = none → (∀ i, i < n → m i ≠ a) → H' a = some o ∧ F' a = none ∧ ∀ i, i < n' → m' i ≠ a
  fz : ∀ a o u, H a = some (.frz o u) → H' a = some (.frz o u)
theorem Ext.refl {F : Hp} {m : Nat → Addr} {n : Nat} {H : Hp} : Ext F m n H F m n H := ⟨Same.refl _, fun _ _ => rfl, Nat.le_refl _, fun _ _ h1 _ h2 h3 => ⟨h1, h2, h3⟩, fun _ _ _ h => h⟩
theorem Ext.trans {F : Hp} {m : Nat → Addr} {n : Nat} {H F1 : Hp} {m1 : Nat → Addr} {n1 : Nat} {H1 F2 : Hp} {m2 : Nat → Addr} {n2 : Nat} {H2 : Hp} (a : Ext F m n H F1 m1 n1 H1) (b : Ext F1 m1 n1 H1 F2 m2 n2 H2) : Ext F m n H F2 m2 n2 H2 :=
  ⟨a.same.trans b.same, fun i hi => (b.mp i (Nat.lt_of_lt_of_le hi a.le)).trans (a.mp i hi), Nat.le_trans a.le b.le, fun x o h1 h0 h2 h3 => by
    obtain ⟨g1, g2, g3⟩ := a.fr x o h1 h0 h2 h3
    exact b.fr x o g1 h0 g2 g3, fun x o u h => b.fz x o u (a.fz x o u h)⟩
section
variable {G : Gm} {F F' : Hp} {m m' : Nat → Addr} {n n' : Nat} {H H' : Hp} {st : Store}
theorem Rep.up (e : Ext F m n H F' m' n' H') {v : Val} {x : V} (h : Rep G F m n v x) : Rep G F' m' n' v x := h.ext e.same e.mp e.le
theorem RepL.up (e : Ext F m n H F' m' n' H') {v : List Val} {x : List V} (h : RepL G F m n v x) : RepL G F' m' n' v x := h.ext e.same e.mp e.le
theorem same_upd {H : Hp} {p : Addr} {o : HO} (h : H p = none) : Same H (upd H p o) := fun b x e => by
  rw [upd_ne (ne_of_none e h)]
  exact e
theorem Sim.free (S : Sim G F m st H) {p : Addr} (h : H p = none) : F p = none := S.same.free h
theorem Sim.ne (S : Sim G F m st H) {p : Addr} (h : H p = none) {i : Nat} (hi : i < st.length) : m i ≠ p := fun e => by
  obtain ⟨u, h1, _⟩ := S.obj i st[i] (by simp [hi])
  rw [e, h] at h1
  cases h1
/-- a new thing that never changes -/
theorem Sim.frz (S : Sim G F m st H) {p : Addr} (h : H p = none) (u : HO) : Sim G (upd F p u) m st (upd H p u) ∧ Ext F m st.length H (upd F p u) m st.length (upd H p u) := by
  have hF := S.free h
  refine ⟨⟨fun b o e => ?_, fun i o e => ?_, S.inj⟩, ⟨same_upd hF, fun _ _ => rfl, Nat.le_refl _, fun a o h1 _ h2 h3 => ?_, fun a o u h1 => by rw [upd_ne (ne_of_none h1 h)]; exact h1⟩⟩
  · by_cases hb : b = p
    · subst hb; rw [upd_same] at e ⊢; exact e
    · rw [upd_ne hb] at e ⊢; exact S.same b o e
  · obtain ⟨u', h1, h2, h3⟩ := S.obj i o e
    have ne : m i ≠ p := fun z => by rw [z, h] at h1; cases h1
    exact ⟨u', by rw [upd_ne ne]; exact h1, h2.ext (same_upd hF) (fun _ _ => rfl) (Nat.le_refl _), by rw [upd_ne ne]; exact h3⟩
  · have ne : a ≠ p := ne_of_none h1 h
    exact ⟨by rw [upd_ne ne]; exact h1, by rw [upd_ne ne]; exact h2, h3⟩
/-- a tuple that stands anywhere may be taken for one that never changes -/
theorem Sim.tup (S : Sim G F m st H) {p : Addr} {vs : List V} (h : H p = some (.tup vs)) : Sim G (upd F p (.tup vs)) m st H ∧ Ext F m st.length H (upd F p (.tup vs)) m st.length H := by
  have hne : ∀ i, i < st.length → m i ≠ p := fun i hi e => by
    obtain ⟨u, h1, h2, _⟩ := S.obj i st[i] (by simp [hi])
    rw [e, h] at h1
    cases h1
    cases q : st[i] with
    | lst xs => rw [q] at h2; obtain ⟨_, e, _⟩ := h2; cases e
    | ins c fs => rw [q] at h2; obtain ⟨_, _, e, _⟩ := h2; cases e
    | dic kvs lk =>
      rw [q] at h2
      cases lk with
      | true => obtain ⟨_, _, e, _⟩ := h2; cases e
      | false => rcases h2 with ⟨_, e, _⟩ | ⟨_, e, _⟩ <;> cases e
  have hF : Same F (upd F p (.tup vs)) := fun b o e => by
    by_cases hb : b = p
    · subst hb
      have := S.same _ _ e
      rw [h] at this
      cases this
      exact upd_same
    · rw [upd_ne hb]; exact e
  refine ⟨⟨fun b o e => ?_, fun i o e => ?_, S.inj⟩, ⟨hF, fun _ _ => rfl, Nat.le_refl _, fun a o h1 h0 h2 h3 => ⟨h1, ?_, h3⟩, fun _ _ _ h => h⟩⟩
  · by_cases hb : b = p
    · subst hb; rw [upd_same] at e; cases e; exact h
    · rw [upd_ne hb] at e; exact S.same b o e
  · obtain ⟨u', h1, h2, h3⟩ := S.obj i o e
    exact ⟨u', h1, h2.ext hF (fun _ _ => rfl) (Nat.le_refl _), by rw [upd_ne (hne i (List.getElem?_eq_some_iff.mp e).1)]; exact h3⟩
  · have ne : a ≠ p := fun z => by
      subst z
      rw [h] at h1
      cases h1
      exact h0 _ rfl
    rw [upd_ne ne]
    exact h2
/-- a new object that may change -/
theorem Sim.push (S : Sim G F m st H) {p : Addr} (h : H p = none) {o : Ob} {u : HO} (r : RepO G F m st.length o u) :
    Sim G F (fun i => if i = st.length then p else m i) (st ++ [o]) (upd H p u) ∧ Ext F m st.length H F (fun i => if i = st.length then p else m i) (st ++ [o]).length (upd H p u) := by
  have hm : ∀ i, i < st.length → (if i = st.length then p else m i) = m i := fun i hi => if_neg (Nat.ne_of_lt hi)
  have hl : (st ++ [o]).length = st.length + 1 := by simp
  refine ⟨⟨fun b x e => ?_, fun i x e => ?_, fun i j hi hj e => ?_⟩, ⟨Same.refl _, hm, by omega, fun a x h1 _ h2 h3 => ?_, fun a o u h1 => by rw [upd_ne (ne_of_none h1 h)]; exact h1⟩⟩
  · rw [upd_ne (ne_of_none (S.same b x e) h)]
    exact S.same b x e
  · by_cases hi : i < st.length
    · rw [List.getElem?_append_left hi] at e
      obtain ⟨u', h1, h2, h3⟩ := S.obj i x e
      refine ⟨u', ?_, ?_, ?_⟩
      · show upd H p u (if i = st.length then p else m i) = _
        rw [hm i hi, upd_ne (S.ne h hi)]
        exact h1
      · exact h2.ext (Same.refl _) hm (by omega)
      · show F (if i = st.length then p else m i) = _
        rw [hm i hi]
        exact h3
    · have hi' : i = st.length := by
        have := (List.getElem?_eq_some_iff.mp e).1
        omega
      subst hi'
      rw [List.getElem?_append_right (Nat.le_refl _), Nat.sub_self] at e
      cases e
      refine ⟨u, ?_, r.ext (Same.refl _) hm (by omega), ?_⟩
      · show upd H p u (if st.length = st.length then p else _) = _
        rw [if_pos rfl, upd_same]
      · show F (if st.length = st.length then p else _) = _
        rw [if_pos rfl]
        exact S.free h
  · have e : (if i = st.length then p else m i) = (if j = st.length then p else m j) := e
    rw [hl] at hi hj
    by_cases h1 : i = st.length
    · by_cases h2 : j = st.length
      · rw [h1, h2]
      · rw [if_pos h1, if_neg h2] at e
        exact absurd e.symm (S.ne h (by omega))
    · by_cases h2 : j = st.length
      · rw [if_neg h1, if_pos h2] at e
        exact absurd e (S.ne h (by omega))
      · rw [if_neg h1, if_neg h2] at e
        exact S.inj i j (by omega) (by omega) e
  · have ne : a ≠ p := ne_of_none h1 h
    refine ⟨by rw [upd_ne ne]; exact h1, h2, fun i hi => ?_⟩
    show (if i = st.length then p else m i) ≠ a
    by_cases hi' : i = st.length
    · rw [if_pos hi']; exact fun z => ne z.symm
    · rw [if_neg hi']; exact h3 i (by omega)
/-- an object is changed -/
theorem Sim.set (S : Sim G F m st H) {i : Nat} (hi : i < st.length) (hl : ∀ kvs, st[i]? ≠ some (.dic kvs true)) {o : Ob} {u : HO} (r : RepO G F m st.length o u) :
    Sim G F m (st.set i o) (upd H (m i) u) ∧ Ext F m st.length H F m (st.set i o).length (upd H (m i) u) := by
  obtain ⟨u0, g1, g2, g3⟩ := S.obj i st[i] (by simp [hi])
  have nf : ∀ o u, u0 ≠ .frz o u := fun o u e => by
    subst e
    cases q : st[i] with
    | lst xs => rw [q] at g2; obtain ⟨_, e, _⟩ := g2; cases e
    | ins c fs => rw [q] at g2; obtain ⟨_, _, e, _⟩ := g2; cases e
    | dic kvs lk =>
      cases lk with
      | true => exact hl kvs (by rw [← q]; simp [hi])
      | false => rw [q] at g2; rcases g2 with ⟨_, e, _⟩ | ⟨_, e, _⟩ <;> cases e
  refine ⟨⟨fun b x e => ?_, fun j x e => ?_, fun j k hj hk e => S.inj j k (by simpa using hj) (by simpa using hk) e⟩, ⟨Same.refl _, fun _ _ => rfl, by simp, fun a x h1 _ h2 h3 => ?_, fun a o u h1 => ?_⟩⟩
  · have ne : b ≠ m i := fun z => by rw [z, g3] at e; cases e
    rw [upd_ne ne]
    exact S.same b x e
  · by_cases hj : j = i
    · subst hj
      rw [List.getElem?_set_self hi] at e
      cases e
      exact ⟨u, upd_same, by simpa using r, g3⟩
    · rw [List.getElem?_set_ne (fun z => hj z.symm)] at e
      obtain ⟨u', h1, h2, h3⟩ := S.obj j x e
      have ne : m j ≠ m i := fun z => hj (S.inj j i (List.getElem?_eq_some_iff.mp e).1 hi z)
      exact ⟨u', by rw [upd_ne ne]; exact h1, by simpa using h2, h3⟩
  · have ne : a ≠ m i := fun z => h3 i hi z.symm
    exact ⟨by rw [upd_ne ne]; exact h1, h2, fun j hj => h3 j (by simpa using hj)⟩
  · have ne : a ≠ m i := fun z => by
      rw [z, g1] at h1
      exact nf _ _ (Option.some.inj h1)
    rw [upd_ne ne]
    exact h1
end
end Mi

/-! Mi, part T: readings by the evaluator; operators. -/
namespace Mi
open PySem PySem.Spec PyProof.Rows L2

/-- what is wanted behind a step of the evaluator -/
def After {α : Type} (G : Gm) (E : XK) (F : Hp) (m : Nat → Addr) (n : Nat) (H : Hp) (r : Res α) (K : α → Store → Hp → (Nat → Addr) → Hp → Prop) : Prop :=
  match r with
  | .ok a st' => ∀ F' m' H', Sim G F' m' st' H' → Ext F m n H F' m' st'.length H' → K a st' F' m' H'
  | .exc e st' => ∀ F' m' H' d vs, Sim G F' m' st' H' → Ext F m n H F' m' st'.length H' → H' d = some (.xd vs) → RepF G F' m' st'.length e.fs vs → E (.ref (G.cad e.c)) (some d) H'
  | .no => False
section
variable {α β : Type} {G : Gm} {E : XK} {F : Hp} {m : Nat → Addr} {n : Nat} {H : Hp}
theorem After.mono {r : Res α} {K K' : α → Store → Hp → (Nat → Addr) → Hp → Prop} (h : After G E F m n H r K) (k : ∀ a st F' m' H', Sim G F' m' st H' → Ext F m n H F' m' st.length H' → K a st F' m' H' → K' a st F' m' H') : After G E F m n H r K' := by
  cases r with
  | ok a st => exact fun F' m' H' S e => k a st F' m' H' S e (h F' m' H' S e)
  | exc e st => exact h
  | no => exact h
theorem After.bnd {r : Res α} {f : α → Store → Res β} {K : β → Store → Hp → (Nat → Addr) → Hp → Prop} (h : After G E F m n H (r.bnd f) K) :
    After G E F m n H r (fun a st1 F1 m1 H1 => After G E F1 m1 st1.length H1 (f a st1) K) := by
  cases r with
  | ok a st =>
    intro F1 m1 H1 S1 e1
    show After G E F1 m1 st.length H1 (f a st) K
    have h : After G E F m n H (f a st) K := h
    cases q : f a st with
    | ok b st2 => rw [q] at h; exact fun F2 m2 H2 S2 e2 => h F2 m2 H2 S2 (e1.trans e2)
    | exc x st2 => rw [q] at h; exact fun F2 m2 H2 d vs S2 e2 => h F2 m2 H2 d vs S2 (e1.trans e2)
    | no => rw [q] at h; exact h
  | exc e st => exact h
  | no => exact h
theorem After.here {st : Store} {a : α} {K : α → Store → Hp → (Nat → Addr) → Hp → Prop} (S : Sim G F m st H) (h : After G E F m st.length H (.ok a st) K) : K a st F m H := h F m H S Ext.refl
theorem After.pull {st : Store} {r : Res α} {F1 : Hp} {m1 : Nat → Addr} {H1 : Hp} {K : α → Store → Hp → (Nat → Addr) → Hp → Prop} {n1 : Nat} (e1 : Ext F m n H F1 m1 n1 H1) (h : After G E F m n H r K) : After G E F1 m1 n1 H1 r K := by
  cases r with
  | ok b st2 => exact fun F2 m2 H2 S2 e2 => h F2 m2 H2 S2 (e1.trans e2)
  | exc x st2 => exact fun F2 m2 H2 d vs S2 e2 => h F2 m2 H2 d vs S2 (e1.trans e2)
  | no => exact h
end
/-- a value is handed on -/
abbrev KV (G : Gm) (Q : VK) : Val → Store → Hp → (Nat → Addr) → Hp → Prop := fun w st' F' m' H' => ∀ z, Rep G F' m' st'.length w z → Q z H'
abbrev KB (Q : Bool → Hp → Prop) : Bool → Store → Hp → (Nat → Addr) → Hp → Prop := fun b _ _ _ H' => Q b H'
def RepS (G : Gm) (F : Hp) (m : Nat → Addr) (n : Nat) (σe : Env) (σ : L2.St) : Prop := σe.length = σ.length ∧ ∀ (i : Nat) (v : Val), σe[i]? = some (some v) → ∃ x : V, σ[i]? = some (some x) ∧ Rep G F m n v x
theorem RepS.up {G : Gm} {F F' : Hp} {m m' : Nat → Addr} {n n' : Nat} {H H' : Hp} (e : Ext F m n H F' m' n' H') {σe : Env} {σ : L2.St} (h : RepS G F m n σe σ) : RepS G F' m' n' σe σ :=
  ⟨h.1, fun i v q => let ⟨x, h1, h2⟩ := h.2 i v q; ⟨x, h1, h2.up e⟩⟩
/-- an expression read by the evaluator -/
def tE (G : Gm) (E : XK) (f : Env → Store → Res Val) : TE := fun σ H Q => ∃ F m σe st, Sim G F m st H ∧ RepS G F m st.length σe σ ∧ After G E F m st.length H (f σe st) (KV G Q)
def tT (G : Gm) (E : XK) (f : Env → Store → Res Bool) : TT := fun σ H Q => ∃ F m σe st, Sim G F m st H ∧ RepS G F m st.length σe σ ∧ After G E F m st.length H (f σe st) (KB Q)
def tA (G : Gm) (E : XK) (f : Env → Store → Res (List Val)) : TA := fun σ H Q => ∃ F m σe st, Sim G F m st H ∧ RepS G F m st.length σe σ ∧ After G E F m st.length H (f σe st) (fun ws st' F' m' H' => ∀ zs, RepL G F' m' st'.length ws zs → Q zs H')
theorem PE.imp {X : Cx} {e : Expr} {t t' : TE} (h : PE X e t) (w : ∀ σ H Q, t' σ H Q → t σ H Q) : PE X e t' := ⟨fun pins s σ H Q I q => h.run pins s σ H Q I (w _ _ _ q)⟩
theorem PT.imp {X : Cx} {e : Expr} {t t' : TT} (h : PT X e t) (w : ∀ σ H Q, t' σ H Q → t σ H Q) : PT X e t' := ⟨fun pins s σ H Q I q => h.run pins s σ H Q I (w _ _ _ q)⟩
theorem PA.imp {X : Cx} {e : List Expr} {t t' : TA} (h : PA X e t) (w : ∀ σ H Q, t' σ H Q → t σ H Q) : PA X e t' := ⟨fun pos pins s σ H Q I q => h.run pos pins s σ H Q I (w _ _ _ q)⟩

section
variable {G : Gm} {E : XK} {F : Hp} {m : Nat → Addr} {H : Hp} {st : Store} {Q : VK}
theorem fin_newL (S : Sim G F m st H) {mt : Bool} {xs : List Val} {vs : List V} (r : RepL G F m st.length xs vs) {p : Addr} (hp : H p = none) (h : After G E F m st.length H (newL mt xs st) (KV G Q)) : Q (.ref p) (upd H p (.lst vs)) := by
  unfold newL at h
  cases mt with
  | true =>
    obtain ⟨S', e'⟩ := S.push (o := .lst xs) (u := .lst vs) hp ⟨vs, rfl, r⟩
    refine h _ _ _ S' e' _ ?_
    unfold Rep
    exact ⟨by simp, by rw [if_pos rfl]⟩
  | false =>
    obtain ⟨S', e'⟩ := S.frz hp (.lst vs)
    refine h _ _ _ S' e' _ ?_
    unfold Rep
    exact ⟨p, vs, rfl, upd_same, r.up e'⟩
theorem fin_tup (S : Sim G F m st H) {xs : List Val} {vs : List V} (r : RepL G F m st.length xs vs) {p : Addr} (hp : H p = none) (h : After G E F m st.length H (.ok (.tup xs) st) (KV G Q)) : Q (.ref p) (upd H p (.tup vs)) := by
  obtain ⟨S', e'⟩ := S.frz hp (.tup vs)
  refine h _ _ _ S' e' _ ?_
  unfold Rep
  exact ⟨p, vs, rfl, upd_same, r.up e'⟩
theorem RepL.length : ∀ {xs : List Val} {vs : List V} {n : Nat}, RepL G F m n xs vs → xs.length = vs.length
  | [], _, _, h => by unfold RepL at h; subst h; rfl
  | x :: xs, _, _, h => by
    unfold RepL at h
    obtain ⟨y, ys, rfl, _, h2⟩ := h
    rw [List.length_cons, List.length_cons, h2.length]
theorem RepL.append : ∀ {xs ys : List Val} {vs us : List V} {n : Nat}, RepL G F m n xs vs → RepL G F m n ys us → RepL G F m n (xs ++ ys) (vs ++ us)
  | [], _, _, _, _, h, g => by unfold RepL at h; subst h; exact g
  | x :: xs, _, _, _, _, h, g => by
    unfold RepL at h
    obtain ⟨y, ys, rfl, h1, h2⟩ := h
    rw [List.cons_append, List.cons_append]
    unfold RepL
    exact ⟨_, _, rfl, h1, h2.append g⟩
theorem RepL.get : ∀ {xs : List Val} {vs : List V} {n i : Nat} {v : Val}, RepL G F m n xs vs → xs[i]? = some v → ∃ x, vs[i]? = some x ∧ Rep G F m n v x
  | [], _, _, _, _, h, e => by simp at e
  | x :: xs, _, _, 0, _, h, e => by
    unfold RepL at h
    obtain ⟨y, ys, rfl, h1, h2⟩ := h
    cases e
    exact ⟨y, rfl, h1⟩
  | x :: xs, _, _, i + 1, _, h, e => by
    unfold RepL at h
    obtain ⟨y, ys, rfl, h1, h2⟩ := h
    exact h2.get (i := i) e
theorem RepL.cons {n : Nat} {v : Val} {x : V} {xs : List Val} {vs : List V} (h : Rep G F m n v x) (h2 : RepL G F m n xs vs) : RepL G F m n (v :: xs) (x :: vs) := by
  unfold RepL
  exact ⟨_, _, rfl, h, h2⟩
theorem RepL.nil {n : Nat} : RepL G F m n [] [] := by unfold RepL; rfl
/-- a list, in the frozen part or in the store -/
theorem Sim.list (S : Sim G F m st H) {v : Val} {x : V} {xs : List Val} (r : Rep G F m st.length v x) (h : lstOf st v = some xs) : ∃ a vs, x = .ref a ∧ SqL G.K H a vs ∧ RepL G F m st.length xs vs := by
  cases v with
  | fl ys =>
    cases h
    unfold Rep at r
    obtain ⟨a, vs, e, h1, h2⟩ := r
    exact ⟨a, vs, e, .inl (.inl (S.same _ _ h1)), h2⟩
  | wl ys =>
    cases h
    unfold Rep at r
    obtain ⟨a, vs, e, h1, h2⟩ := r
    exact ⟨a, vs, e, S.same.seq h1, h2⟩
  | ref i =>
    unfold lstOf at h
    unfold Rep at r
    cases q : st[i]? with
    | none => simp [q] at h
    | some o =>
      cases o with
      | lst ys =>
        simp [q] at h
        subst h
        obtain ⟨u, g1, g2, g3⟩ := S.obj i _ q
        obtain ⟨vs, rfl, g2⟩ := g2
        exact ⟨m i, vs, r.2, .inl (.inl g1), g2⟩
      | dic => simp [q] at h
      | ins => simp [q] at h
  | _ => simp [lstOf] at h
theorem Sim.listJ (S : Sim G F m st H) {v : Val} {x : V} {xs : List Val} (r : Rep G F m st.length v x) (h : lstJ st v = some xs) : ∃ a vs, x = .ref a ∧ H a = some (.lst vs) ∧ RepL G F m st.length xs vs := by
  cases v with
  | fl ys =>
    cases h
    unfold Rep at r
    obtain ⟨a, vs, e, h1, h2⟩ := r
    exact ⟨a, vs, e, S.same _ _ h1, h2⟩
  | ref i =>
    unfold lstJ lstOf at h
    unfold Rep at r
    cases q : st[i]? with
    | none => simp [q] at h
    | some o =>
      cases o with
      | lst ys =>
        simp [q] at h
        subst h
        obtain ⟨u, g1, g2, g3⟩ := S.obj i _ q
        obtain ⟨vs, rfl, g2⟩ := g2
        exact ⟨m i, vs, r.2, g1, g2⟩
      | dic => simp [q] at h
      | ins => simp [q] at h
  | _ => simp [lstJ, lstOf] at h
theorem Sim.seq (S : Sim G F m st H) {v : Val} {x : V} {xs : List Val} (r : Rep G F m st.length v x) (h : seqOf st v = some xs) : ∃ a vs, x = .ref a ∧ (SqL G.K H a vs ∨ SqT G.K H a vs) ∧ RepL G F m st.length xs vs := by
  cases v with
  | tup ys =>
    cases h
    unfold Rep at r
    obtain ⟨a, vs, e, h1, h2⟩ := r
    exact ⟨a, vs, e, .inr (.inl (.inl (S.same _ _ h1))), h2⟩
  | wt ys =>
    cases h
    unfold Rep at r
    obtain ⟨a, vs, e, h1, h2⟩ := r
    exact ⟨a, vs, e, .inr (Same.sqT S.same h1), h2⟩
  | fl ys =>
    obtain ⟨a, vs, e, h1, h2⟩ := S.list r h
    exact ⟨a, vs, e, .inl h1, h2⟩
  | wl ys =>
    obtain ⟨a, vs, e, h1, h2⟩ := S.list r h
    exact ⟨a, vs, e, .inl h1, h2⟩
  | ref i =>
    obtain ⟨a, vs, e, h1, h2⟩ := S.list r h
    exact ⟨a, vs, e, .inl h1, h2⟩
  | _ => simp [seqOf, lstOf] at h
end
end Mi

/-! Mi, part U: operators and comparisons keep to the evaluator. -/
namespace Mi
open PySem PySem.Spec PyProof.Rows L2

/-- where one stands -/
structure CxR (X : Cx) (G : Gm) (d : Nat) : Prop where
  K : X.K = G.K
  room : Room d X.A
  calm : X.calm = true
theorem CxR.u65 {X : Cx} {G : Gm} {d : Nat} (c : CxR X G d) : X.A.units + 65 < cLine := by have := c.room.un; omega
theorem lim_le {n : Nat} (h : n ≤ lim) : n ≤ sizeLine := Nat.le_trans h (by rw [sizeLine_eq]; decide)
theorem lim_lt {n : Nat} (h : n ≤ lim) : n < sizeLine := Nat.lt_of_le_of_lt h (by rw [sizeLine_eq]; decide)

/-- a two-place operation of the evaluator, by values -/
def rV2 (G : Gm) (E : XK) (g : Val → Val → Store → Res Val) : R2 := fun x y H Q => ∃ F m st v u, Sim G F m st H ∧ Rep G F m st.length v x ∧ Rep G F m st.length u y ∧ After G E F m st.length H (g v u st) (KV G Q)
def rV1 (G : Gm) (E : XK) (g : Val → Store → Res Val) : V → Hp → VK → Prop := fun x H Q => ∃ F m st v, Sim G F m st H ∧ Rep G F m st.length v x ∧ After G E F m st.length H (g v st) (KV G Q)
def rVL (G : Gm) (E : XK) (g : List Val → Store → Res Val) : List V → Hp → VK → Prop := fun xs H Q => ∃ F m st vs, Sim G F m st H ∧ RepL G F m st.length vs xs ∧ After G E F m st.length H (g vs st) (KV G Q)

section
variable {X : Cx} {G : Gm} {E : XK} {d : Nat}
theorem pe_bin {op : Operator} {g : Val → Val → Store → Res Val} {a b : Expr} {pos : Pos} {fa fb : Env → Store → Res Val} (ho : OpR X (binaryOp op) (rV2 G E g)) (ha : PE X a (tE G E fa)) (hb : PE X b (tE G E fb)) :
    PE X (.BinOp a op b pos) (tE G E fun σ st => (fa σ st).bnd fun x st => (fb σ st).bnd fun y st => g x y st) := by
  refine PE.imp (pe_op ho ha hb) fun σ H Q h => ?_
  obtain ⟨F, m, σe, st, S, rs, h⟩ := h
  refine ⟨F, m, σe, st, S, rs, h.bnd.mono fun v st1 F1 m1 H1 S1 e1 h1 x rx => ?_⟩
  refine ⟨F1, m1, σe, st1, S1, rs.up e1, h1.bnd.mono fun u st2 F2 m2 H2 S2 e2 h2 y ry => ?_⟩
  exact ⟨F2, m2, st2, v, u, S2, rx.up e2, ry, h2⟩
theorem RelV.of_rep_int {G : Gm} {F : Hp} {m : Nat → Addr} {n : Nat} {i : Int} {x : V} (h : Rep G F m n (.int i) x) : x = .int i := by unfold Rep at h; exact h

theorem in64_ok {i : Int} (h : in64 i = true) : -(2 ^ 64) < i ∧ i < 2 ^ 64 := by
  unfold in64 at h
  rw [Bool.and_eq_true] at h
  exact ⟨of_decide_eq_true h.1, of_decide_eq_true h.2⟩
theorem rep_int {F : Hp} {m : Nat → Addr} {n : Nat} {i : Int} : Rep G F m n (.int i) (.int i) := by unfold Rep; rfl
theorem rep_bl {F : Hp} {m : Nat → Addr} {n : Nat} {i : Bool} : Rep G F m n (.bl i) (.bl i) := by unfold Rep; rfl
theorem rep_str {F : Hp} {m : Nat → Addr} {n : Nat} {i : Str} : Rep G F m n (.str i) (.str i) := by unfold Rep; rfl
theorem rep_non {F : Hp} {m : Nat → Addr} {n : Nat} : Rep G F m n .non .non := by unfold Rep; rfl


theorem tupJ_rep {F : Hp} {m : Nat → Addr} {st : Store} {H : Hp} (S : Sim G F m st H) {v : Val} {x : V} {xs : List Val} (r : Rep G F m st.length v x) (h : tupJ v = some xs) : ∃ a vs, x = .ref a ∧ SqT G.K H a vs ∧ RepL G F m st.length xs vs := by
  cases v with
  | tup ys => cases h; unfold Rep at r; obtain ⟨a, vs, e, h1, h2⟩ := r; exact ⟨a, vs, e, .inl (.inl (S.same _ _ h1)), h2⟩
  | wt ys => cases h; unfold Rep at r; obtain ⟨a, vs, e, h1, h2⟩ := r; exact ⟨a, vs, e, Same.sqT S.same h1, h2⟩
  | _ => simp [tupJ] at h
theorem catW_okK (hK : X.K = G.K) {F : Hp} {m : Nat → Addr} {st : Store} {H : Hp} {pins : List (Addr × Obj)} {s : Shared} {σ : L2.St} {x y : V} {v u : Value} {a b : Val} {xs ys : List Val} {Q : VK} (S : Sim G F m st H) (I : Inv X pins σ H s) (rx : L2.RelV x v) (ry : L2.RelV y u)
    (ra : Rep G F m st.length a x) (rb : Rep G F m st.length b y) (h1 : tupJ a = some xs) (h2 : tupJ b = some ys) (h : After G E F m st.length H (catW a b xs ys st) (KV G Q)) : wpAny (model X.prog X.w) X.A (binaryOp .Add v u) (EP X pins σ Q) X.xe s := by
  have ra' := ra
  have rb' := rb
  obtain ⟨p, vs, rfl, s1, r1⟩ := tupJ_rep S ra h1
  obtain ⟨q, us, rfl, s2, r2⟩ := tupJ_rep S rb h2
  unfold catW at h
  split at h
  · rename_i hl
    have hl' : vs.length + us.length ≤ sizeLine := by rw [← r1.length, ← r2.length]; exact lim_le hl
    rw [← hK] at s1 s2
    have ex : vs = [] ↔ xs = [] := by rw [← List.length_eq_zero_iff, ← List.length_eq_zero_iff, r1.length]
    have ey : us = [] ↔ ys = [] := by rw [← List.length_eq_zero_iff, ← List.length_eq_zero_iff, r2.length]
    refine op_catA pins s σ H _ _ v u Q I rx ry ⟨p, q, vs, us, rfl, rfl, s1, s2, hl', fun e => ?_, fun e e' => ?_, fun e e' z hz => ?_⟩
    · rw [ex.mp e] at h
      exact h.here S _ rb'
    · have n1 : ¬ xs.isEmpty = true := fun z => e (ex.mpr (List.isEmpty_iff.mp z))
      rw [if_neg n1, ey.mp e'] at h
      exact h.here S _ ra'
    · have n1 : ¬ xs.isEmpty = true := fun z => e (ex.mpr (List.isEmpty_iff.mp z))
      have n2 : ¬ ys.isEmpty = true := fun z => e' (ey.mpr (List.isEmpty_iff.mp z))
      rw [if_neg n1, if_neg n2] at h
      exact fin_tup S (r1.append r2) hz h
  · exact h.elim
theorem op_bin (c : CxR X G d) {mt : Bool} {op : Operator} : OpR X (binaryOp op) (rV2 G E (binop mt op)) := by
  intro pins s σ H x y v u Q I rx ry h
  obtain ⟨F, m, st, a, b, S, ra, rb, h⟩ := h
  unfold binop at h
  cases op with
  | Add =>
    dsimp only at h
    split at h
    · rename_i i j
      unfold Rep at ra rb; subst ra rb
      exact op_add pins s σ H _ _ v u Q I rx ry ⟨i, j, rfl, rfl, h.here S _ rep_int⟩
    · rename_i i j
      unfold Rep at ra rb; subst ra rb
      split at h
      · rename_i hl
        exact op_add_str pins s σ H _ _ v u Q I rx ry ⟨i, j, rfl, rfl, lim_le hl, h.here S _ rep_str⟩
      · exact h.elim
    · rename_i xs ys
      split at h
      · rename_i hl
        unfold Rep at ra rb
        obtain ⟨a, vs, rfl, h1, h2⟩ := ra
        obtain ⟨b, us, rfl, g1, g2⟩ := rb
        have hl' : vs.length + us.length ≤ sizeLine := by rw [← h2.length, ← g2.length]; exact lim_le hl
        refine op_catA pins s σ H _ _ v u Q I rx ry ⟨a, b, vs, us, rfl, rfl, ?_, ?_, hl', fun e => ?_, fun e e' => ?_, fun _ _ p hp => ?_⟩
        · exact .inl (.inl (S.same _ _ h1))
        · exact .inl (.inl (S.same _ _ g1))
        · have : xs = [] := List.length_eq_zero_iff.mp (by rw [h2.length, e]; rfl)
          subst this
          refine h.here S _ ?_
          unfold Rep
          exact ⟨b, us, rfl, g1, g2⟩
        · have : ys = [] := List.length_eq_zero_iff.mp (by rw [g2.length, e']; rfl)
          subst this
          rw [List.append_nil] at h
          refine h.here S _ ?_
          unfold Rep
          exact ⟨a, vs, rfl, h1, h2⟩
        · exact fin_tup S (h2.append g2) hp h
      · exact h.elim
    · rename_i xs
      split at h
      · rename_i ys hy
        exact catW_okK c.K S I rx ry ra rb rfl hy h
      · exact h.elim
    · exact catW_okK c.K S I rx ry ra rb rfl rfl h
    · split at h
      · rename_i xs ys e1 e2
        split at h
        · rename_i hl
          obtain ⟨a, vs, rfl, h1, h2⟩ := S.listJ ra e1
          obtain ⟨b, us, rfl, g1, g2⟩ := S.listJ rb e2
          have hl' : vs.length + us.length ≤ sizeLine := by rw [← h2.length, ← g2.length]; exact lim_le hl
          exact op_cat pins s σ H _ _ v u Q I rx ry ⟨a, b, vs, us, rfl, rfl, h1, g1, hl', fun p hp => fin_newL S (h2.append g2) hp h⟩
        · exact h.elim
      · exact h.elim
  | Sub =>
    dsimp only at h
    split at h
    · rename_i i j
      unfold Rep at ra rb; subst ra rb
      exact op_sub pins s σ H _ _ v u Q I rx ry ⟨i, j, rfl, rfl, h.here S _ rep_int⟩
    · exact h.elim
  | Mult =>
    dsimp only at h
    split at h
    · rename_i i j
      unfold Rep at ra rb; subst ra rb
      split at h
      · rename_i hb
        refine op_mul pins s σ H _ _ v u Q I rx ry ⟨i, j, rfl, rfl, ?_, h.here S _ rep_int⟩
        rcases Bool.or_eq_true_iff.mp hb with z | z
        · exact .inl (in64_ok z)
        · exact .inr (in64_ok z)
      · exact h.elim
    · exact h.elim
  | FloorDiv =>
    dsimp only at h
    split at h
    · rename_i i j
      unfold Rep at ra rb; subst ra rb
      split at h
      · rename_i hb
        exact op_fdiv pins s σ H _ _ v u Q I rx ry ⟨i, j, rfl, rfl, hb, h.here S _ rep_int⟩
      · exact h.elim
    · exact h.elim
  | Mod =>
    dsimp only at h
    split at h
    · rename_i i j
      unfold Rep at ra rb; subst ra rb
      split at h
      · rename_i hb
        exact op_mod pins s σ H _ _ v u Q I rx ry ⟨i, j, rfl, rfl, hb, h.here S _ rep_int⟩
      · exact h.elim
    · exact h.elim
  | Pow =>
    dsimp only at h
    split at h
    · rename_i i j
      unfold Rep at ra rb; subst ra rb
      split at h
      · rename_i hb
        refine op_pow pins s σ H _ _ v u Q I rx ry ⟨i, j, rfl, rfl, ⟨hb.1, by omega, ?_⟩, h.here S _ rep_int⟩
        have := in64_ok hb.2.2
        omega
      · exact h.elim
    · exact h.elim
  | _ => exact h.elim
end
end Mi

/-! Mi, part V: comparisons, dicts asked. -/
namespace Mi
open PySem PySem.Spec PyProof.Rows L2

section
variable {G : Gm} {F : Hp} {m : Nat → Addr} {st : Store} {H : Hp}
theorem mapO_dp {α : Type} {f : Val → Option PyData} {n : Nat} (hf : ∀ v x d, Rep G F m n v x → f v = some d → Dp G.K H x d ∧ d.canLay0 = true ∧ d.depth ≤ k) : ∀ {xs : List Val} {vs : List V} {ds : List PyData}, RepL G F m n xs vs → mapO f xs = some ds →
    DpAll G.K H vs ds ∧ PyData.canLayAll0 ds = true ∧ PyData.depthAll ds ≤ k
  | [], _, ds, r, h => by
    unfold RepL at r
    subst r
    cases h
    exact ⟨.nil, rfl, Nat.zero_le _⟩
  | x :: xs, _, ds, r, h => by
    unfold RepL at r
    obtain ⟨y, ys, rfl, r1, r2⟩ := r
    unfold mapO at h
    cases q1 : f x with
    | none => simp [q1] at h
    | some d =>
      cases q2 : mapO f xs with
      | none => simp [q1, q2] at h
      | some es =>
        simp [q1, q2] at h
        subst h
        obtain ⟨h1, h2, h3⟩ := hf x y d r1 q1
        obtain ⟨g1, g2, g3⟩ := mapO_dp (α := α) hf r2 q2
        exact ⟨.cons h1 g1, by simp [PyData.canLayAll0, h2, g2], by simp only [PyData.depthAll]; omega⟩
theorem dat_dp (S : Sim G F m st H) : ∀ (n : Nat) (v : Val) (x : V) (d : PyData), Rep G F m st.length v x → dat st n v = some d → Dp G.K H x d ∧ d.canLay0 = true ∧ d.depth ≤ n
  | 0, _, _, _, _, h => by simp [dat] at h
  | n + 1, v, x, d, r, h => by
    have ih := dat_dp S n
    cases v with
    | non => unfold Rep at r; subst r; simp [dat] at h; subst h; exact ⟨.non, rfl, Nat.zero_le _⟩
    | bl b => unfold Rep at r; subst r; simp [dat] at h; subst h; exact ⟨.bl b, rfl, Nat.zero_le _⟩
    | int b => unfold Rep at r; subst r; simp [dat] at h; subst h; exact ⟨.int b, rfl, Nat.zero_le _⟩
    | str b =>
      unfold Rep at r; subst r
      simp [dat] at h
      obtain ⟨h0, h⟩ := h
      subst h
      exact ⟨.str b, by simpa [PyData.canLay0] using h0, Nat.zero_le _⟩
    | tup xs =>
      unfold Rep at r
      obtain ⟨a, vs, rfl, h1, h2⟩ := r
      simp [dat] at h
      obtain ⟨ds, h, rfl⟩ := h
      obtain ⟨g1, g2, g3⟩ := mapO_dp (α := Nat) ih h2 h
      exact ⟨.tup (.inl (.inl (S.same _ _ h1))) g1, by simpa [PyData.canLay0] using g2, by simp only [PyData.depth]; omega⟩
    | wt xs =>
      unfold Rep at r
      obtain ⟨a, vs, rfl, h1, h2⟩ := r
      simp [dat] at h
      obtain ⟨ds, h, rfl⟩ := h
      obtain ⟨g1, g2, g3⟩ := mapO_dp (α := Nat) ih h2 h
      exact ⟨.tup (Same.sqT S.same h1) g1, by simpa [PyData.canLay0] using g2, by simp only [PyData.depth]; omega⟩
    | wl xs =>
      unfold Rep at r
      obtain ⟨a, vs, rfl, h1, h2⟩ := r
      simp [dat] at h
      obtain ⟨ds, h, rfl⟩ := h
      obtain ⟨g1, g2, g3⟩ := mapO_dp (α := Nat) ih h2 h
      exact ⟨.lst (S.same.seq h1) g1, by simpa [PyData.canLay0] using g2, by simp only [PyData.depth]; omega⟩
    | fl xs =>
      unfold Rep at r
      obtain ⟨a, vs, rfl, h1, h2⟩ := r
      simp [dat] at h
      obtain ⟨ds, h, rfl⟩ := h
      obtain ⟨g1, g2, g3⟩ := mapO_dp (α := Nat) ih h2 h
      exact ⟨.lst (.inl (.inl (S.same _ _ h1))) g1, by simpa [PyData.canLay0] using g2, by simp only [PyData.depth]; omega⟩
    | ref i =>
      unfold dat at h
      dsimp only at h
      cases q : st[i]? with
      | none => simp [q] at h
      | some o =>
        cases o with
        | lst xs =>
          simp [q] at h
          obtain ⟨ds, h, rfl⟩ := h
          obtain ⟨a, vs, rfl, h1, h2⟩ := S.list (xs := xs) r (by simp [lstOf, q])
          obtain ⟨g1, g2, g3⟩ := mapO_dp (α := Nat) ih h2 h
          exact ⟨.lst h1 g1, by simpa [PyData.canLay0] using g2, by simp only [PyData.depth]; omega⟩
        | dic => simp [q] at h
        | ins => simp [q] at h
    | ins c fs => simp [dat] at h
    | cl c => simp [dat] at h
theorem shaped_of {d : PyData} {n : Nat} (h1 : d.canLay0 = true) (h2 : d.depth ≤ n) (h : n ≤ 64) : SeqAt.shaped d = true := by
  unfold SeqAt.shaped
  rw [h1, Bool.true_and]
  exact decide_eq_true (by omega)

/-! ### dicts -/
theorem kVal_inj {a b : Key} (h : kVal a = kVal b) : a = b := by
  cases a <;> cases b <;> simp [kVal] at h <;> rw [h]
theorem kValL_inj : ∀ {a b : List Key}, a.map kVal = b.map kVal → a = b
  | [], [], _ => rfl
  | [], _ :: _, h => by simp at h
  | _ :: _, [], h => by simp at h
  | x :: a, y :: b, h => by
    simp only [List.map_cons, List.cons.injEq] at h
    rw [kVal_inj h.1, kValL_inj h.2]
theorem scalar_key {k : Val} (h : scalarKey k = true) : ∃ a, k = kVal a := by
  cases k with
  | int i => exact ⟨.inl i, rfl⟩
  | str x => exact ⟨.inr x, rfl⟩
  | _ => simp [scalarKey] at h
theorem scalar_keys : ∀ {ks : List Val}, ks.all scalarKey = true → ∃ a : List Key, ks = a.map kVal
  | [], _ => ⟨[], rfl⟩
  | k :: ks, h => by
    rw [List.all_cons, Bool.and_eq_true] at h
    obtain ⟨a, rfl⟩ := scalar_key h.1
    obtain ⟨b, rfl⟩ := scalar_keys h.2
    exact ⟨a :: b, rfl⟩
theorem rep_kVal {n : Nat} {a : Key} {y : V} (h : Rep G F m n (kVal a) y) : y = kV a := by
  cases a <;> (unfold kVal Rep at h; exact h)
theorem repL_kVal {n : Nat} : ∀ {a : List Key} {ys : List V}, RepL G F m n (a.map kVal) ys → ys = a.map kV
  | [], _, h => by unfold RepL at h; exact h
  | x :: a, _, h => by
    unfold RepL at h
    obtain ⟨y, ys, rfl, h1, h2⟩ := h
    rw [rep_kVal h1, repL_kVal h2]
    rfl
theorem dget_dk {n : Nat} (k : Key) : ∀ {kvs : List (Val × Val)} {ks : List (Key × V)}, RepDK G F m n kvs ks → (dget kvs (kVal k) = none ∧ valV ks k = none) ∨ ∃ w z, dget kvs (kVal k) = some w ∧ valV ks k = some z ∧ Rep G F m n w z
  | [], _, h => by
    unfold RepDK at h
    subst h
    exact .inl ⟨rfl, rfl⟩
  | (k', x) :: xs, _, h => by
    unfold RepDK at h
    obtain ⟨a, y, ys, rfl, rfl, h1, h2⟩ := h
    by_cases e : a = k
    · subst e
      exact .inr ⟨x, y, by simp [dget], valV_pos (p := (a, y)) rfl, h1⟩
    · have e' : ¬ kVal a = kVal k := fun z => e (kVal_inj z)
      rw [valV_neg (p := (a, y)) e, show dget ((kVal a, x) :: xs) (kVal k) = dget xs (kVal k) by simp [dget, List.find?_cons, e']]
      exact dget_dk k h2
theorem dget_dt {n : Nat} (k : List Key) : ∀ {kvs : List (Val × Val)} {ks : List (List Key × V)}, RepDT G F m n kvs ks → (dget kvs (.tup (k.map kVal)) = none ∧ valV ks k = none) ∨ ∃ w z, dget kvs (.tup (k.map kVal)) = some w ∧ valV ks k = some z ∧ Rep G F m n w z
  | [], _, h => by
    unfold RepDT at h
    subst h
    exact .inl ⟨rfl, rfl⟩
  | (k', x) :: xs, _, h => by
    unfold RepDT at h
    obtain ⟨a, y, ys, rfl, rfl, h1, h2⟩ := h
    by_cases e : a = k
    · subst e
      exact .inr ⟨x, y, by simp [dget], valV_pos (p := (a, y)) rfl, h1⟩
    · have e' : ¬ (Val.tup (a.map kVal)) = .tup (k.map kVal) := fun z => e (kValL_inj (by injection z))
      rw [valV_neg (p := (a, y)) e, show dget ((Val.tup (a.map kVal), x) :: xs) (.tup (k.map kVal)) = dget xs (.tup (k.map kVal)) by
        unfold dget
        rw [List.find?_cons, decide_eq_false e']]
      exact dget_dt k h2
end

/-! ### an empty dict takes either kind of keys -/
section
variable {X : Cx} {pins : List (Addr × Obj)} {σ : L2.St} {H : Hp} {s : Shared} {a : Addr}
theorem Inv.toT (I : Inv X pins σ H s) (e : H a = some (.dK [])) : Inv X pins σ (upd H a (.dT [])) s := by
  obtain ⟨z, y, vs, r, o, es, ep, h1, h2, h3, h4, h5, h6⟩ := dk_of I.hok e
  cases r
  have hes : es.toList = [] := by
    generalize es.toList = l at h5
    cases h5
    rfl
  have mu : Mut (H a) := by rw [e]; trivial
  exact I.un (h' := s.heap) (t' := s.toks) (Un.write mu (.inl rfl) (fun _ _ _ q => q) ⟨o, h1⟩) (I.hok.write mu (.inl rfl) (fun _ _ _ q => q) ⟨o, h1⟩ ⟨Nat.zero_le _, y, [], .nil, o, es, ep, h1, h2, h3, by rw [hes]; rfl, by simp⟩)
theorem Inv.toK (I : Inv X pins σ H s) (e : H a = some (.dT [])) : Inv X pins σ (upd H a (.dK [])) s := by
  obtain ⟨z, y, xs, r, o, es, ep, h1, h2, h3, h4, h5, h6⟩ := dt_of I.hok e
  cases r
  have hes : es.toList = [] := h4
  have hes' : es = #[] := by rw [← Array.toList_inj]; exact hes
  have mu : Mut (H a) := by rw [e]; trivial
  refine I.un (h' := s.heap) (t' := s.toks) (Un.write mu (.inl rfl) (fun _ _ _ q => q) ⟨o, h1⟩) (I.hok.write mu (.inl rfl) (fun _ _ _ q => q) ⟨o, h1⟩ ⟨Nat.zero_le _, y, [], .nil, o, es, ep, h1, h2, h3, ?_, ?_, by simp⟩)
  · subst hes'
    intro e he
    simp at he
  · rw [hes]
    exact .nil
end

/-! ### a dict asked: the heap may tell an empty dict otherwise -/
section
variable {X : Cx} {G : Gm} {F : Hp} {m : Nat → Addr} {st : Store} {H : Hp} {pins : List (Addr × Obj)} {σ : L2.St} {s : Shared}
theorem Sim.dict (S : Sim G F m st H) {v : Val} {x : V} {kvs : List (Val × Val)} {lk : Bool} (r : Rep G F m st.length v x) (h : dicOf st v = some (kvs, lk)) : ∃ i u, v = .ref i ∧ st[i]? = some (.dic kvs lk) ∧ i < st.length ∧ x = .ref (m i) ∧ H (m i) = some u ∧ RepO G F m st.length (.dic kvs lk) u ∧ F (m i) = none := by
  cases v with
  | ref i =>
    unfold dicOf at h
    dsimp only at h
    cases q : st[i]? with
    | none => simp [q] at h
    | some o =>
      cases o with
      | dic kvs' lk' =>
        simp [q] at h
        obtain ⟨rfl, rfl⟩ := h
        unfold Rep at r
        obtain ⟨u, g1, g2, g3⟩ := S.obj i _ q
        exact ⟨i, u, rfl, q, r.1, r.2, g1, g2, g3⟩
      | lst => simp [q] at h
      | ins => simp [q] at h
  | _ => simp [dicOf] at h
/-- asked by a key that fits, the dict answers (perhaps told otherwise, if it is empty) -/
theorem Sim.ask (S : Sim G F m st H) (I : Inv X pins σ H s) {v k : Val} {x y : V} {kvs : List (Val × Val)} {lk : Bool} (r : Rep G F m st.length v x) (h : dicOf st v = some (kvs, lk)) (rk : Rep G F m st.length k y) (hk : keyFits kvs lk k = true) :
    ∃ a H' o, x = .ref a ∧ Inv X pins σ H' s ∧ Sim G F m st H' ∧ Ext F m st.length H F m st.length H' ∧ DGet H' a y o ∧ ((dget kvs k = none ∧ o = none) ∨ ∃ w z, dget kvs k = some w ∧ o = some z ∧ Rep G F m st.length w z) := by
  obtain ⟨i, u, rfl, hi, hil, rfl, g1, g2, g3⟩ := S.dict r h
  have rd : ∀ u', RepD G F m st.length kvs u' → Rd H (m i) u' → (kvs ≠ [] → ∃ o, DGet H (m i) y o ∧ ((dget kvs k = none ∧ o = none) ∨ ∃ w z, dget kvs k = some w ∧ o = some z ∧ Rep G F m st.length w z)) := by
    intro u' ru rdd hne
    unfold keyFits at hk
    rw [Bool.and_eq_true] at hk
    obtain ⟨hk1, hk2⟩ := hk
    obtain ⟨⟨a0, v0⟩, rest, rfl⟩ : ∃ p rest, kvs = p :: rest := by
      cases kvs with
      | nil => exact absurd rfl hne
      | cons p rest => exact ⟨p, rest, rfl⟩
    dsimp only at hk2
    rcases ru with ⟨ks, rfl, ru⟩ | ⟨ks, rfl, ru⟩
    · have hs : scalarKey k = true := by
        unfold RepDK at ru
        obtain ⟨a, _, _, _, rfl, _⟩ := ru
        rw [← beq_iff_eq.mp hk2]
        cases a <;> rfl
      obtain ⟨a, rfl⟩ := scalar_key hs
      have := rep_kVal rk
      subst this
      refine ⟨valV ks a, .inl ⟨ks, a, rdd, rfl, rfl⟩, ?_⟩
      rcases dget_dk a ru with ⟨q1, q2⟩ | ⟨w, z, q1, q2, q3⟩
      · exact .inl ⟨q1, q2⟩
      · exact .inr ⟨w, z, q1, q2, q3⟩
    · have hs : scalarKey k = false := by
        unfold RepDT at ru
        obtain ⟨a, _, _, _, rfl, _⟩ := ru
        rw [← beq_iff_eq.mp hk2]
        rfl
      cases k with
      | tup xs =>
        obtain ⟨a, rfl⟩ := scalar_keys (ks := xs) (by simpa [isKey] using hk1)
        unfold Rep at rk
        obtain ⟨b, vs, rfl, q1, q2⟩ := rk
        have := repL_kVal q2
        subst this
        refine ⟨valV ks a, .inr ⟨ks, a, b, rdd, rfl, S.same _ _ q1, rfl⟩, ?_⟩
        rcases dget_dt a ru with ⟨q1, q2⟩ | ⟨w, z, q1, q2, q3⟩
        · exact .inl ⟨q1, q2⟩
        · exact .inr ⟨w, z, q1, q2, q3⟩
      | int => simp [scalarKey] at hs
      | str => simp [scalarKey] at hs
      | _ => simp [isKey] at hk1
  by_cases hne : kvs = []
  · subst hne
    have hlk : lk = false := by
      unfold keyFits at hk
      rw [Bool.and_eq_true] at hk
      simpa using hk.2
    subst hlk
    unfold keyFits at hk
    rw [Bool.and_eq_true] at hk
    obtain ⟨hk1, _⟩ := hk
    have key : (∃ a : Key, k = kVal a) ∨ ∃ a : List Key, k = .tup (a.map kVal) := by
      cases k with
      | int j => exact .inl ⟨.inl j, rfl⟩
      | str z => exact .inl ⟨.inr z, rfl⟩
      | tup xs =>
        obtain ⟨a, rfl⟩ := scalar_keys (ks := xs) (by simpa [isKey] using hk1)
        exact .inr ⟨a, rfl⟩
      | _ => simp [isKey] at hk1
    have st0 : ∀ u', RepD G F m st.length [] u' → Sim G F m st (upd H (m i) u') ∧ Ext F m st.length H F m st.length (upd H (m i) u') := fun u' ru => by
      obtain ⟨q1, q2⟩ := S.set (i := i) (o := .dic [] false) (u := u') hil (fun kvs e => by rw [hi] at e; cases e) ru
      have e : st.set i (.dic [] false) = st := by
        apply List.ext_getElem?
        intro j
        by_cases hj : j = i
        · subst hj; rw [List.getElem?_set_self hil, hi]
        · rw [List.getElem?_set_ne (fun z => hj z.symm)]
      rw [e] at q1 q2
      exact ⟨q1, q2⟩
    have uc : u = .dK [] ∨ u = .dT [] := by
      rcases g2 with ⟨ks, rfl, ru⟩ | ⟨ks, rfl, ru⟩
      · unfold RepDK at ru; subst ru; exact .inl rfl
      · unfold RepDT at ru; subst ru; exact .inr rfl
    rcases key with ⟨a, rfl⟩ | ⟨a, rfl⟩
    · have := rep_kVal rk
      subst this
      rcases uc with rfl | rfl
      · exact ⟨m i, H, none, rfl, I, S, Ext.refl, .inl ⟨[], a, .inl g1, rfl, rfl⟩, .inl ⟨rfl, rfl⟩⟩
      · obtain ⟨q1, q2⟩ := st0 (.dK []) (.inl ⟨[], rfl, by unfold RepDK; rfl⟩)
        exact ⟨m i, _, none, rfl, Inv.toK I g1, q1, q2, .inl ⟨[], a, .inl upd_same, rfl, rfl⟩, .inl ⟨rfl, rfl⟩⟩
    · unfold Rep at rk
      obtain ⟨b, vs, rfl, k1, k2⟩ := rk
      have := repL_kVal k2
      subst this
      rcases uc with rfl | rfl
      · obtain ⟨q1, q2⟩ := st0 (.dT []) (.inr ⟨[], rfl, by unfold RepDT; rfl⟩)
        exact ⟨m i, _, none, rfl, Inv.toT I g1, q1, q2, .inr ⟨[], a, b, .inl upd_same, rfl, q1.same _ _ k1, rfl⟩, .inl ⟨rfl, rfl⟩⟩
      · exact ⟨m i, H, none, rfl, I, S, Ext.refl, .inr ⟨[], a, b, .inl g1, rfl, S.same _ _ k1, rfl⟩, .inl ⟨rfl, rfl⟩⟩
  · cases lk with
    | false =>
      obtain ⟨o, q1, q2⟩ := rd u g2 (.inl g1) hne
      exact ⟨m i, H, o, rfl, I, S, Ext.refl, q1, q2⟩
    | true =>
      obtain ⟨ob, u', rfl, g2⟩ := g2
      obtain ⟨o, q1, q2⟩ := rd u' g2 (.inr ⟨ob, g1⟩) hne
      exact ⟨m i, H, o, rfl, I, S, Ext.refl, q1, q2⟩
end
end Mi

/-! Mi, part W: comparisons, truth, subscripts. -/
namespace Mi
open PySem PySem.Spec PyProof.Rows L2
section
variable {X : Cx} {G : Gm} {E : XK} {d : Nat}
theorem scalE_ok {F : Hp} {m : Nat → Addr} {n : Nat} {a b : Val} {x y : V} {k : Bool} (h : scalE a b = some k) (ra : Rep G F m n a x) (rb : Rep G F m n b y) : scal x y = true ∧ decide (x = y) = k := by
  cases a <;> cases b <;> simp [scalE] at h <;> (unfold Rep at ra rb; subst ra rb; subst h; simp [scal])
def gCmp (op : CmpOp) : Val → Val → Store → Res Val := fun x y st => bool (cmpop op x y st) st
theorem afterB {F : Hp} {m : Nat → Addr} {n : Nat} {st : Store} {H : Hp} {o : Option Bool} {Q : VK} (h : After G E F m n H (bool o st) (KV G Q)) : ∃ k, o = some k ∧ ∀ F' m' H', Sim G F' m' st H' → Ext F m n H F' m' st.length H' → Q (.bl k) H' := by
  cases o with
  | none => exact h.elim
  | some k => exact ⟨k, rfl, fun F' m' H' S e => h F' m' H' S e _ rep_bl⟩
theorem pyInS_cases {st : Store} {a b : Val} {k : Bool} (h : pyInS st a b = some k) : (∃ ys da es, seqOf st b = some ys ∧ dat st 12 a = some da ∧ mapO (dat st 12) ys = some es ∧ k = es.any fun e => PyData.eqv e da) ∨
    ∃ kvs lk, dicOf st b = some (kvs, lk) ∧ keyFits kvs lk a = true ∧ k = (dget kvs a).isSome := by
  unfold pyInS at h
  split at h
  · rename_i ys e1
    split at h
    · rename_i da es e2 e3
      cases h
      exact .inl ⟨ys, da, es, e1, e2, e3, rfl⟩
    · cases h
  · split at h
    · rename_i kvs lk e1
      split at h
      · rename_i hk
        cases h
        exact .inr ⟨kvs, lk, e1, hk, rfl⟩
      · cases h
    · cases h
theorem pyEq_ok (c : CxR X G d) {pins : List (Addr × Obj)} {s : Shared} {σ : L2.St} {H : Hp} {F : Hp} {m : Nat → Addr} {st : Store} {a b : Val} {x y : V} {k : Bool} (S : Sim G F m st H) (ra : Rep G F m st.length a x) (rb : Rep G F m st.length b y) (h : pyEq st a b = some k) :
    ∀ Q : VK, Q (.bl k) H → rEq x y H Q ∨ rEqD X.K x y H Q := by
  intro Q q
  unfold pyEq at h
  cases q1 : scalE a b with
  | some k' =>
    simp [q1] at h
    subst h
    obtain ⟨h1, h2⟩ := scalE_ok q1 ra rb
    exact .inl ⟨h1, by rw [h2]; exact q⟩
  | none =>
    simp only [q1] at h
    cases q2 : dat st 12 a with
    | none => simp [q2] at h
    | some da =>
      cases q3 : dat st 12 b with
      | none => simp [q2, q3] at h
      | some db =>
        simp [q2, q3] at h
        subst h
        obtain ⟨h1, h2, h3⟩ := dat_dp S 12 a x da ra q2
        obtain ⟨g1, g2, g3⟩ := dat_dp S 12 b y db rb q3
        rw [c.K]
        exact .inr ⟨da, db, h1, g1, shaped_of h2 h3 (by decide), shaped_of g2 g3 (by decide), q⟩
theorem pyNe_ok (c : CxR X G d) {pins : List (Addr × Obj)} {s : Shared} {σ : L2.St} {H : Hp} {F : Hp} {m : Nat → Addr} {st : Store} {a b : Val} {x y : V} {k : Bool} (S : Sim G F m st H) (ra : Rep G F m st.length a x) (rb : Rep G F m st.length b y) (h : pyEq st a b = some k) :
    ∀ Q : VK, Q (.bl (!k)) H → rNe x y H Q ∨ rNeD X.K x y H Q := by
  intro Q q
  unfold pyEq at h
  cases q1 : scalE a b with
  | some k' =>
    simp [q1] at h
    subst h
    obtain ⟨h1, h2⟩ := scalE_ok q1 ra rb
    exact .inl ⟨h1, by rw [h2]; exact q⟩
  | none =>
    simp only [q1] at h
    cases q2 : dat st 12 a with
    | none => simp [q2] at h
    | some da =>
      cases q3 : dat st 12 b with
      | none => simp [q2, q3] at h
      | some db =>
        simp [q2, q3] at h
        subst h
        obtain ⟨h1, h2, h3⟩ := dat_dp S 12 a x da ra q2
        obtain ⟨g1, g2, g3⟩ := dat_dp S 12 b y db rb q3
        rw [c.K]
        exact .inr ⟨da, db, h1, g1, shaped_of h2 h3 (by decide), shaped_of g2 g3 (by decide), q⟩
theorem room_in {A : Around} {d : PyData} {ds : List PyData} (h : d.depth ≤ 12) (hu : A.units + 65 < cLine) : A.units + 1 + min (PyData.depthAll ds) d.depth < cLine := by
  have : min (PyData.depthAll ds) d.depth ≤ d.depth := Nat.min_le_right _ _
  omega
theorem room_in' {A : Around} {d : PyData} {ds : List PyData} (h : d.depth ≤ 12) (hu : A.units + 65 < cLine) : A.in1.units + min (PyData.depthAll ds) d.depth < cLine := by
  show A.units + 1 + _ < _
  exact room_in h hu

theorem in_ok (c : CxR X G d) (neg : Bool) : OpR X (compareOp (if neg then .NotIn else .In)) (rV2 G E fun x y st => bool ((pyIn st x y).map fun b => if neg then !b else b) st) := by
  intro pins s σ H x y v u Q I rx ry h
  obtain ⟨F, m, st, a, b, S, ra, rb, h⟩ := h
  have hu := c.u65
  have seqc : ∀ ys, seqOf st b = some ys → ∀ da es, dat st 12 a = some da → mapO (dat st 12) ys = some es → Q (.bl (if neg then !(es.any fun e => PyData.eqv e da) else (es.any fun e => PyData.eqv e da))) H →
      wpAny (model X.prog X.w) X.A (compareOp (if neg then .NotIn else .In) v u) (EP X pins σ Q) X.xe s := by
    intro ys hys da es hda hes q
    obtain ⟨p, vs, rfl, sq, rl⟩ := S.seq rb hys
    obtain ⟨h1, h2, h3⟩ := dat_dp S 12 a x da ra hda
    obtain ⟨g1, g2, g3⟩ := mapO_dp (α := Nat) (dat_dp S 12) rl hes
    rw [← c.K] at h1 g1 sq
    obtain ⟨as, r1⟩ := Dp.reads I da x v h1 rx
    rcases sq with sq | sq
    · obtain ⟨bs, r2⟩ := Dp.reads I (.list es) (.ref p) u (.lst sq g1) ry
      cases neg with
      | true => exact SeqAt.notIn_list_reads r2 r1 g2 h2 (room_in' h3 hu) ⟨.bl _, H, I, rfl, q⟩
      | false => exact SeqAt.in_list_reads r2 r1 g2 h2 (room_in' h3 hu) ⟨.bl _, H, I, rfl, q⟩
    · obtain ⟨bs, r2⟩ := Dp.reads I (.tuple es) (.ref p) u (.tup sq g1) ry
      cases neg with
      | true => exact SeqAt.notIn_tuple_reads r2 r1 g2 h2 (room_in' h3 hu) ⟨.bl _, H, I, rfl, q⟩
      | false => exact SeqAt.in_tuple_reads r2 r1 g2 h2 (room_in' h3 hu) ⟨.bl _, H, I, rfl, q⟩
  have dicc : ∀ kvs lk, dicOf st b = some (kvs, lk) → keyFits kvs lk a = true → (∀ H', Sim G F m st H' → Ext F m st.length H F m st.length H' → Q (.bl (if neg then !(dget kvs a).isSome else (dget kvs a).isSome)) H') →
      wpAny (model X.prog X.w) X.A (compareOp (if neg then .NotIn else .In) v u) (EP X pins σ Q) X.xe s := by
    intro kvs lk hb hk q
    obtain ⟨p, H', o, rfl, I', S', e', g, ho⟩ := S.ask I rb hb ra hk
    have ho' : (dget kvs a).isSome = o.isSome := by
      rcases ho with ⟨q1, q2⟩ | ⟨w, z, q1, q2, _⟩ <;> rw [q1, q2] <;> rfl
    cases ry
    have q := q H' S' e'
    cases neg with
    | true => exact d_notIn (by omega) I' g rx fun s' I2 => ⟨.bl _, H', I2, rfl, by simpa [ho'] using q⟩
    | false => exact d_in (by omega) I' g rx fun s' I2 => ⟨.bl _, H', I2, rfl, by simpa [ho'] using q⟩
  obtain ⟨k, hk, q⟩ := afterB h
  obtain ⟨k0, hk0, rfl⟩ := Option.map_eq_some_iff.mp hk
  have gen : pyInS st a b = some k0 → wpAny (model X.prog X.w) X.A (compareOp (if neg then .NotIn else .In) v u) (EP X pins σ Q) X.xe s := by
    intro hk0
    rcases pyInS_cases hk0 with ⟨ys, da, es, e1, e2, e3, rfl⟩ | ⟨kvs, lk, e1, e2, rfl⟩
    · exact seqc ys e1 da es e2 e3 (q F m H S Ext.refl)
    · exact dicc kvs lk e1 e2 fun H' S' e' => q F m H' S' e'
  cases b with
  | str z =>
    unfold Rep at rb
    subst rb
    cases a with
    | str y =>
      unfold Rep at ra
      subst ra
      have q := q F m H S Ext.refl
      simp only [pyIn, Option.some.injEq] at hk0
      subst hk0
      cases neg with
      | true => exact op_notin_str pins s σ H _ _ v u Q I rx ry ⟨y, z, rfl, rfl, q⟩
      | false => exact op_in_str pins s σ H _ _ v u Q I rx ry ⟨y, z, rfl, rfl, q⟩
    | _ => simp [pyIn] at hk0
  | _ => exact gen hk0
theorem non_iff {F : Hp} {m : Nat → Addr} {n : Nat} {a : Val} {x : V} (r : Rep G F m n a x) : decide (x = V.non) = decide (a = Val.non) := by
  cases a <;> unfold Rep at r <;> first
    | (subst r; rfl)
    | (obtain ⟨_, _, rfl, _⟩ := r; simp)
    | (obtain ⟨_, _, _, rfl, _⟩ := r; simp)
    | (obtain ⟨_, rfl⟩ := r; simp)
    | (subst r; simp)
theorem op_cmp (c : CxR X G d) {op : CmpOp} : OpR X (compareOp op) (rV2 G E (gCmp op)) := by
  intro pins s σ H x y v u Q I rx ry h
  have hu := c.u65
  cases op with
  | In =>
    refine in_ok (E := E) c false pins s σ H x y v u Q I rx ry ?_
    obtain ⟨F, m, st, a, b, S, ra, rb, h⟩ := h
    exact ⟨F, m, st, a, b, S, ra, rb, by
      show After G E F m st.length H (bool ((pyIn st a b).map fun b => b) st) (KV G Q)
      rw [show (pyIn st a b).map (fun b => b) = pyIn st a b by cases pyIn st a b <;> rfl]
      exact h⟩
  | NotIn => exact in_ok c true pins s σ H x y v u Q I rx ry h
  | Eq =>
    obtain ⟨F, m, st, a, b, S, ra, rb, h⟩ := h
    obtain ⟨k, hk, q⟩ := afterB h
    have q := q F m H S Ext.refl
    unfold cmpop at hk
    dsimp only at hk
    rcases pyEq_ok c (pins := pins) (s := s) (σ := σ) S ra rb hk Q q with z | z
    · exact op_eq pins s σ H x y v u Q I rx ry z
    · exact op_eqD (by omega) pins s σ H x y v u Q I rx ry z
  | NotEq =>
    obtain ⟨F, m, st, a, b, S, ra, rb, h⟩ := h
    obtain ⟨k, hk, q⟩ := afterB h
    have q := q F m H S Ext.refl
    unfold cmpop at hk
    dsimp only at hk
    obtain ⟨k0, hk0, rfl⟩ := Option.map_eq_some_iff.mp hk
    rcases pyNe_ok c (pins := pins) (s := s) (σ := σ) S ra rb hk0 Q q with z | z
    · exact op_ne pins s σ H x y v u Q I rx ry z
    · exact op_neD (by omega) pins s σ H x y v u Q I rx ry z
  | Lt =>
    obtain ⟨F, m, st, a, b, S, ra, rb, h⟩ := h
    obtain ⟨k, hk, q⟩ := afterB h
    have q := q F m H S Ext.refl
    unfold cmpop at hk
    dsimp only at hk
    split at hk
    · cases hk
      unfold Rep at ra rb; subst ra rb
      exact op_lt pins s σ H _ _ v u Q I rx ry ⟨_, _, rfl, rfl, q⟩
    · cases hk
      unfold Rep at ra rb; subst ra rb
      exact op_lt_str pins s σ H _ _ v u Q I rx ry ⟨_, _, rfl, rfl, q⟩
    · cases hk
  | LtE =>
    obtain ⟨F, m, st, a, b, S, ra, rb, h⟩ := h
    obtain ⟨k, hk, q⟩ := afterB h
    have q := q F m H S Ext.refl
    unfold cmpop at hk
    dsimp only at hk
    split at hk
    · cases hk
      unfold Rep at ra rb; subst ra rb
      exact op_le pins s σ H _ _ v u Q I rx ry ⟨_, _, rfl, rfl, q⟩
    · cases hk
  | Gt =>
    obtain ⟨F, m, st, a, b, S, ra, rb, h⟩ := h
    obtain ⟨k, hk, q⟩ := afterB h
    have q := q F m H S Ext.refl
    unfold cmpop at hk
    dsimp only at hk
    split at hk
    · cases hk
      unfold Rep at ra rb; subst ra rb
      exact op_gt pins s σ H _ _ v u Q I rx ry ⟨_, _, rfl, rfl, q⟩
    · cases hk
  | GtE =>
    obtain ⟨F, m, st, a, b, S, ra, rb, h⟩ := h
    obtain ⟨k, hk, q⟩ := afterB h
    have q := q F m H S Ext.refl
    unfold cmpop at hk
    dsimp only at hk
    split at hk
    · cases hk
      unfold Rep at ra rb; subst ra rb
      exact op_ge pins s σ H _ _ v u Q I rx ry ⟨_, _, rfl, rfl, q⟩
    · cases hk
  | Is =>
    obtain ⟨F, m, st, a, b, S, ra, rb, h⟩ := h
    obtain ⟨k, hk, q⟩ := afterB h
    have q := q F m H S Ext.refl
    unfold cmpop at hk
    dsimp only at hk
    split at hk
    · cases hk
      unfold Rep at rb; subst rb
      refine op_isN pins s σ H _ _ v u Q I rx ry ⟨rfl, ?_⟩
      rw [show decide (x = V.non) = decide (a = Val.non) from non_iff ra]
      exact q
    · split at hk
      · cases hk
        unfold Rep at ra rb; subst ra rb
        exact op_is_bl pins s σ H _ _ v u Q I rx ry ⟨_, _, rfl, rfl, q⟩
      · cases hk
    · cases hk
  | IsNot =>
    obtain ⟨F, m, st, a, b, S, ra, rb, h⟩ := h
    obtain ⟨k, hk, q⟩ := afterB h
    have q := q F m H S Ext.refl
    unfold cmpop at hk
    dsimp only at hk
    split at hk
    · cases hk
      unfold Rep at rb; subst rb
      refine op_notN pins s σ H _ _ v u Q I rx ry ⟨rfl, ?_⟩
      rw [show decide (x = V.non) = decide (a = Val.non) from non_iff ra]
      exact q
    · split at hk
      · cases hk
        unfold Rep at ra rb; subst ra rb
        exact op_isnot_bl pins s σ H _ _ v u Q I rx ry ⟨_, _, rfl, rfl, q⟩
      · cases hk
    · cases hk
end
end Mi

/-! Mi, part X: expressions, one rule a construct. -/
namespace Mi
open PySem PySem.Spec PyProof.Rows L2
def optB (o : Option Bool) (st : Store) : Res Bool := match o with | some b => .ok b st | none => .no
section
variable {X : Cx} {G : Gm} {E : XK} {d : Nat} {a b c : Expr} {pos : Pos} {fa fb fc : Env → Store → Res Val} {ga gb : Env → Store → Res Bool}
theorem se_cst {v : Val} {x : V} {e : Expr} (h : PE X e (tC x)) (hr : ∀ F m n, Rep G F m n v x) : PE X e (tE G E fun _ st => .ok v st) := by
  refine PE.imp h fun σ H Q q => ?_
  obtain ⟨F, m, σe, st, S, rs, q⟩ := q
  exact q.here S _ (hr F m _)
theorem se_var {i : Nat} {x : Str} (hN : X.N[i]? = some x) (hv : Vis X.env.scope x) (hd : (x == ("__debug__" : Str)) = false) (hcd : (x == ("__classdict__" : Str)) = false) :
    PE X (.Name x pos) (tE G E fun σ st => match σ[i]? with | some (some v) => .ok v st | _ => .no) := by
  refine PE.imp (pe_var hN hv hd hcd) fun σ H Q q => ?_
  obtain ⟨F, m, σe, st, S, rs, q⟩ := q
  dsimp only at q
  split at q
  · rename_i v e
    obtain ⟨x, h1, h2⟩ := rs.2 i v e
    exact ⟨x, h1, q.here S _ h2⟩
  · exact q.elim
def negV : Val → Store → Res Val := fun v st => match v with | .int i => .ok (.int (-i)) st | _ => .no
theorem se_neg (ha : PE X a (tE G E fa)) : PE X (.UnaryOp .USub a pos) (tE G E fun σ st => (fa σ st).bnd negV) := by
  refine PE.imp (pe_un un_neg ha) fun σ H Q q => ?_
  obtain ⟨F, m, σe, st, S, rs, q⟩ := q
  refine ⟨F, m, σe, st, S, rs, q.bnd.mono fun v st1 F1 m1 H1 S1 e1 h1 x rx => ?_⟩
  unfold negV at h1
  split at h1
  · unfold Rep at rx; subst rx
    exact ⟨_, rfl, h1.here S1 _ rep_int⟩
  · exact h1.elim
theorem truth_ok {F : Hp} {m : Nat → Addr} {st : Store} {H : Hp} {v : Val} {x : V} {k : Bool} (S : Sim G F m st H) (r : Rep G F m st.length v x) (h : truth st v = some k) : TruV G.K x H k := by
  cases v with
  | non => unfold Rep at r; subst r; simp [truth] at h; subst h; rfl
  | bl b => unfold Rep at r; subst r; simp [truth] at h; subst h; rfl
  | int b => unfold Rep at r; subst r; simp [truth] at h; subst h; rfl
  | str b =>
    unfold Rep at r; subst r
    unfold truth at h
    dsimp only at h
    split at h
    · rename_i hl
      cases h
      exact ⟨lim_le hl, rfl⟩
    · cases h
  | ins c fs => simp [truth] at h
  | cl c => simp [truth] at h
  | tup xs =>
    have h : some (!xs.isEmpty) = some k := h
    cases h
    unfold Rep at r
    obtain ⟨a, vs, rfl, h1, h2⟩ := r
    exact .inr (.inl ⟨vs, .inl (.inl (S.same _ _ h1)), by cases xs <;> cases vs <;> first | rfl | (have := h2.length; simp at this)⟩)
  | wt xs =>
    have h : some (!xs.isEmpty) = some k := h
    cases h
    unfold Rep at r
    obtain ⟨a, vs, rfl, h1, h2⟩ := r
    exact .inr (.inl ⟨vs, Same.sqT S.same h1, by cases xs <;> cases vs <;> first | rfl | (have := h2.length; simp at this)⟩)
  | wl xs =>
    obtain ⟨a, vs, rfl, h1, h2⟩ := S.list (xs := xs) r rfl
    have h : some (!xs.isEmpty) = some k := h
    cases h
    exact .inl ⟨vs, h1, by cases xs <;> cases vs <;> first | rfl | (have := h2.length; simp at this)⟩
  | fl xs =>
    obtain ⟨a, vs, rfl, h1, h2⟩ := S.list (xs := xs) r rfl
    have h : some (!xs.isEmpty) = some k := h
    cases h
    exact .inl ⟨vs, h1, by cases xs <;> cases vs <;> first | rfl | (have := h2.length; simp at this)⟩
  | ref i =>
    unfold truth at h
    dsimp only at h
    cases q : st[i]? with
    | none => simp [q] at h
    | some o =>
      cases o with
      | lst xs =>
        obtain ⟨a, vs, rfl, h1, h2⟩ := S.list (xs := xs) r (by simp [lstOf, q])
        simp only [q] at h
        cases h
        exact .inl ⟨vs, h1, by cases xs <;> cases vs <;> first | rfl | (have := h2.length; simp at this)⟩
      | dic => simp [q] at h
      | ins => simp [q] at h
def notV : Val → Store → Res Val := fun v st => match truth st v with | some k => .ok (.bl (!k)) st | none => .no
theorem se_not (cx : CxR X G d) (ha : PE X a (tE G E fa)) : PE X (.UnaryOp .Not a pos) (tE G E fun σ st => (fa σ st).bnd notV) := by
  refine PE.imp (pe_notT ha) fun σ H Q q => ?_
  obtain ⟨F, m, σe, st, S, rs, q⟩ := q
  refine ⟨F, m, σe, st, S, rs, q.bnd.mono fun v st1 F1 m1 H1 S1 e1 h1 x rx => ?_⟩
  unfold notV at h1
  split at h1
  · rename_i k hk
    exact ⟨k, by rw [cx.K]; exact truth_ok S1 rx hk, h1.here S1 _ rep_bl⟩
  · exact h1.elim
def andV (f : Store → Res Val) : Val → Store → Res Val := fun v st => match truth st v with | some true => f st | some false => .ok v st | none => .no
def orV (f : Store → Res Val) : Val → Store → Res Val := fun v st => match truth st v with | some true => .ok v st | some false => f st | none => .no
theorem se_and {rest : List Expr} (cx : CxR X G d) (ha : PE X a (tE G E fa)) (hb : PE X (.BoolOp .And (b :: rest) pos) (tE G E fb)) : PE X (.BoolOp .And (a :: b :: rest) pos) (tE G E fun σ st => (fa σ st).bnd (andV (fb σ))) := by
  refine PE.imp (pe_andT ha hb) fun σ H Q q => ?_
  obtain ⟨F, m, σe, st, S, rs, q⟩ := q
  refine ⟨F, m, σe, st, S, rs, q.bnd.mono fun v st1 F1 m1 H1 S1 e1 h1 x rx => ?_⟩
  unfold andV at h1
  split at h1
  · rename_i hk
    exact ⟨true, by rw [cx.K]; exact truth_ok S1 rx hk, by rw [if_pos rfl]; exact ⟨F1, m1, σe, st1, S1, rs.up e1, h1⟩⟩
  · rename_i hk
    exact ⟨false, by rw [cx.K]; exact truth_ok S1 rx hk, by rw [if_neg (by simp)]; exact h1.here S1 _ rx⟩
  · exact h1.elim
theorem se_or {rest : List Expr} (cx : CxR X G d) (ha : PE X a (tE G E fa)) (hb : PE X (.BoolOp .Or (b :: rest) pos) (tE G E fb)) : PE X (.BoolOp .Or (a :: b :: rest) pos) (tE G E fun σ st => (fa σ st).bnd (orV (fb σ))) := by
  refine PE.imp (pe_orT ha hb) fun σ H Q q => ?_
  obtain ⟨F, m, σe, st, S, rs, q⟩ := q
  refine ⟨F, m, σe, st, S, rs, q.bnd.mono fun v st1 F1 m1 H1 S1 e1 h1 x rx => ?_⟩
  unfold orV at h1
  split at h1
  · rename_i hk
    exact ⟨true, by rw [cx.K]; exact truth_ok S1 rx hk, by rw [if_pos rfl]; exact h1.here S1 _ rx⟩
  · rename_i hk
    exact ⟨false, by rw [cx.K]; exact truth_ok S1 rx hk, by rw [if_neg (by simp)]; exact ⟨F1, m1, σe, st1, S1, rs.up e1, h1⟩⟩
  · exact h1.elim
theorem se_cmp {op : CmpOp} {g : Val → Val → Store → Res Val} (ho : OpR X (compareOp op) (rV2 G E g)) (ha : PE X a (tE G E fa)) (hb : PE X b (tE G E fb)) (hm : behindInMarks op b = false) :
    PE X (.Compare a [op] [b] pos) (tE G E fun σ st => (fa σ st).bnd fun x st => (fb σ st).bnd fun y st => g x y st) := by
  refine PE.imp (pe_cmpR ho ha hb hm) fun σ H Q h => ?_
  obtain ⟨F, m, σe, st, S, rs, h⟩ := h
  refine ⟨F, m, σe, st, S, rs, h.bnd.mono fun v st1 F1 m1 H1 S1 e1 h1 x rx => ?_⟩
  refine ⟨F1, m1, σe, st1, S1, rs.up e1, h1.bnd.mono fun u st2 F2 m2 H2 S2 e2 h2 y ry => ?_⟩
  exact ⟨F2, m2, st2, v, u, S2, rx.up e2, ry, h2⟩
def chainV (op op' : CmpOp) (x y : Val) (f : Store → Res Val) : Store → Res Val := fun st => match cmpop op x y st with
  | some true => (f st).bnd fun z st => bool (cmpop op' y z st) st
  | some false => .ok (.bl false) st
  | none => .no
theorem chain_t {σ : L2.St} {H : Hp} {Q : VK} {op op' : CmpOp} (h : tE G E (fun σ st => (fa σ st).bnd fun x st => (fb σ st).bnd fun y st => chainV op op' x y (fc σ) st) σ H Q) :
    tChain (rV2 G E (gCmp op)) (rV2 G E (gCmp op')) (tE G E fa) (tE G E fb) (tE G E fc) σ H Q := by
  obtain ⟨F, m, σe, st, S, rs, h⟩ := h
  refine ⟨F, m, σe, st, S, rs, h.bnd.mono fun v st1 F1 m1 H1 S1 e1 h1 x rx => ?_⟩
  refine ⟨F1, m1, σe, st1, S1, rs.up e1, h1.bnd.mono fun u st2 F2 m2 H2 S2 e2 h2 y ry => ?_⟩
  refine ⟨F2, m2, st2, v, u, S2, rx.up e2, ry, ?_⟩
  unfold chainV at h2
  unfold gCmp
  split at h2
  · rename_i hk
    rw [hk]
    intro F3 m3 H3 S3 e3 z rz
    unfold Rep at rz
    subst rz
    refine ⟨true, rfl, ?_⟩
    rw [if_pos rfl]
    have h3 := (h2.pull e3 (st := st2)).bnd
    refine ⟨F3, m3, σe, st2, S3, (rs.up (e1.trans e2)).up e3, h3.mono fun w st4 F4 m4 H4 S4 e4 h4 z rz => ?_⟩
    exact ⟨F4, m4, st4, u, w, S4, (ry.up e3).up e4, rz, h4⟩
  · rename_i hk
    rw [hk]
    intro F3 m3 H3 S3 e3 z rz
    unfold Rep at rz
    subst rz
    exact ⟨false, rfl, by rw [if_neg (by simp)]; exact h2 F3 m3 H3 S3 e3 _ rep_bl⟩
  · exact h2.elim
theorem se_chain {op op' : CmpOp} (cx : CxR X G d) (ha : PE X a (tE G E fa)) (hb : PE X b (tE G E fb)) (hc : PE X c (tE G E fc)) (hm : lastMarks [op, op'] [b, c] = false) :
    PE X (.Compare a [op, op'] [b, c] pos) (tE G E fun σ st => (fa σ st).bnd fun x st => (fb σ st).bnd fun y st => chainV op op' x y (fc σ) st) :=
  PE.imp (pe_chain (op_cmp (E := E) cx) (op_cmp (E := E) cx) ha hb hc hm) fun σ H Q h => chain_t h

/-! ### tests -/
def tstV : Val → Store → Res Bool := fun v st => optB (truth st v) st
theorem afterT {F : Hp} {m : Nat → Addr} {n : Nat} {st : Store} {H : Hp} {o : Option Bool} {Q : Bool → Hp → Prop} (h : After G E F m n H (optB o st) (KB Q)) : ∃ k, o = some k ∧ ∀ F' m' H', Sim G F' m' st H' → Ext F m n H F' m' st.length H' → Q k H' := by
  cases o with
  | none => exact h.elim
  | some k => exact ⟨k, rfl, fun F' m' H' S e => h F' m' H' S e⟩
theorem st_val (cx : CxR X G d) (ha : PE X a (tE G E fa)) (he : ∀ whole, isTrue a X.env whole = (do let v ← whole; standAt a.pos; holding [v] (truthy v))) : PT X a (tT G E fun σ st => (fa σ st).bnd tstV) := by
  refine PT.imp (pt_truth ha he) fun σ H Q q => ?_
  obtain ⟨F, m, σe, st, S, rs, q⟩ := q
  refine ⟨F, m, σe, st, S, rs, q.bnd.mono fun v st1 F1 m1 H1 S1 e1 h1 x rx => ?_⟩
  obtain ⟨k, hk, h1⟩ := afterT h1
  exact ⟨k, by rw [cx.K]; exact truth_ok S1 rx hk, h1 F1 m1 H1 S1 Ext.refl⟩
theorem st_not (ha : PT X a (tT G E ga)) : PT X (.UnaryOp .Not a pos) (tT G E fun σ st => (ga σ st).bnd fun k st => .ok (!k) st) := by
  refine PT.imp (pt_not ha) fun σ H Q q => ?_
  obtain ⟨F, m, σe, st, S, rs, q⟩ := q
  exact ⟨F, m, σe, st, S, rs, q.bnd.mono fun k st1 F1 m1 H1 S1 e1 h1 => h1 F1 m1 H1 S1 Ext.refl⟩
theorem sw_one {op : BoolOp} (h : PT X a (tT G E ga)) : PW X (.BoolOp op [a] pos) (tT G E ga) := by
  cases op with
  | And => exact pw_and1 h
  | Or => exact pw_or1 h
theorem sw_and {rest : List Expr} (ha : PT X a (tT G E ga)) (hb : PW X (.BoolOp .And (b :: rest) pos) (tT G E gb)) : PW X (.BoolOp .And (a :: b :: rest) pos) (tT G E fun σ st => (ga σ st).bnd fun k st => if k then gb σ st else .ok false st) := by
  refine ⟨fun wh pins s σ H Q I q => (pw_and ha hb).run wh pins s σ H Q I ?_⟩
  obtain ⟨F, m, σe, st, S, rs, q⟩ := q
  refine ⟨F, m, σe, st, S, rs, q.bnd.mono fun k st1 F1 m1 H1 S1 e1 h1 => ?_⟩
  cases k with
  | true => show if true = true then _ else _; rw [if_pos rfl]; exact ⟨F1, m1, σe, st1, S1, rs.up e1, h1⟩
  | false => show if false = true then _ else _; rw [if_neg (by simp)]; exact h1 F1 m1 H1 S1 Ext.refl
theorem sw_or {rest : List Expr} (ha : PT X a (tT G E ga)) (hb : PW X (.BoolOp .Or (b :: rest) pos) (tT G E gb)) : PW X (.BoolOp .Or (a :: b :: rest) pos) (tT G E fun σ st => (ga σ st).bnd fun k st => if k then .ok true st else gb σ st) := by
  refine ⟨fun wh pins s σ H Q I q => (pw_or ha hb).run wh pins s σ H Q I ?_⟩
  obtain ⟨F, m, σe, st, S, rs, q⟩ := q
  refine ⟨F, m, σe, st, S, rs, q.bnd.mono fun k st1 F1 m1 H1 S1 e1 h1 => ?_⟩
  cases k with
  | true => show if true = true then _ else _; rw [if_pos rfl]; exact h1 F1 m1 H1 S1 Ext.refl
  | false => show if false = true then _ else _; rw [if_neg (by simp)]; exact ⟨F1, m1, σe, st1, S1, rs.up e1, h1⟩
theorem st_cmp (cx : CxR X G d) {op : CmpOp} (ha : PE X a (tE G E fa)) (hb : PE X b (tE G E fb)) (hm : behindInMarks op b = false) :
    PT X (.Compare a [op] [b] pos) (tT G E fun σ st => (fa σ st).bnd fun x st => (fb σ st).bnd fun y st => optB (cmpop op x y st) st) := by
  refine PT.imp (pt_cmpR (op_cmp (E := E) cx) ha hb hm) fun σ H Q h => ?_
  obtain ⟨F, m, σe, st, S, rs, h⟩ := h
  refine ⟨F, m, σe, st, S, rs, h.bnd.mono fun v st1 F1 m1 H1 S1 e1 h1 x rx => ?_⟩
  refine ⟨F1, m1, σe, st1, S1, rs.up e1, h1.bnd.mono fun u st2 F2 m2 H2 S2 e2 h2 y ry => ?_⟩
  refine ⟨F2, m2, st2, v, u, S2, rx.up e2, ry, ?_⟩
  obtain ⟨k, hk, h2⟩ := afterT h2
  unfold gCmp
  rw [hk]
  intro F3 m3 H3 S3 e3 z rz
  unfold Rep at rz
  subst rz
  exact ⟨k, rfl, h2 F3 m3 H3 S3 e3⟩
theorem st_chain {op op' : CmpOp} (cx : CxR X G d) (ha : PE X a (tE G E fa)) (hb : PE X b (tE G E fb)) (hc : PE X c (tE G E fc)) (hm : lastMarks [op, op'] [b, c] = false) :
    PT X (.Compare a [op, op'] [b, c] pos) (tT G E fun σ st => ((fa σ st).bnd fun x st => (fb σ st).bnd fun y st => chainV op op' x y (fc σ) st).bnd fun v st => match v with | .bl k => .ok k st | _ => .no) := by
  refine PT.imp (pt_chain (op_cmp (E := E) cx) (op_cmp (E := E) cx) ha hb hc hm) fun σ H Q h => ?_
  refine chain_t ?_
  obtain ⟨F, m, σe, st, S, rs, h⟩ := h
  refine ⟨F, m, σe, st, S, rs, h.bnd.mono fun v st1 F1 m1 H1 S1 e1 h1 x rx => ?_⟩
  split at h1
  · unfold Rep at rx; subst rx
    exact ⟨_, rfl, h1 F1 m1 H1 S1 Ext.refl⟩
  · exact h1.elim
theorem se_ite (hc : PT X c (tT G E ga)) (ha : PE X a (tE G E fa)) (hb : PE X b (tE G E fb)) : PE X (.IfExp c a b pos) (tE G E fun σ st => (ga σ st).bnd fun k st => if k then fa σ st else fb σ st) := by
  refine PE.imp (pe_ifExp hc ha hb) fun σ H Q q => ?_
  obtain ⟨F, m, σe, st, S, rs, q⟩ := q
  refine ⟨F, m, σe, st, S, rs, q.bnd.mono fun k st1 F1 m1 H1 S1 e1 h1 => ?_⟩
  cases k with
  | true => show if true = true then _ else _; rw [if_pos rfl]; exact ⟨F1, m1, σe, st1, S1, rs.up e1, h1⟩
  | false => show if false = true then _ else _; rw [if_neg (by simp)]; exact ⟨F1, m1, σe, st1, S1, rs.up e1, h1⟩
end
end Mi

/-! Mi, part Y: displays, subscripts, fields. -/
namespace Mi
open PySem PySem.Spec PyProof.Rows L2
section
variable {X : Cx} {G : Gm} {E : XK} {d : Nat} {a b c : Expr} {pos p2 : Pos} {es : List Expr} {fa fb fc : Env → Store → Res Val} {fs : Env → Store → Res (List Val)}
theorem sa_nil : PA X [] (tA G E fun _ st => .ok [] st) := by
  refine PA.imp pa_nil fun σ H Q h => ?_
  obtain ⟨F, m, σe, st, S, rs, h⟩ := h
  exact h F m H S Ext.refl _ RepL.nil
def notStar : Expr → Bool
  | .Starred _ _ => false
  | _ => true
theorem starEach_plain {e : Expr} {es : List Expr} {env : PySem.Env} (h : notStar e = true) : starEach (e :: es) env = (false, eval e env) :: starEach es env := by
  cases e <;> first | rfl | cases h
theorem sa_cons (h0 : notStar a = true) (ha : PE X a (tE G E fa)) (hr : PA X es (tA G E fs)) : PA X (a :: es) (tA G E fun σ st => (fa σ st).bnd fun v st => (fs σ st).bnd fun vs st => .ok (v :: vs) st) := by
  refine PA.imp (pa_cons ha hr (starEach_plain h0)) fun σ H Q h => ?_
  obtain ⟨F, m, σe, st, S, rs, h⟩ := h
  refine ⟨F, m, σe, st, S, rs, h.bnd.mono fun v st1 F1 m1 H1 S1 e1 h1 x rx => ?_⟩
  refine ⟨F1, m1, σe, st1, S1, rs.up e1, h1.bnd.mono fun vs st2 F2 m2 H2 S2 e2 h2 xs rxs => ?_⟩
  exact h2 F2 m2 H2 S2 Ext.refl _ (RepL.cons (rx.up e2) rxs)
def starV (f : Store → Res (List Val)) : Val → Store → Res (List Val) := fun v st => match seqOf st v with
  | some xs => (f st).bnd fun vs st => .ok (xs ++ vs) st
  | none => .no
theorem sa_star (cx : CxR X G d) (ha : PE X a (tE G E fa)) (hr : PA X es (tA G E fs)) : PA X (.Starred a p2 :: es) (tA G E fun σ st => (fa σ st).bnd (starV (fs σ))) := by
  refine PA.imp (StX.pa_star ha hr rfl) fun σ H Q h => ?_
  obtain ⟨F, m, σe, st, S, rs, h⟩ := h
  refine ⟨F, m, σe, st, S, rs, h.bnd.mono fun v st1 F1 m1 H1 S1 e1 h1 x rx => ?_⟩
  unfold starV at h1
  split at h1
  · rename_i xs hxs
    obtain ⟨p, ys, rfl, sq, rl⟩ := S1.seq rx hxs
    refine ⟨p, ys, rfl, by rw [cx.K]; exact sq.symm, F1, m1, σe, st1, S1, rs.up e1, h1.bnd.mono fun vs st2 F2 m2 H2 S2 e2 h2 zs rz => ?_⟩
    exact h2 F2 m2 H2 S2 Ext.refl _ ((rl.up e2).append rz)
  · exact h1.elim
def tupV : List Val → Store → Res Val := fun vs st => if vs.length ≤ lim then .ok (.tup vs) st else .no
def lstV (mt : Bool) : List Val → Store → Res Val := fun vs st => if vs.length ≤ lim then newL mt vs st else .no
theorem se_tup {x1} (h : PA X es (tA G E fs)) : PE X (.Tuple es x1 pos) (tE G E fun σ st => (fs σ st).bnd tupV) := by
  refine PE.imp (pe_tup h) fun σ H Q h => ?_
  obtain ⟨F, m, σe, st, S, rs, h⟩ := h
  refine ⟨F, m, σe, st, S, rs, h.bnd.mono fun vs st1 F1 m1 H1 S1 e1 h1 xs rxs => ?_⟩
  unfold tupV at h1
  split at h1
  · rename_i hl
    exact ⟨by rw [← rxs.length]; exact lim_le hl, fun p hp => fin_tup S1 rxs hp h1⟩
  · exact h1.elim
theorem se_lst {mt : Bool} (h : PA X es (tA G E fs)) : PE X (.List es pos) (tE G E fun σ st => (fs σ st).bnd (lstV mt)) := by
  refine PE.imp (pe_lst h) fun σ H Q h => ?_
  obtain ⟨F, m, σe, st, S, rs, h⟩ := h
  refine ⟨F, m, σe, st, S, rs, h.bnd.mono fun vs st1 F1 m1 H1 S1 e1 h1 xs rxs => ?_⟩
  unfold lstV at h1
  split at h1
  · rename_i hl
    exact ⟨by rw [← rxs.length]; exact lim_le hl, fun p hp => fin_newL S1 rxs hp h1⟩
  · exact h1.elim

/-! ### subscripts -/
def noSlice : Expr → Bool
  | .Slice _ _ _ _ => false
  | _ => true
theorem plainIx {b : Expr} (h : noSlice b = true) : PlainIx b := fun o i => by
  cases b <;> first | rfl | cases h
theorem RepL.atI {F : Hp} {m : Nat → Addr} {n : Nat} {xs : List Val} {vs : List V} {i : Int} {v : Val} (r : RepL G F m n xs vs) (h : L2.atI xs i = some v) : ∃ x, L2.atI vs i = some x ∧ Rep G F m n v x := by
  unfold L2.atI at h ⊢
  rw [← r.length]
  cases q : ixN xs.length i with
  | none => simp [q] at h
  | some j =>
    simp [q] at h
    obtain ⟨x, h1, h2⟩ := r.get h
    exact ⟨x, h1, h2⟩
theorem index_cases {st : Store} {o i v : Val} (h : index o i st = some v) : (∃ x k c, o = .str x ∧ i = .int k ∧ x.length ≤ lim ∧ L2.atI x.cps.toList k = some c ∧ v = .str ⟨#[c]⟩) ∨ (∃ xs k, seqOf st o = some xs ∧ i = .int k ∧ L2.atI xs k = some v) ∨
    ∃ kvs lk, dicOf st o = some (kvs, lk) ∧ keyFits kvs lk i = true ∧ dget kvs i = some v := by
  have gen : indexS o i st = some v → (∃ xs k, seqOf st o = some xs ∧ i = .int k ∧ L2.atI xs k = some v) ∨ ∃ kvs lk, dicOf st o = some (kvs, lk) ∧ keyFits kvs lk i = true ∧ dget kvs i = some v := by
    intro h
    unfold indexS at h
    split at h
    · rename_i xs e1
      split at h
      · exact .inl ⟨xs, _, e1, rfl, h⟩
      · cases h
    · split at h
      · rename_i kvs lk e1
        split at h
        · rename_i hk
          exact .inr ⟨kvs, lk, e1, hk, h⟩
        · cases h
      · cases h
  cases o with
  | str x =>
    have h : strAt x i = some v := h
    unfold strAt at h
    split at h
    · split at h
      · rename_i hl
        obtain ⟨c, h1, rfl⟩ := Option.map_eq_some_iff.mp h
        exact .inl ⟨x, _, c, rfl, rfl, hl, h1, rfl⟩
      · cases h
    · cases h
  | _ => exact .inr (gen h)
theorem subscriptTail_dict {pins : List (Addr × Obj)} {s : Shared} {σ : L2.St} {H : Hp} {p : Addr} {y z : V} {u : Value} {value slice : Expr} {Q : VK} (hu : X.A.units + 65 < cLine) (I : Inv X pins σ H s) (g : DGet H p y (some z)) (ry : RelV y u)
    (hsl : subscripted slice false (.ref p) u = operate [.ref p, u] (getItem (.ref p) u)) (q : Q z H) : wpAny (model X.prog X.w) X.A (subscriptTail value slice (.ref p) u) (EP X pins σ Q) X.xe s := by
  have hT := dict_typeIs I g
  unfold subscriptTail
  refine wpAny_bind ?_
  rw [getitemInPython_of_ne hT.not_modules]
  refine wpAny_bind (wpAny_specialOf hT PySem.F.slot_dict_getitem.lookup ?_)
  have h2 : wpAny (model X.prog X.w) X.A (getItem (.ref p) u) (EP X pins σ Q) X.xe s := d_getItem (by omega) I g ry fun w' s3 I3 rw' => ⟨z, H, I3, rw', q⟩
  have fin : wpAny (model X.prog X.w) X.A (subscripted slice false (.ref p) u) (fun r s₃ => wpAny (model X.prog X.w) X.A (letTemporaryGo value (.ref p) r >>= fun _ => pure r) (EP X pins σ Q) X.xe s₃) X.xe s := by
    rw [hsl]
    exact wpAny_operating (wpAny_mono h2 (fun r s₃ h₃ => wpAny_bind (wpAny_letTemporaryGo (wpAny_pure h₃))) fun _ _ x => x)
  first
    | exact wpAny_pure (wpAny_bind fin)
    | exact wpAny_bind (wpAny_pure (wpAny_bind fin))
    | exact wpAny_bind fin
def idxV : Val → Val → Store → Res Val := fun o i st => match index o i st with | some v => .ok v st | none => .no
theorem se_idx (cx : CxR X G d) (ha : PE X a (tE G E fa)) (hb : PE X b (tE G E fb)) (hs : noSlice b = true) : PE X (.Subscript a b pos) (tE G E fun σ st => (fa σ st).bnd fun o st => (fb σ st).bnd fun i st => idxV o i st) := by
  have hu := cx.u65
  -- by values
  have ix : IxR X (rV2 G E idxV) := by
    intro value slice pins s σ H x y v u Q I rx ry h hsl
    obtain ⟨F, m, st, o, i, S, ro, ri, h⟩ := h
    unfold idxV at h
    split at h
    · rename_i w hw
      rcases index_cases hw with ⟨z, k, c, rfl, rfl, hl, h1, rfl⟩ | ⟨xs, k, h1, rfl, h2⟩ | ⟨kvs, lk, h1, h2, h3⟩
      · unfold Rep at ro ri; subst ro ri
        exact ix_str value slice pins s σ H _ _ v u Q I rx ry ⟨z, k, c, rfl, rfl, lim_le hl, h1, h.here S _ rep_str⟩ hsl
      · unfold Rep at ri; subst ri
        obtain ⟨p, ys, rfl, sq, rl⟩ := S.seq ro h1
        obtain ⟨z, g1, g2⟩ := rl.atI h2
        rw [← cx.K] at sq
        rcases sq with sq | sq
        · exact ix_list value slice pins s σ H _ _ v u Q I rx ry ⟨p, ys, k, z, rfl, rfl, sq, g1, h.here S _ g2⟩ hsl
        · exact ix_tup value slice pins s σ H _ _ v u Q I rx ry ⟨p, ys, k, z, rfl, rfl, sq, g1, h.here S _ g2⟩ hsl
      · obtain ⟨p, H', oo, rfl, I', S', e', g, ho⟩ := S.ask I ro h1 ri h2
        rcases ho with ⟨q1, _⟩ | ⟨w', z, q1, rfl, q3⟩
        · rw [h3] at q1; cases q1
        · rw [h3] at q1
          cases q1
          cases rx
          exact subscriptTail_dict hu I' g ry hsl (h F m H' S' e' _ q3)
    · exact h.elim
  refine PE.imp (pe_ix ix ha hb (plainIx hs)) fun σ H Q h => ?_
  obtain ⟨F, m, σe, st, S, rs, h⟩ := h
  refine ⟨F, m, σe, st, S, rs, h.bnd.mono fun v st1 F1 m1 H1 S1 e1 h1 x rx => ?_⟩
  refine ⟨F1, m1, σe, st1, S1, rs.up e1, h1.bnd.mono fun u st2 F2 m2 H2 S2 e2 h2 y ry => ?_⟩
  exact ⟨F2, m2, st2, v, u, S2, rx.up e2, ry, h2⟩

/-! ### slices -/
def cutL {α : Type} (xs : List α) (lo hi : Option Int) : List α := (xs.drop (HT.sIx xs.length 0 lo)).take (HT.sIx xs.length xs.length hi - HT.sIx xs.length 0 lo)
theorem RepL.drop {F : Hp} {m : Nat → Addr} {n : Nat} : ∀ {xs : List Val} {vs : List V} (k : Nat), RepL G F m n xs vs → RepL G F m n (xs.drop k) (vs.drop k)
  | _, _, 0, h => h
  | [], _, k + 1, h => by unfold RepL at h; subst h; simp; exact RepL.nil
  | x :: xs, _, k + 1, h => by
    unfold RepL at h
    obtain ⟨y, ys, rfl, h1, h2⟩ := h
    exact h2.drop k
theorem RepL.take {F : Hp} {m : Nat → Addr} {n : Nat} : ∀ {xs : List Val} {vs : List V} (k : Nat), RepL G F m n xs vs → RepL G F m n (xs.take k) (vs.take k)
  | _, _, 0, h => by simp; exact RepL.nil
  | [], _, k + 1, h => by unfold RepL at h; subst h; simp; exact RepL.nil
  | x :: xs, _, k + 1, h => by
    unfold RepL at h
    obtain ⟨y, ys, rfl, h1, h2⟩ := h
    exact RepL.cons h1 (h2.take k)
theorem RepL.cut {F : Hp} {m : Nat → Addr} {n : Nat} {xs : List Val} {vs : List V} {lo hi : Option Int} (h : RepL G F m n xs vs) : RepL G F m n (cutL xs lo hi) (cutV vs lo hi) := by
  unfold cutL cutV
  rw [← h.length]
  exact (h.drop _).take _
def slcV (mt : Bool) : Val → Option Int → Option Int → Store → Res Val := fun o lo hi st => match o with
  | .str x => if x.length ≤ lim then .ok (.str (cutS x lo hi)) st else .no
  | .tup xs => .ok (.tup (cutL xs lo hi)) st
  | o => match lstOf st o with
    | some xs => newL mt (cutL xs lo hi) st
    | none => .no
theorem cut_all {xs : List V} {lo hi : Option Int} (h : (cutV xs lo hi).length = xs.length) : cutV xs lo hi = xs := by
  unfold cutV at h ⊢
  rw [List.length_take, List.length_drop] at h
  by_cases h0 : xs.length = 0
  · have : xs = [] := List.length_eq_zero_iff.mp h0
    subst this
    simp
  · have h1 : HT.sIx xs.length 0 lo = 0 := by omega
    rw [h1] at h ⊢
    rw [List.drop_zero]
    exact List.take_of_length_le (by omega)

theorem sl_ok (cx : CxR X G d) {mt : Bool} : SlR X (fun x lo hi H Q => ∃ F m st v, Sim G F m st H ∧ Rep G F m st.length v x ∧ After G E F m st.length H (slcV mt v lo hi st) (KV G Q)) := by
  intro pins s σ H x v vl vu lo hi sl Q I rx hs pl pu h
  obtain ⟨F, m, st, o, S, ro, h⟩ := h
  have gen : ∀ xs, lstOf st o = some xs → After G E F m st.length H (newL mt (cutL xs lo hi) st) (KV G Q) → ∃ T id, typeLookup (.type T) "__getitem__" = pure (some (.builtin id)) ∧ s.TypeIs v T ∧ wpAny (model X.prog X.w) X.A (getItem v (.ref sl)) (EP X pins σ Q) X.xe s := by
    intro xs hx h
    obtain ⟨a, vs, rfl, sq, rl⟩ := S.list ro hx
    rw [← cx.K] at sq
    exact sl_list pins s σ H _ v vl vu lo hi sl Q I rx hs pl pu ⟨a, vs, rfl, sq, fun p hp => fin_newL S rl.cut hp h⟩
  cases o with
  | str z =>
    unfold Rep at ro; subst ro
    unfold slcV at h
    dsimp only at h
    split at h
    · rename_i hl
      exact sl_str pins s σ H _ v vl vu lo hi sl Q I rx hs pl pu ⟨z, rfl, lim_le hl, h.here S _ rep_str⟩
    · exact h.elim
  | tup xs =>
    unfold Rep at ro
    obtain ⟨a, vs, rfl, h1, h2⟩ := ro
    refine sl_tupA pins s σ H _ v vl vu lo hi sl Q I rx hs pl pu ⟨a, vs, rfl, .inl (.inl (S.same _ _ h1)), fun e => ?_, fun _ p hp => fin_tup S h2.cut hp h⟩
    refine After.here S h _ ?_
    unfold Rep
    refine ⟨a, vs, rfl, h1, ?_⟩
    have := h2.cut (lo := lo) (hi := hi)
    have e2 : cutV vs lo hi = vs := by
      unfold cutV
      rw [e.1, e.2, List.drop_zero, Nat.sub_zero]
      exact List.take_length
    rw [e2] at this
    exact this
  | _ =>
    all_goals
      unfold slcV at h
      dsimp only at h
      split at h
      · rename_i xs hx
        exact gen xs hx h
      · exact h.elim
def po (f : Env → Store → Res (Option Int)) (G : Gm) (E : XK) : TO := fun σ H Q => ∃ F m σe st, Sim G F m st H ∧ RepS G F m st.length σe σ ∧ After G E F m st.length H (f σe st) (fun o _ _ _ H' => Q o H')
theorem PO.imp {e : Option Expr} {t t' : TO} (h : PO X e t) (w : ∀ σ H Q, t' σ H Q → t σ H Q) : PO X e t' := ⟨fun pins s σ H Q I q => h.run pins s σ H Q I (w _ _ _ q)⟩
theorem so_none : PO X none (po (fun _ st => .ok none st) G E) := by
  refine PO.imp po_none fun σ H Q q => ?_
  obtain ⟨F, m, σe, st, S, rs, q⟩ := q
  exact q F m H S Ext.refl
def intV : Val → Store → Res (Option Int) := fun v st => match v with | .int i => .ok (some i) st | _ => .no
theorem so_some (ha : PE X a (tE G E fa)) : PO X (some a) (po (fun σ st => (fa σ st).bnd intV) G E) := by
  refine PO.imp (po_some ha) fun σ H Q q => ?_
  obtain ⟨F, m, σe, st, S, rs, q⟩ := q
  refine ⟨F, m, σe, st, S, rs, q.bnd.mono fun v st1 F1 m1 H1 S1 e1 h1 x rx => ?_⟩
  unfold intV at h1
  split at h1
  · unfold Rep at rx; subst rx
    exact ⟨_, rfl, h1 F1 m1 H1 S1 Ext.refl⟩
  · exact h1.elim
theorem se_slc (cx : CxR X G d) {mt : Bool} {lo hi : Option Expr} {fl fh : Env → Store → Res (Option Int)} (ha : PE X a (tE G E fa)) (hl : PO X lo (po fl G E)) (hh : PO X hi (po fh G E)) :
    PE X (.Subscript a (.Slice lo hi none p2) pos) (tE G E fun σ st => (fa σ st).bnd fun o st => (fl σ st).bnd fun l st => (fh σ st).bnd fun h st => slcV mt o l h st) := by
  refine PE.imp (pe_slice (sl_ok (E := E) (mt := mt) cx) ha hl hh) fun σ H Q q => ?_
  obtain ⟨F, m, σe, st, S, rs, q⟩ := q
  refine ⟨F, m, σe, st, S, rs, q.bnd.mono fun v st1 F1 m1 H1 S1 e1 h1 x rx => ?_⟩
  refine ⟨F1, m1, σe, st1, S1, rs.up e1, h1.bnd.mono fun l st2 F2 m2 H2 S2 e2 h2 => ?_⟩
  refine ⟨F2, m2, σe, st2, S2, rs.up (e1.trans e2), h2.bnd.mono fun u st3 F3 m3 H3 S3 e3 h3 => ?_⟩
  exact ⟨F3, m3, st3, v, S3, rx.up (e2.trans e3), h3⟩
end
end Mi

/-! Mi, part Z: statements, loops. -/
namespace Mi
open PySem PySem.Spec PyProof.Rows L2
/-- what is wanted behind a statement -/
def KF (G : Gm) (D : Ends) : Fw × Env → Store → Hp → (Nat → Addr) → Hp → Prop := fun r st' F' m' H' => match r.1 with
  | .nx => ∀ σ', RepS G F' m' st'.length r.2 σ' → D.nx σ' H'
  | .brk => ∀ σ', RepS G F' m' st'.length r.2 σ' → D.bk σ' H'
  | .ct => ∀ σ', RepS G F' m' st'.length r.2 σ' → D.ct σ' H'
  | .ret v => ∀ x, Rep G F' m' st'.length v x → D.rt x H'
def tS (G : Gm) (E : XK) (f : Env → Store → Res (Fw × Env)) : TS := fun D σ H => ∃ F m σe st, Sim G F m st H ∧ RepS G F m st.length σe σ ∧ After G E F m st.length H (f σe st) (KF G D)
theorem PS.imp {X : Cx} {e : Stmt} {t t' : TS} (h : PS X e t) (w : ∀ D σ H, t' D σ H → t D σ H) : PS X e t' := ⟨fun pins s σ H D I q => h.run pins s σ H D I (w _ _ _ q)⟩
theorem PSs.imp {X : Cx} {e : List Stmt} {t t' : TS} (h : PSs X e t) (w : ∀ D σ H, t' D σ H → t D σ H) : PSs X e t' := ⟨fun pins s σ H D I q => h.run pins s σ H D I (w _ _ _ q)⟩
/-- one statement, then others -/
def seqF (f g : Env → Store → Res (Fw × Env)) : Env → Store → Res (Fw × Env) := fun σ st => (f σ st).bnd fun r st => match r.1 with
  | .nx => g r.2 st
  | _ => .ok r st
section
variable {X : Cx} {G : Gm} {E : XK} {d : Nat} {a b c : Expr} {pos p2 : Pos} {s1 : Stmt} {ss : List Stmt} {f g : Env → Store → Res (Fw × Env)} {fa fb fc : Env → Store → Res Val} {gc : Env → Store → Res Bool}
theorem ss_nil : PSs X [] (tS G E fun σ st => .ok (.nx, σ) st) := by
  refine PSs.imp pss_nil fun D σ H h => ?_
  obtain ⟨F, m, σe, st, S, rs, h⟩ := h
  exact h F m H S Ext.refl σ rs
theorem ss_cons (h1 : PS X s1 (tS G E f)) (h2 : PSs X ss (tS G E g)) : PSs X (s1 :: ss) (tS G E (seqF f g)) := by
  refine PSs.imp (pss_cons h1 h2) fun D σ H h => ?_
  obtain ⟨F, m, σe, st, S, rs, h⟩ := h
  refine ⟨F, m, σe, st, S, rs, h.bnd.mono fun r st1 F1 m1 H1 S1 e1 h1 => ?_⟩
  obtain ⟨r, σ'⟩ := r
  cases r with
  | nx => exact fun σ2 rs2 => ⟨F1, m1, σ', st1, S1, rs2, h1⟩
  | brk => exact h1 F1 m1 H1 S1 Ext.refl
  | ct => exact h1 F1 m1 H1 S1 Ext.refl
  | ret v => exact h1 F1 m1 H1 S1 Ext.refl
theorem s_pass : PS X (.Pass pos) (tS G E fun σ st => .ok (.nx, σ) st) := by
  refine PS.imp ps_pass fun D σ H h => ?_
  obtain ⟨F, m, σe, st, S, rs, h⟩ := h
  exact h F m H S Ext.refl σ rs
theorem s_break : PS X (.Break pos) (tS G E fun σ st => .ok (.brk, σ) st) := by
  refine PS.imp ps_break fun D σ H h => ?_
  obtain ⟨F, m, σe, st, S, rs, h⟩ := h
  exact h F m H S Ext.refl σ rs
theorem s_cont : PS X (.Continue pos) (tS G E fun σ st => .ok (.ct, σ) st) := by
  refine PS.imp ps_continue fun D σ H h => ?_
  obtain ⟨F, m, σe, st, S, rs, h⟩ := h
  exact h F m H S Ext.refl σ rs
theorem s_ret (ha : PE X a (tE G E fa)) : PS X (.Return (some a) pos) (tS G E fun σ st => (fa σ st).bnd fun v st => .ok (.ret v, σ) st) := by
  refine PS.imp (ps_ret ha) fun D σ H h => ?_
  obtain ⟨F, m, σe, st, S, rs, h⟩ := h
  exact ⟨F, m, σe, st, S, rs, h.bnd.mono fun v st1 F1 m1 H1 S1 e1 h1 => h1 F1 m1 H1 S1 Ext.refl⟩
theorem s_retN : PS X (.Return none pos) (tS G E fun σ st => .ok (.ret .non, σ) st) := by
  refine PS.imp ps_retN fun D σ H h => ?_
  obtain ⟨F, m, σe, st, S, rs, h⟩ := h
  exact h F m H S Ext.refl _ rep_non
theorem s_expr (ha : PE X a (tE G E fa)) (hs : swapsWith a none pos.line X.env = pure false) : PS X (.Expr a pos) (tS G E fun σ st => (fa σ st).bnd fun _ st => .ok (.nx, σ) st) := by
  refine PS.imp (ps_expr ha hs) fun D σ H h => ?_
  obtain ⟨F, m, σe, st, S, rs, h⟩ := h
  exact ⟨F, m, σe, st, S, rs, h.bnd.mono fun v st1 F1 m1 H1 S1 e1 h1 x rx => h1 F1 m1 H1 S1 Ext.refl σ (rs.up e1)⟩
theorem s_never : PS X s1 (tS G E fun _ _ => .no) := ⟨fun _ _ _ _ _ _ h => by obtain ⟨F, m, σe, st, S, rs, h⟩ := h; exact h.elim⟩
theorem s_if {sa sb : List Stmt} (hc : PT X c (tT G E gc)) (ha : PSs X sa (tS G E f)) (hb : PSs X sb (tS G E g)) : PS X (.If c sa sb pos) (tS G E fun σ st => (gc σ st).bnd fun k st => if k then f σ st else g σ st) := by
  refine PS.imp (ps_if hc ha hb) fun D σ H h => ?_
  obtain ⟨F, m, σe, st, S, rs, h⟩ := h
  refine ⟨F, m, σe, st, S, rs, h.bnd.mono fun k st1 F1 m1 H1 S1 e1 h1 => ?_⟩
  cases k with
  | true => show if true = true then _ else _; rw [if_pos rfl]; exact ⟨F1, m1, σe, st1, S1, rs.up e1, h1⟩
  | false => show if false = true then _ else _; rw [if_neg (by simp)]; exact ⟨F1, m1, σe, st1, S1, rs.up e1, h1⟩
theorem s_while (hp : PassesOwn (model X.prog X.w) X.A X.env X.xe) (hc : PT X c (tT G E gc)) (hb : PSs X ss (tS G E f)) (n : Nat) : PS X (.While c ss [] pos) (tS G E fun σ st => whileL gc f n σ st) := by
  refine PS.imp (ps_while hp hc hb) fun D σ H h => ?_
  refine ⟨fun k σ H => ∃ F m σe st, Sim G F m st H ∧ RepS G F m st.length σe σ ∧ After G E F m st.length H (whileL gc f k σe st) (KF G D), ⟨n, h⟩, fun k σ H h => ?_⟩
  obtain ⟨F, m, σe, st, S, rs, h⟩ := h
  cases k with
  | zero => exact h.elim
  | succ k =>
    unfold whileL at h
    refine ⟨F, m, σe, st, S, rs, h.bnd.mono fun t st1 F1 m1 H1 S1 e1 h1 => ?_⟩
    cases t with
    | false =>
      show if false = true then _ else _
      rw [if_neg (by simp)]
      exact h1 F1 m1 H1 S1 Ext.refl σ (rs.up e1)
    | true =>
      show if true = true then _ else _
      rw [if_pos rfl]
      refine ⟨fun σ H => ∃ F m σe st, Sim G F m st H ∧ RepS G F m st.length σe σ ∧ After G E F m st.length H (whileL gc f k σe st) (KF G D), fun σ' H' hN => ⟨k, Nat.lt_succ_self k, hN⟩, F1, m1, σe, st1, S1, rs.up e1, After.mono (After.bnd (if_pos rfl ▸ h1)) fun r st2 F2 m2 H2 S2 e2 h2 => ?_⟩
      obtain ⟨r, σ'⟩ := r
      cases r with
      | nx => exact fun σ2 rs2 => ⟨F2, m2, σ', st2, S2, rs2, h2⟩
      | ct => exact fun σ2 rs2 => ⟨F2, m2, σ', st2, S2, rs2, h2⟩
      | brk => exact h2 F2 m2 H2 S2 Ext.refl
      | ret v => exact h2 F2 m2 H2 S2 Ext.refl
end
end Mi

/-! Mi, part j1: targets. -/
namespace Mi
open PySem PySem.Spec PyProof.Rows L2
/-- only the slots of a target are changed -/
def Only (js : List Nat) (σ σ' : L2.St) : Prop := σ'.length = σ.length ∧ ∀ j, j ∉ js → σ'[j]? = σ[j]?
def tG (G : Gm) (g : Tg) : TG := fun v σ H Q => ∃ F m st σe w σe', Sim G F m st H ∧ RepS G F m st.length σe σ ∧ Rep G F m st.length w v ∧ asg g w σe st = some σe' ∧ ∀ σ', RepS G F m st.length σe' σ' → Only g.slots σ σ' → Q σ' H
def tGs (G : Gm) (gs : List Tg) : TGs := fun vs σ H Q => ∃ F m st σe ws σe', Sim G F m st H ∧ RepS G F m st.length σe σ ∧ RepL G F m st.length ws vs ∧ asgL gs ws σe st = some σe' ∧ ∀ σ', RepS G F m st.length σe' σ' → Only (Tg.slotsL gs) σ σ' → Q σ' H
theorem PG.imp {X : Cx} {e : Expr} {t t' : TG} (h : PG X e t) (w : ∀ v σ H Q, t' v σ H Q → t v σ H Q) : PG X e t' := ⟨fun pins s σ H v u Q I r q => h.run pins s σ H v u Q I r (w _ _ _ _ q)⟩
theorem PGs.imp {X : Cx} {e : List Expr} {t t' : TGs} (h : PGs X e t) (w : ∀ v σ H Q, t' v σ H Q → t v σ H Q) : PGs X e t' := ⟨fun pins s σ H v u Q I r q => h.run pins s σ H v u Q I r (w _ _ _ _ q)⟩
theorem RepS.set {G : Gm} {F : Hp} {m : Nat → Addr} {n : Nat} {σe : Env} {σ : L2.St} {i : Nat} {w : Val} {v : V} (rs : RepS G F m n σe σ) (r : Rep G F m n w v) : RepS G F m n (σe.set i (some w)) (σ.set i (some v)) := by
  refine ⟨by simp [rs.1], fun j u e => ?_⟩
  by_cases hj : i = j
  · subst hj
    by_cases hi : i < σe.length
    · rw [List.getElem?_set_self hi] at e
      cases e
      exact ⟨v, List.getElem?_set_self (by rw [← rs.1]; exact hi), r⟩
    · rw [List.getElem?_eq_none (by simpa using hi)] at e
      cases e
  · rw [List.getElem?_set_ne hj] at e
    obtain ⟨x, h1, h2⟩ := rs.2 j u e
    exact ⟨x, by rw [List.getElem?_set_ne hj]; exact h1, h2⟩
section
variable {X : Cx} {G : Gm} {d : Nat} {pos : Pos}
theorem sg_name {i : Nat} {x : Str} (hN : X.N.Nodup) (hi : X.N[i]? = some x) (hx : Loc X.env.scope x) (hf : X.fn x = true ∨ X.env.scope.names.lookup x = some .local) : PG X (.Name x pos) (tG G (.nm i)) := by
  refine PG.imp (pg_name hN hi hx hf) fun v σ H Q h => ?_
  obtain ⟨F, m, st, σe, w, σe', S, rs, r, ha, q⟩ := h
  unfold asg at ha
  split at ha
  · cases ha
    exact q _ (rs.set r) ⟨by simp, fun j hj => List.getElem?_set_ne (fun e => hj (by simp [Tg.slots, e]))⟩
  · cases ha
theorem assignEach_plain {e : Expr} {es : List Expr} {env : PySem.Env} (h : notStar e = true) : assignEach (e :: es) env = (false, assign e env) :: assignEach es env := by
  cases e <;> first | rfl | cases h
theorem sgs_nil : PGs X [] (tGs G []) := by
  refine PGs.imp pgs_nil fun v σ H Q h => ?_
  obtain ⟨F, m, st, σe, w, σe', S, rs, r, ha, q⟩ := h
  cases w with
  | nil =>
    unfold RepL at r
    unfold asgL at ha
    cases ha
    exact ⟨r, q _ rs ⟨rfl, fun _ _ => rfl⟩⟩
  | cons x xs => unfold asgL at ha; cases ha
theorem sgs_cons {e : Expr} {es : List Expr} {g : Tg} {gs : List Tg} (h0 : notStar e = true) (h1 : PG X e (tG G g)) (h2 : PGs X es (tGs G gs)) : PGs X (e :: es) (tGs G (g :: gs)) := by
  refine PGs.imp (pgs_cons h1 h2 (by rw [assignEach_plain h0]; rfl)) fun v σ H Q h => ?_
  obtain ⟨F, m, st, σe, w, σe', S, rs, r, ha, q⟩ := h
  cases w with
  | nil => unfold asgL at ha; cases ha
  | cons x xs =>
    unfold RepL at r
    obtain ⟨y, ys, rfl, r1, r2⟩ := r
    unfold asgL at ha
    split at ha
    · rename_i σ1 ha1
      refine ⟨y, ys, rfl, F, m, st, σe, x, σ1, S, rs, r1, ha1, fun σ' rs' o1 => ⟨F, m, st, σ1, xs, σe', S, rs', r2, ha, fun σ2 rs2 o2 => q σ2 rs2 ⟨o2.1.trans o1.1, fun j hj => ?_⟩⟩⟩
      have hj' : j ∉ g.slots ∧ j ∉ Tg.slotsL gs := by simpa [Tg.slotsL] using hj
      exact (o2.2 j hj'.2).trans (o1.2 j hj'.1)
    · cases ha
theorem asgL_length {gs : List Tg} {ws : List Val} {σ σ' : Env} {st : Store} (h : asgL gs ws σ st = some σ') : ws.length = gs.length := by
  induction gs generalizing ws σ with
  | nil => cases ws with
    | nil => rfl
    | cons => unfold asgL at h; cases h
  | cons g gs ih => cases ws with
    | nil => unfold asgL at h; cases h
    | cons w ws =>
      unfold asgL at h
      split at h
      · rw [List.length_cons, List.length_cons, ih h]
      · cases h
theorem assignEach_all {env : PySem.Env} : ∀ {es : List Expr}, es.all notStar = true → (assignEach es env).length = es.length ∧ (assignEach es env).findIdx? (·.1) = none
  | [], _ => ⟨rfl, rfl⟩
  | e :: es, h => by
    rw [List.all_cons, Bool.and_eq_true] at h
    obtain ⟨h1, h2⟩ := assignEach_all (env := env) h.2
    rw [assignEach_plain h.1]
    refine ⟨by rw [List.length_cons, List.length_cons, h1], ?_⟩
    rw [List.findIdx?_cons, if_neg (by simp), h2]
    rfl
theorem sg_tup (cx : CxR X G d) {es : List Expr} {k : Nat} {gs : List Tg} (hs : es.all notStar = true) (hl : es.length = gs.length) (h : PGs X es (tGs G gs)) : PG X (.Tuple es k pos) (tG G (.tp gs)) := by
  refine ⟨fun pins s σ H v u Q I r q => ?_⟩
  obtain ⟨F, m, st, σe, w, σe', S, rs, rw', ha, q⟩ := q
  unfold asg at ha
  split at ha
  · rename_i xs hx
    obtain ⟨p, vs, rfl, sq, rl⟩ := S.seq rw' hx
    have hlen : vs.length = es.length := by rw [← rl.length, hl]; exact asgL_length ha
    rw [← cx.K] at sq
    have inner : tGs G gs vs σ H Q := ⟨F, m, st, σe, xs, σe', S, rs, rl, ha, q⟩
    rcases sq with sq | sq
    · exact (pg_unl cx.calm h (assignEach_all hs).1 (assignEach_all hs).2).run pins s σ H _ u Q I r ⟨p, vs, rfl, sq, hlen, inner⟩
    · exact (pg_tup cx.calm h (assignEach_all hs).1 (assignEach_all hs).2).run pins s σ H _ u Q I r ⟨p, vs, rfl, sq, hlen, inner⟩
  · cases ha
end
end Mi

/-! Mi, part j2: what is walked; for. -/
namespace Mi
open PySem PySem.Spec PyProof.Rows L2
/-- what a walk needs of the steps between -/
structure ExtW (F : Hp) (m : Nat → Addr) (n : Nat) (H : Hp) (F' : Hp) (m' : Nat → Addr) (n' : Nat) (H' : Hp) : Prop where
  same : Same F F'
  mp : ∀ i, i < n → m' i = m i
  le : n ≤ n'
  fz : ∀ a o u, H a = some (.frz o u) → H' a = some (.frz o u)
theorem Ext.w {F : Hp} {m : Nat → Addr} {n : Nat} {H F' : Hp} {m' : Nat → Addr} {n' : Nat} {H' : Hp} (e : Ext F m n H F' m' n' H') : ExtW F m n H F' m' n' H' := ⟨e.same, e.mp, e.le, e.fz⟩
theorem Rep.upW {G : Gm} {F : Hp} {m : Nat → Addr} {n : Nat} {H F' : Hp} {m' : Nat → Addr} {n' : Nat} {H' : Hp} (e : ExtW F m n H F' m' n' H') {v : Val} {x : V} (h : Rep G F m n v x) : Rep G F' m' n' v x := h.ext e.same e.mp e.le
theorem RepL.upW {G : Gm} {F : Hp} {m : Nat → Addr} {n : Nat} {H F' : Hp} {m' : Nat → Addr} {n' : Nat} {H' : Hp} (e : ExtW F m n H F' m' n' H') {v : List Val} {x : List V} (h : RepL G F m n v x) : RepL G F' m' n' v x := h.ext e.same e.mp e.le
/-- an iterator walks the items while the guard stands -/
structure WOk (G : Gm) (J : It) (items : List Val) (gd : Gd) (F : Hp) (m : Nat → Addr) (n : Nat) (H : Hp) : Prop where
  ex : ∃ (Gd : Hp → Prop) (Y : Nat → Hp → V → Hp → Prop), Walk J items.length Gd Y ∧
    (∀ F' m' st' H', Sim G F' m' st' H' → ExtW F m n H F' m' st'.length H' → gd.ok st' = true → Gd H') ∧
    (∀ i x v F1 m1 st1 H1 H2, Sim G F1 m1 st1 H1 → ExtW F m n H F1 m1 st1.length H1 → items[i]? = some v → gd.ok st1 = true → Y i H1 x H2 → ∃ F2, Sim G F2 m1 st1 H2 ∧ Ext F1 m1 st1.length H1 F2 m1 st1.length H2 ∧ Rep G F2 m1 st1.length v x)
def tI (G : Gm) (E : XK) (k : ItK) (f : Env → Store → Res (List Val)) : TI := fun σ H R => ∃ F m σe st, Sim G F m st H ∧ RepS G F m st.length σe σ ∧
  After G E F m st.length H (f σe st) (fun vs st1 F1 m1 H1 => ∃ items gd st2, walk k vs st1 = some (items, gd, st2) ∧
    ∀ J F2 m2 H2, Sim G F2 m2 st2 H2 → Ext F1 m1 st1.length H1 F2 m2 st2.length H2 → gd.ok st2 = true → WOk G J items gd F2 m2 st2.length H2 → R J H2)
theorem PI.imp {X : Cx} {tg e : Expr} {t t' : TI} (h : PI X tg e t) (w : ∀ σ H R, t' σ H R → t σ H R) : PI X tg e t' := ⟨fun pins s σ H R I q => h.run pins s σ H R I (w _ _ _ q)⟩
/-- the iteration is begun -/
def iterV (k : ItK) (vs : List Val) (st : Store) : Res (List Val × Gd) := match walk k vs st with | some (items, gd, st) => .ok (items, gd) st | none => .no
section
variable {X : Cx} {G : Gm} {E : XK} {d : Nat} {a b c tg iter : Expr} {pos p2 : Pos} {ss : List Stmt} {f : Env → Store → Res (Fw × Env)} {fs : Env → Store → Res (List Val)}
theorem forL_ok {J : It} {gd : Gd} {g : Tg} {D : Ends} {F : Hp} {m : Nat → Addr} {st : Store} {H : Hp} {items : List Val} {σ : L2.St} {σe : Env} (hgd : gd.ok st = true) (W : WOk G J items gd F m st.length H) (S : Sim G F m st H) (rs : RepS G F m st.length σe σ)
    (h : After G E F m st.length H (forL gd g f items σe st) (KF G D)) :
    ∃ W : Nat → Nat → L2.St → Hp → Prop, (∃ k, W 0 k σ H) ∧ ∀ i k σ H, W i k σ H →
      (J.stop i H ∧ D.nx σ H) ∨ (J.go i H ∧ ∃ N : L2.St → Hp → Prop, (∀ σ' H', N σ' H' → ∃ k', k' < k ∧ W (i + 1) k' σ' H') ∧ ∀ x H', J.yld i H x H' → tG G g x σ H' fun σ2 H2 => tS G E f { D with nx := N, ct := N, bk := D.nx } σ2 H2) := by
  obtain ⟨Gd, Y, w, hG, hY⟩ := W.ex
  refine for_it w (fun i σ H' => ∃ F' m' st' σe, Sim G F' m' st' H' ∧ Ext F m st.length H F' m' st'.length H' ∧ gd.ok st' = true ∧ RepS G F' m' st'.length σe σ ∧ After G E F' m' st'.length H' (forL gd g f (items.drop i) σe st') (KF G D)) ⟨F, m, st, σe, S, Ext.refl, hgd, rs, h⟩ ?_ ?_ ?_
  · rintro i σ H' _ ⟨F', m', st', σe, S', e', g', _⟩
    exact hG F' m' st' H' S' e'.w g'
  · rintro i x σ H1 H2 hi ⟨F1, m1, st1, σe1, S1, e1, g1, rs1, h1⟩ y
    have hd : items.drop i = items[i] :: items.drop (i + 1) := List.drop_eq_getElem_cons hi
    rw [hd] at h1
    obtain ⟨F2, S2, e2, r2⟩ := hY i x items[i] F1 m1 st1 H1 H2 S1 e1.w (by simp [hi]) g1 y
    unfold forL at h1
    split at h1
    · exact h1.elim
    · rename_i σ' ha
      refine ⟨F2, m1, st1, σe1, items[i], σ', S2, rs1.up e2, r2, ha, fun σ2 rs2 _ => ?_⟩
      refine ⟨F2, m1, σ', st1, S2, rs2, (h1.pull (st := st1) e2).bnd.mono fun r st3 F3 m3 H3 S3 e3 h3 => ?_⟩
      obtain ⟨r, σ3⟩ := r
      have e13 := (e1.trans e2).trans e3
      have nxt : After G E F3 m3 st3.length H3 (if gd.ok st3 = true then forL gd g f (items.drop (i + 1)) σ3 st3 else .no) (KF G D) → ∀ σ4, RepS G F3 m3 st3.length σ3 σ4 → ∃ F' m' st' σe, Sim G F' m' st' H3 ∧ Ext F m st.length H F' m' st'.length H3 ∧ gd.ok st' = true ∧ RepS G F' m' st'.length σe σ4 ∧ After G E F' m' st'.length H3 (forL gd g f (items.drop (i + 1)) σe st') (KF G D) := by
        intro h3 σ4 rs4
        split at h3
        · rename_i hg
          exact ⟨F3, m3, st3, σ3, S3, e13, hg, rs4, h3⟩
        · exact h3.elim
      cases r with
      | nx => exact nxt h3
      | ct => exact nxt h3
      | brk => exact h3 F3 m3 H3 S3 Ext.refl
      | ret v => exact h3 F3 m3 H3 S3 Ext.refl
  · rintro σ H' ⟨F', m', st', σe', S', e', g', rs', h'⟩
    rw [List.drop_length] at h'
    exact h' F' m' H' S' Ext.refl σ rs'
theorem s_for {k : ItK} {g : Tg} (hp : PassesOwn (model X.prog X.w) X.A X.env X.xe) (hc : X.calm = true) (hi : PI X tg iter (tI G E k fs)) (hg : PG X tg (tG G g)) (hb : PSs X ss (tS G E f)) (hs : ∀ x, foldedSetIterable iter X.env x = pure x) :
    PS X (.For tg iter ss [] pos) (tS G E fun σ st => (fs σ st).bnd fun vs st => (iterV k vs st).bnd fun p st => if p.2.ok st then forL p.2 g f p.1 σ st else .no) := by
  refine PS.imp (ps_for hp hc hi hg hb hs) fun D σ H h => ?_
  obtain ⟨F, m, σe, st, S, rs, h⟩ := h
  refine ⟨F, m, σe, st, S, rs, h.bnd.mono fun vs st1 F1 m1 H1 S1 e1 h1 => ?_⟩
  unfold iterV at h1
  cases hw : walk k vs st1 with
  | none => rw [hw] at h1; exact h1.elim
  | some p =>
    obtain ⟨items, gd, st2⟩ := p
    rw [hw] at h1
    refine ⟨items, gd, st2, rfl, fun J F2 m2 H2 S2 e2 hgd W => ?_⟩
    have h2 := h1.pull (st := st2) e2
    have h2 : After G E F2 m2 st2.length H2 (if gd.ok st2 = true then forL gd g f items σe st2 else .no) (KF G D) := h2
    rw [if_pos hgd] at h2
    exact forL_ok hgd W S2 (rs.up (e1.trans e2)) h2
end
end Mi

/-! Mi, part j3: what is walked: values, ranges. -/
namespace Mi
open PySem PySem.Spec PyProof.Rows L2
section
variable {X : Cx} {G : Gm} {E : XK} {d : Nat} {a b c tg iter : Expr} {pos p2 : Pos} {fa : Env → Store → Res Val} {fs : Env → Store → Res (List Val)}
/-- behind a value the thing there may be locked -/
theorem pe_lockAfter {e : Expr} {t : TE} (h : PE X e t) : PE X e (fun σ H Q => t σ H fun x H1 => Q x H1 ∨ ∃ p u, x = .ref p ∧ H1 p = some u ∧ Mut (some u) ∧ ∀ od, Q x (upd H1 p (.frz od u))) := by
  refine ⟨fun pins s σ H Q I hw => ?_⟩
  refine thn (h.run pins s σ H _ I hw) fun v s1 ⟨x, H1, I1, r1, q1⟩ => ?_
  rcases q1 with q1 | ⟨p, u, rfl, hp, mu, q1⟩
  · exact ⟨x, H1, I1, r1, q1⟩
  · obtain ⟨od, I2⟩ := Inv.lock I1 hp mu
    exact ⟨.ref p, _, I2, r1, q1 od⟩
theorem wok_list {p : Addr} {xs : List Val} {vs : List V} {v : Val} {F : Hp} {m : Nat → Addr} {st : Store} {H : Hp} (r : Rep G F m st.length v (.ref p)) :
    WOk G (Itl G.K p) xs (.lst v xs) F m st.length H := by
  have look : ∀ F' m' st' H', Sim G F' m' st' H' → ExtW F m st.length H F' m' st'.length H' → (Gd.lst v xs).ok st' = true → ∃ vs', SqL G.K H' p vs' ∧ RepL G F' m' st'.length xs vs' := by
    intro F' m' st' H' S' e' hg
    obtain ⟨p', vs', e1, sq', rl'⟩ := S'.list (r.upW e') (of_decide_eq_true hg)
    cases e1
    exact ⟨vs', sq', rl'⟩
  refine ⟨fun H' => ∃ vs', SqL G.K H' p vs' ∧ vs'.length = xs.length, fun i H x H' => H' = H ∧ ∀ vs', SqL G.K H p vs' → vs'[i]? = some x, ⟨fun i H' hi q => ?_, fun H' q => ?_, fun i H' x H2 hi q y => y⟩, ?_, ?_⟩
  · obtain ⟨vs', sq', hl⟩ := q
    exact ⟨vs', vs'[i], sq', by simp [show i < vs'.length by omega]⟩
  · obtain ⟨vs', sq', hl⟩ := q
    exact ⟨vs', sq', by rw [hl]; exact Nat.le_refl _⟩
  · intro F' m' st' H' S' e' hg
    obtain ⟨vs', sq', rl'⟩ := look F' m' st' H' S' e' hg
    exact ⟨vs', sq', rl'.length.symm⟩
  · intro i x w F1 m1 st1 H1 H2 S1 e1 hi hg y
    obtain ⟨rfl, hy⟩ := y
    obtain ⟨vs', sq', rl'⟩ := look F1 m1 st1 _ S1 e1 hg
    obtain ⟨z, h1, h2⟩ := rl'.get hi
    have := hy vs' sq'
    rw [h1] at this
    cases this
    exact ⟨F1, S1, Ext.refl, h2⟩
theorem wok_tup {p : Addr} {xs : List Val} {vs : List V} {F : Hp} {m : Nat → Addr} {n : Nat} {H : Hp} (sq : SqT G.K F p vs) (rl : RepL G F m n xs vs) : WOk G (Itt G.K p) xs .none F m n H := by
  refine ⟨fun H' => SqT G.K H' p vs, _, rl.length ▸ walk_tup, fun F' m' st' H' S' e' _ => Same.sqT S'.same (Same.sqT e'.same sq), ?_⟩
  intro i x w F1 m1 st1 H1 H2 S1 e1 hi hg y
  obtain ⟨rfl, hy⟩ := y
  obtain ⟨z, h1, h2⟩ := (rl.upW e1).get hi
  rw [h1] at hy
  cases hy
  exact ⟨F1, S1, Ext.refl, h2⟩
theorem wok_str {z : Str} {F : Hp} {m : Nat → Addr} {n : Nat} {H : Hp} : WOk G (Its z) (z.cps.toList.map fun c => .str ⟨#[c]⟩) .none F m n H := by
  refine ⟨fun _ => True, _, (show (z.cps.toList.map fun c => Val.str ⟨#[c]⟩).length = z.cps.size by simp) ▸ walk_str, fun _ _ _ _ _ _ _ => trivial, ?_⟩
  intro i x w F1 m1 st1 H1 H2 S1 e1 hi hg y
  obtain ⟨rfl, c, hc, rfl⟩ := y
  simp [hc] at hi
  subst hi
  exact ⟨F1, S1, Ext.refl, rep_str⟩
theorem rngL_length (lo : Int) : ∀ n, (rngL lo n).length = n
  | 0 => rfl
  | n + 1 => by rw [rngL, List.length_cons, rngL_length (lo + 1) n]
theorem rngL_get : ∀ (n : Nat) (lo : Int) (i : Nat) (w : Val), (rngL lo n)[i]? = some w → w = .int (lo + i)
  | 0, _, _, _, h => by simp [rngL] at h
  | n + 1, lo, 0, w, h => by
    simp [rngL] at h
    rw [← h]
    simp
  | n + 1, lo, i + 1, w, h => by
    have := rngL_get n (lo + 1) i w (by simpa [rngL] using h)
    rw [this]
    congr 1
    omega
theorem wok_rng {lo : Int} {k : Nat} {F : Hp} {m : Nat → Addr} {n : Nat} {H : Hp} : WOk G (Itr lo k) (rngL lo k) .none F m n H := by
  refine ⟨fun _ => True, YFn fun i => .int (lo + i), by rw [rngL_length]; exact walk_range, fun _ _ _ _ _ _ _ => trivial, ?_⟩
  intro i x w F1 m1 st1 H1 H2 S1 e1 hi hg y
  obtain ⟨rfl, rfl⟩ := y
  rw [rngL_get k lo i w hi]
  exact ⟨F1, S1, Ext.refl, rep_int⟩
/-- a dict of the store is locked -/
theorem Sim.lock {F : Hp} {m : Nat → Addr} {st : Store} {H : Hp} (S : Sim G F m st H) {i : Nat} {kvs : List (Val × Val)} {u : HO} (hi : i < st.length) (hl : ∀ kvs, st[i]? ≠ some (.dic kvs true)) (ru : RepD G F m st.length kvs u) (o : Obj) :
    Sim G F m (st.set i (.dic kvs true)) (upd H (m i) (.frz o u)) ∧ Ext F m st.length H F m (st.set i (.dic kvs true)).length (upd H (m i) (.frz o u)) :=
  S.set hi hl (o := .dic kvs true) (u := .frz o u) ⟨o, u, rfl, ru⟩
theorem repDK_len {F : Hp} {m : Nat → Addr} {n : Nat} : ∀ {kvs : List (Val × Val)} {ks : List (Key × V)}, RepDK G F m n kvs ks → kvs.length = ks.length
  | [], _, h => by unfold RepDK at h; subst h; rfl
  | (a, x) :: xs, _, h => by
    unfold RepDK at h
    obtain ⟨a', y, ys, rfl, rfl, h1, h2⟩ := h
    rw [List.length_cons, List.length_cons, repDK_len h2]
theorem repDT_len {F : Hp} {m : Nat → Addr} {n : Nat} : ∀ {kvs : List (Val × Val)} {ks : List (List Key × V)}, RepDT G F m n kvs ks → kvs.length = ks.length
  | [], _, h => by unfold RepDT at h; subst h; rfl
  | (a, x) :: xs, _, h => by
    unfold RepDT at h
    obtain ⟨a', y, ys, rfl, rfl, h1, h2⟩ := h
    rw [List.length_cons, List.length_cons, repDT_len h2]
theorem RepDK.keys {F : Hp} {m : Nat → Addr} {n : Nat} : ∀ {kvs : List (Val × Val)} {ks : List (Key × V)} {i : Nat} {k : Key} {v : V}, RepDK G F m n kvs ks → ks[i]? = some (k, v) → ∃ w, kvs[i]? = some (kVal k, w) ∧ Rep G F m n w v
  | [], _, _, _, _, h, e => by unfold RepDK at h; subst h; simp at e
  | (a, x) :: xs, _, 0, _, _, h, e => by
    unfold RepDK at h
    obtain ⟨a', y, ys, rfl, rfl, h1, h2⟩ := h
    cases e
    exact ⟨x, rfl, h1⟩
  | (a, x) :: xs, _, i + 1, _, _, h, e => by
    unfold RepDK at h
    obtain ⟨a', y, ys, rfl, rfl, h1, h2⟩ := h
    exact h2.keys (i := i) e
theorem RepDT.keys {F : Hp} {m : Nat → Addr} {n : Nat} : ∀ {kvs : List (Val × Val)} {ks : List (List Key × V)} {i : Nat} {k : List Key} {v : V}, RepDT G F m n kvs ks → ks[i]? = some (k, v) → ∃ w, kvs[i]? = some (.tup (k.map kVal), w) ∧ Rep G F m n w v
  | [], _, _, _, _, h, e => by unfold RepDT at h; subst h; simp at e
  | (a, x) :: xs, _, 0, _, _, h, e => by
    unfold RepDT at h
    obtain ⟨a', y, ys, rfl, rfl, h1, h2⟩ := h
    cases e
    exact ⟨x, rfl, h1⟩
  | (a, x) :: xs, _, i + 1, _, _, h, e => by
    unfold RepDT at h
    obtain ⟨a', y, ys, rfl, rfl, h1, h2⟩ := h
    exact h2.keys (i := i) e
theorem rep_of_kVal {F : Hp} {m : Nat → Addr} {n : Nat} (k : Key) : Rep G F m n (kVal k) (kV k) := by cases k <;> (unfold kVal Rep; rfl)
theorem repL_of_kVal {F : Hp} {m : Nat → Addr} {n : Nat} : ∀ k : List Key, RepL G F m n (k.map kVal) (k.map kV)
  | [] => RepL.nil
  | a :: k => RepL.cons (rep_of_kVal a) (repL_of_kVal k)
/-- the locked dict with number j, as it stands -/
theorem Sim.locked {F : Hp} {m : Nat → Addr} {st : Store} {H : Hp} (S : Sim G F m st H) {j : Nat} {kvs : List (Val × Val)} (h : dicOf st (.ref j) = some (kvs, true)) : ∃ o u, H (m j) = some (.frz o u) ∧ RepD G F m st.length kvs u := by
  have hj : st[j]? = some (.dic kvs true) := by
    unfold dicOf at h
    dsimp only at h
    cases q : st[j]? with
    | none => simp [q] at h
    | some ob =>
      cases ob with
      | dic a b => simp [q] at h; obtain ⟨rfl, rfl⟩ := h; rfl
      | lst => simp [q] at h
      | ins => simp [q] at h
  obtain ⟨u, g1, ⟨o, u', rfl, g2⟩, g3⟩ := S.obj j _ hj
  exact ⟨o, u', g1, g2⟩

theorem wok_keys {j : Nat} {kvs : List (Val × Val)} {ks : List (Key × V)} {o : Obj} {F : Hp} {m : Nat → Addr} {st : Store} {H : Hp} (S : Sim G F m st H) (hj : j < st.length) (hd : H (m j) = some (.frz o (.dK ks))) (rk : RepDK G F m st.length kvs ks) :
    WOk G (Itk (m j) o ks) (kvs.map (·.1)) (.dic (.ref j) kvs) F m st.length H := by
  refine ⟨fun H' => H' (m j) = some (.frz o (.dK ks)), fun i H x H' => H' = H ∧ ∃ k v, ks[i]? = some (k, v) ∧ x = kV k, by rw [List.length_map, repDK_len rk]; exact walk_keys, ?_, ?_⟩
  · intro F' m' st' H' S' e' hg
    exact e'.fz _ _ _ hd
  · intro i x w F1 m1 st1 H1 H2 S1 e1 hi hg y
    obtain ⟨rfl, k, v, hk, rfl⟩ := y
    obtain ⟨w', h1, _⟩ := rk.keys hk
    rw [List.getElem?_map, h1] at hi
    cases hi
    exact ⟨F1, S1, Ext.refl, rep_of_kVal k⟩

theorem wok_keysT {j : Nat} {kvs : List (Val × Val)} {ks : List (List Key × V)} {o : Obj} {F : Hp} {m : Nat → Addr} {st : Store} {H : Hp} (hd : H (m j) = some (.frz o (.dT ks))) (rk : RepDT G F m st.length kvs ks) :
    WOk G (Itkt (m j) o ks) (kvs.map (·.1)) (.dic (.ref j) kvs) F m st.length H := by
  refine ⟨fun H' => H' (m j) = some (.frz o (.dT ks)), fun i H x H' => H' = H ∧ ∃ (k : List Key) (v : V) (q : Addr), ks[i]? = some (k, v) ∧ x = .ref q ∧ H q = some (.tup (k.map kV)), by rw [List.length_map, repDT_len rk]; exact walk_keysT, fun F' m' st' H' S' e' hg => e'.fz _ _ _ hd, ?_⟩
  intro i x w F1 m1 st1 H1 H2 S1 e1 hi hg y
  obtain ⟨rfl, k, v, q, hk, rfl, hq⟩ := y
  obtain ⟨w', h1, _⟩ := rk.keys hk
  rw [List.getElem?_map, h1] at hi
  cases hi
  obtain ⟨S2, e2⟩ := S1.tup hq
  refine ⟨_, S2, e2, ?_⟩
  unfold Rep
  exact ⟨q, k.map kV, rfl, upd_same, repL_of_kVal k⟩
/-- over a value -/
theorem si_val (cx : CxR X G d) (ha : PE X a (tE G E fa)) : PI X tg a (tI G E .val fun σ st => (fa σ st).bnd fun v st => .ok [v] st) := by
  refine ⟨fun pins s σ H R I h => ?_⟩
  obtain ⟨F, m, σe, st, S, rs, h⟩ := h
  have h := h.bnd
  cases q : fa σe st with
  | no => rw [q] at h; exact h.elim
  | exc e st1 =>
    refine (pi_str ha).run pins s σ H R I ⟨F, m, σe, st, S, rs, ?_⟩
    rw [q] at h ⊢
    exact h
  | ok v st1 =>
    rw [q] at h
    -- what is wanted of the value
    have w : ∀ F1 m1 H1, Sim G F1 m1 st1 H1 → Ext F m st.length H F1 m1 st1.length H1 → ∃ items gd st2, walk .val [v] st1 = some (items, gd, st2) ∧
        ∀ J F2 m2 H2, Sim G F2 m2 st2 H2 → Ext F1 m1 st1.length H1 F2 m2 st2.length H2 → gd.ok st2 = true → WOk G J items gd F2 m2 st2.length H2 → R J H2 := fun F1 m1 H1 S1 e1 => h F1 m1 H1 S1 e1 F1 m1 H1 S1 Ext.refl
    have lists : ∀ xs, walk .val [v] st1 = some (xs, .lst v xs, st1) → lstOf st1 v = some xs → wpAny (model X.prog X.w) X.A (eval a X.env) (fun v s1 => wpAny (model X.prog X.w) X.A (pyIter v) (PIE X pins σ tg R) X.xe s1) X.xe s := by
      intro xs hw hx
      refine (pi_list ha).run pins s σ H R I ⟨F, m, σe, st, S, rs, ?_⟩
      rw [q]
      intro F1 m1 H1 S1 e1 x rx
      obtain ⟨p, vs, rfl, sq, rl⟩ := S1.list rx hx
      obtain ⟨items, gd, st2, hw', k⟩ := w F1 m1 H1 S1 e1
      rw [hw] at hw'
      cases hw'
      rw [cx.K]
      exact ⟨p, rfl, ⟨vs, sq⟩, k _ F1 m1 H1 S1 Ext.refl (decide_eq_true hx) (wok_list (vs := vs) rx)⟩
    cases v with
    | tup xs =>
      refine (pi_tup ha).run pins s σ H R I ⟨F, m, σe, st, S, rs, ?_⟩
      rw [q]
      intro F1 m1 H1 S1 e1 x rx
      unfold Rep at rx
      obtain ⟨p, vs, rfl, h1, h2⟩ := rx
      obtain ⟨items, gd, st2, hw', k⟩ := w F1 m1 H1 S1 e1
      cases hw'
      rw [cx.K]
      exact ⟨p, rfl, ⟨vs, .inl (.inl (S1.same _ _ h1))⟩, k _ F1 m1 H1 S1 Ext.refl rfl (wok_tup (.inl (.inl h1)) h2)⟩
    | wt xs =>
      refine (pi_tup ha).run pins s σ H R I ⟨F, m, σe, st, S, rs, ?_⟩
      rw [q]
      intro F1 m1 H1 S1 e1 x rx
      unfold Rep at rx
      obtain ⟨p, vs, rfl, h1, h2⟩ := rx
      obtain ⟨items, gd, st2, hw', k⟩ := w F1 m1 H1 S1 e1
      cases hw'
      rw [cx.K]
      exact ⟨p, rfl, ⟨vs, Same.sqT S1.same h1⟩, k _ F1 m1 H1 S1 Ext.refl rfl (wok_tup h1 h2)⟩
    | str z =>
      refine (pi_str ha).run pins s σ H R I ⟨F, m, σe, st, S, rs, ?_⟩
      rw [q]
      intro F1 m1 H1 S1 e1 x rx
      unfold Rep at rx
      subst rx
      obtain ⟨items, gd, st2, hw', k⟩ := w F1 m1 H1 S1 e1
      cases hw'
      exact ⟨z, rfl, k _ F1 m1 H1 S1 Ext.refl rfl wok_str⟩
    | fl xs => exact lists xs rfl rfl
    | wl xs => exact lists xs rfl rfl
    | ref j =>
      cases hj : st1[j]? with
      | none =>
        refine (pi_str ha).run pins s σ H R I ⟨F, m, σe, st, S, rs, ?_⟩
        rw [q]
        intro F1 m1 H1 S1 e1 x rx
        obtain ⟨items, gd, st2, hw', k⟩ := w F1 m1 H1 S1 e1
        simp [walk, walkVal, hj] at hw'
      | some ob =>
        cases ob with
        | lst xs => exact lists xs (by simp [walk, walkVal, hj]) (by simp [lstOf, hj])
        | ins c fs =>
          refine (pi_str ha).run pins s σ H R I ⟨F, m, σe, st, S, rs, ?_⟩
          rw [q]
          intro F1 m1 H1 S1 e1 x rx
          obtain ⟨items, gd, st2, hw', k⟩ := w F1 m1 H1 S1 e1
          simp [walk, walkVal, hj] at hw'
        | dic kvs lk =>
          have hjl : j < st1.length := (List.getElem?_eq_some_iff.mp hj).1
          refine (pi_keys (pe_lockAfter ha)).run pins s σ H R I ⟨F, m, σe, st, S, rs, ?_⟩
          rw [q]
          intro F1 m1 H1 S1 e1 x rx
          unfold Rep at rx
          obtain ⟨_, rfl⟩ := rx
          obtain ⟨items, gd, st2, hw', k⟩ := w F1 m1 H1 S1 e1
          have hwe : walk .val [.ref j] st1 = some (kvs.map (·.1), .dic (.ref j) kvs, st1.set j (.dic kvs true)) := by simp [walk, walkVal, hj]
          rw [hwe] at hw'
          cases hw'
          obtain ⟨u, g1, g2, g3⟩ := S1.obj j _ hj
          have hg : (Gd.dic (.ref j) kvs).ok (st1.set j (.dic kvs true)) = true := decide_eq_true (by simp [dicOf, hjl])
          have hlen : (st1.set j (.dic kvs true)).length = st1.length := by simp
          cases lk with
          | true =>
            obtain ⟨o, u, rfl, g2⟩ := g2
            have hst : st1.set j (.dic kvs true) = st1 := by
              apply List.ext_getElem?
              intro i
              by_cases hi : i = j
              · subst hi; rw [List.getElem?_set_self hjl, hj]
              · rw [List.getElem?_set_ne (fun z => hi z.symm)]
            rw [hst] at k hg
            refine .inl ⟨m1 j, o, rfl, ?_⟩
            rcases g2 with ⟨ks, rfl, rk⟩ | ⟨ks, rfl, rk⟩
            · exact .inl ⟨ks, g1, k _ F1 m1 H1 S1 Ext.refl hg (wok_keys S1 hjl g1 rk)⟩
            · exact .inr ⟨ks, g1, k _ F1 m1 H1 S1 Ext.refl hg (wok_keysT g1 rk)⟩
          | false =>
            refine .inr ⟨m1 j, u, rfl, g1, ?_, fun od => ⟨m1 j, od, rfl, ?_⟩⟩
            · rcases g2 with ⟨ks, rfl, rk⟩ | ⟨ks, rfl, rk⟩ <;> trivial
            · obtain ⟨S2, e2⟩ := S1.lock hjl (fun kvs e => by rw [hj] at e; cases e) g2 od
              rcases g2 with ⟨ks, rfl, rk⟩ | ⟨ks, rfl, rk⟩
              · exact .inl ⟨ks, upd_same, k _ F1 m1 _ S2 e2 hg (wok_keys S2 (by rw [hlen]; exact hjl) upd_same (by rw [hlen]; exact rk))⟩
              · exact .inr ⟨ks, upd_same, k _ F1 m1 _ S2 e2 hg (wok_keysT upd_same (by rw [hlen]; exact rk))⟩
    | _ =>
      all_goals
        refine (pi_str ha).run pins s σ H R I ⟨F, m, σe, st, S, rs, ?_⟩
        rw [q]
        intro F1 m1 H1 S1 e1 x rx
        obtain ⟨items, gd, st2, hw', k⟩ := w F1 m1 H1 S1 e1
        simp [walk, walkVal] at hw'
end
end Mi

/-! Mi, part j4: enumerate over a tuple. -/
namespace Mi
open PySem PySem.Spec PyProof.Rows L2
section
variable {prog : Program} {w : World} {A : Around} {E : Value → Shared → Prop} {s : Shared}
/-- the next item of a tuple's iterator, for the built-ins that ask it -/
theorem nextOf_tup {ti tu : Addr} {k : Nat} {its} {y : Value} {P : Value → Shared → Prop} (ht : s.heap.IsTupleIter ti tu k) (hu : s.heap.IsTuple tu its) (hy : its[k]? = some y)
    (hP : ∀ h2, h2.IsTupleIter ti tu (k + 1) → Heap.SameBut ti s.heap h2 → P y { s with heap := h2 }) : wpAny (model prog w) A (Builtin.SmallTypes.nextOf (.ref ti)) P E s := by
  obtain ⟨ob, h1, h2, h3⟩ := id ht
  obtain ⟨ot, g1, _, nn, g3⟩ := hu
  have ne : ¬ ((Value.ref tu == Value.none) = true) := Bool.false_ne_true
  unfold Builtin.SmallTypes.nextOf
  refine wpAny_bind (wpAny_callSpecial?_slot (name := Str.ofString "__next__") ht.typeIs F.slot_tuple_iterator_next (wpAny_call_entry F.slot_tuple_iterator_next ht.typeIs F.entry_tuple_iterator_next ?_ (F.args_tuple_iterator_next_1 _)))
  show wpAny _ _ (field (.ref ti) 0 >>= _) _ _ s
  refine wpAny_bind (wpAny_field h1 h3 (x := .ref tu) rfl ?_); show wpAny _ _ (if (Value.ref tu == Value.none) = true then _ else _) _ _ s
  rw [if_neg ne]; show wpAny _ _ (field (.ref ti) 1 >>= _) _ _ s
  refine wpAny_bind (wpAny_field h1 h3 (x := .int k 0) rfl ?_); show wpAny _ _ (seqItems? (.ref tu) >>= _) _ _ s
  refine wpAny_bind (wpAny_seqItems g1 g3 ?_); simp only [Int.toNat_natCast, hy]
  refine wpAny_bind (wpAny_setField h1 h3 (by simp) (wpAny_pure ⟨y, rfl, wpAny_pure (hP _ ⟨_, Heap.get?_update_self _ h1 (Obj.isFreed_of_fields (Obj.data_mapFields h3 _)), (Obj.cls_mapFields ..).trans h2, ?_⟩ (Heap.SameBut.update ..))⟩))
  rw [Obj.data_mapFields h3]; simp [rawInt]
theorem nextOf_tupEnd {ti tu : Addr} {k : Nat} {its} {P : Value → Shared → Prop} (hn : A.handled = none) (ht : s.heap.IsTupleIter ti tu k) (hu : s.heap.IsTuple tu its) (hy : its[k]? = none)
    (hE : ∀ h2 x, Heap.ExtBut ti s.heap h2 → (∃ o, h2.get? x = some o ∧ o.cls = .type "StopIteration") → E (.ref x) { s with heap := h2 }) : wpAny (model prog w) A (Builtin.SmallTypes.nextOf (.ref ti)) P E s := by
  obtain ⟨ob, h1, h2, h3⟩ := id ht
  obtain ⟨ot, g1, _, nn, g3⟩ := hu
  have ne : ¬ ((Value.ref tu == Value.none) = true) := Bool.false_ne_true
  unfold Builtin.SmallTypes.nextOf
  refine wpAny_bind (wpAny_callSpecial?_slot (name := Str.ofString "__next__") ht.typeIs F.slot_tuple_iterator_next (wpAny_call_entry F.slot_tuple_iterator_next ht.typeIs F.entry_tuple_iterator_next ?_ (F.args_tuple_iterator_next_1 _)))
  show wpAny _ _ (field (.ref ti) 0 >>= _) _ _ s
  refine wpAny_bind (wpAny_field h1 h3 (x := .ref tu) rfl ?_); show wpAny _ _ (if (Value.ref tu == Value.none) = true then _ else _) _ _ s
  rw [if_neg ne]; show wpAny _ _ (field (.ref ti) 1 >>= _) _ _ s
  refine wpAny_bind (wpAny_field h1 h3 (x := .int k 0) rfl ?_); show wpAny _ _ (seqItems? (.ref tu) >>= _) _ _ s
  refine wpAny_bind (wpAny_seqItems g1 g3 ?_); simp only [Int.toNat_natCast, hy]
  refine wpAny_bind (wpAny_rule (wpAny_bind (wpAny_setField h1 h3 (by simp) ?_))); show wpAny _ _ (newExc (.type "StopIteration") [] >>= _) _ _ _
  refine wpAny_bind ?_; simp only [newExc, newTuple]
  refine wpAny_bind (wpAny_newObj_type ?_ (by size_fits)); refine wpAny_bind (m := firstArgMember _ _) (wpAny_of_eq (a := Value.none) (by first | rfl | (simp only [firstArgMember]; rfl)) ?_)
  refine wpAny_newObj_type ?_ (by size_fits); simp only [raiseNew]
  refine wpAny_bind (wpAny_handled ?_); first | rw [show A.in1.handled = none from hn] | rw [hn]
  exact wpAny_bind (wpAny_pure (wpAny_throw (hE _ _ (((Heap.SameBut.update ..).extBut.push _).push _) ⟨_, Heap.get?_push_size _ rfl, rfl⟩)))
/-- enumerate's next pair over a tuple's iterator -/
theorem enumT_item {en ti tu : Addr} {k : Nat} {its : Array Value} {y last : Value} {P : Option Value → Shared → Prop} (he : IsEnum s.heap en ti k last) (ht : s.heap.IsTupleIter ti tu k) (hu : s.heap.IsTuple tu its) (hy : its[k]? = some y) (hne : en ≠ ti)
    (hP : ∀ h2, IsEnumOut h2 en ti ((k : Int) + 1) y s.heap.objs.size → h2.IsTupleIter ti tu (k + 1) → h2.get? s.heap.objs.size = some { cls := .type "tuple", data := .seq #[.int k s.toks, y] } → h2.objs.size = s.heap.objs.size + 1 →
      (∀ b o, b ≠ en → b ≠ ti → s.heap.get? b = some o → h2.get? b = some o) → P (some (.ref s.heap.objs.size)) { s with heap := h2, toks := s.toks + 1 }) : wpAny (model prog w) A (pyNext (.ref en)) P E s := by
  have hT : s.TypeIs (.ref en) "enumerate" := ⟨_, he, rfl⟩
  have body : ∀ R : Value → Shared → Prop, (∀ h2, IsEnumOut h2 en ti ((k : Int) + 1) y s.heap.objs.size → h2.IsTupleIter ti tu (k + 1) → h2.get? s.heap.objs.size = some { cls := .type "tuple", data := .seq #[.int k s.toks, y] } → h2.objs.size = s.heap.objs.size + 1 →
      (∀ b o, b ≠ en → b ≠ ti → s.heap.get? b = some o → h2.get? b = some o) → R (.ref s.heap.objs.size) { s with heap := h2, toks := s.toks + 1 }) →
      ∀ (A : Around) (E : Value → Shared → Prop), wpAny (model prog w) A (Builtin.«enumerate.__next__» ⟨[.ref en], []⟩) (fun fin s' => ∃ v, fin = .done (.ret v) ∧ R v s') E s := by
    clear hP
    intro R hR A E
    obtain ⟨hp, g, dr, tk, os⟩ := s
    show wpAny _ _ (field (.ref en) 2 >>= _) _ _ _
    refine wpAny_bind (wpAny_field he rfl (x := .ref ti) rfl (wpAny_bind (nextOf_tup ht hu hy fun ha ita sa => ?_)))
    replace sa : Heap.SameBut ti hp ha := sa
    have ea : IsEnum ha en ti k last := (sa.2 en hne).trans he
    show wpAny _ _ (field (.ref en) 3 >>= _) _ _ ⟨ha, g, dr, tk, os⟩
    refine wpAny_bind (wpAny_field ea rfl (x := rawInt k) rfl ?_); show wpAny _ _ (field (.ref en) 4 >>= _) _ _ ⟨ha, g, dr, tk, os⟩
    refine wpAny_bind (wpAny_field ea rfl (x := .none) rfl ?_); show wpAny _ _ (mkInt k >>= _) _ _ ⟨ha, g, dr, tk, os⟩
    refine wpAny_bind (wpAny_mkInt ?_); show wpAny _ _ (setField (.ref en) 3 (rawInt ((k : Int) + 1)) >>= _) _ _ ⟨ha, g, dr, tk + 1, os⟩
    refine wpAny_bind (wpAny_setField_rec ea (by simp) fun hb eb sb => ?_)
    replace sb : Heap.SameBut en ha hb := sb; replace eb : IsEnum hb en ti ((k : Int) + 1) last := eb
    show wpAny _ _ (setField (.ref en) 4 .none >>= _) _ _ ⟨hb, g, dr, tk + 1, os⟩
    refine wpAny_bind (wpAny_setField_rec eb (by simp) fun hc ec sc => ?_)
    replace sc : Heap.SameBut en hb hc := sc; replace ec : IsEnum hc en ti ((k : Int) + 1) last := ec
    show wpAny _ _ (newTuple [.int k tk, y] >>= _) _ _ ⟨hc, g, dr, tk + 1, os⟩
    refine wpAny_bind (wpAny_newTuple ?_)
    have ed : IsEnum (hc.push { cls := .type "tuple", data := .seq #[.int k tk, y] }) en ti ((k : Int) + 1) last := Heap.get?_push_of_some _ ec
    generalize hhd : hc.push { cls := .type "tuple", data := .seq #[.int k tk, y] } = hd at ed
    have sz : hc.objs.size = hp.objs.size := by rw [sc.1, sb.1, sa.1]
    have el : en < hp.objs.size := Heap.lt_size he
    have td : hd.get? hp.objs.size = some { cls := .type "tuple", data := .seq #[.int k tk, y] } := by rw [← hhd, ← sz]; exact Heap.get?_push_size _ rfl
    have zd : hd.objs.size = hp.objs.size + 1 := by rw [← hhd, Heap.size_push, sz]
    have kd : ∀ b o, b ≠ en → b ≠ ti → hp.get? b = some o → hd.get? b = some o := fun b o n1 n2 q => by
      rw [← hhd]; exact Heap.get?_push_of_some _ (sc.extBut b o n1 (sb.extBut b o n1 (sa.extBut b o n2 q)))
    have itd : hd.IsTupleIter ti tu (k + 1) := by
      rw [← hhd]; obtain ⟨o, q, r⟩ := (ita.extBut sb.extBut (Ne.symm hne)).extBut sc.extBut (Ne.symm hne); exact ⟨o, Heap.get?_push_of_some _ q, r⟩
    show wpAny _ _ (Builtin.SmallTypes.ownedTupleIsFree (.ref en) >>= _) _ _ ⟨hd, g, dr, tk + 1, os⟩
    rw [sz]
    clear hhd ec sc eb sb ea sa ita sz hc hb ha
    refine wpAny_bind ?_
    unfold Builtin.SmallTypes.ownedTupleIsFree
    refine wpAny_bind (wpAny_field ed rfl (x := .none) rfl (wpAny_pure ?_))
    simp only [if_true]
    refine wpAny_bind (wpAny_rule (wpAny_bind (wpAny_field ed rfl (x := last) rfl (wpAny_bind (wpAny_setField_rec ed (by simp) fun h5 e5 s5 => ?_)))))
    replace s5 : Heap.SameBut en hd h5 := s5; replace e5 : IsEnum h5 en ti ((k : Int) + 1) y := e5
    show wpAny _ _ (Builtin.SmallTypes.ownedTupleHandOut (.ref en) (.ref hp.objs.size) >>= _) _ _ ⟨h5, g, dr, tk + 1, os⟩
    refine wpAny_bind ?_
    unfold Builtin.SmallTypes.ownedTupleHandOut
    refine wpAny_bind (wpAny_setField_rec e5 (by simp) fun h6 e6 s6 => ?_)
    replace s6 : Heap.SameBut en h5 h6 := s6; replace e6 : IsEnumOut h6 en ti ((k : Int) + 1) y hp.objs.size := e6
    refine wpAny_setField_rec e6 (by simp) fun h7 e7 s7 => ?_
    replace s7 : Heap.SameBut en h6 h7 := s7; replace e7 : IsEnumOut h7 en ti ((k : Int) + 1) y hp.objs.size := e7
    refine wpAny_bind (wpAny_letGo (wpAny_pure ⟨_, rfl, hR h7 e7 ?_ ?_ ?_ ?_⟩))
    · exact ((itd.extBut s5.extBut (Ne.symm hne)).extBut s6.extBut (Ne.symm hne)).extBut s7.extBut (Ne.symm hne)
    · exact s7.extBut _ _ (Nat.ne_of_gt el) (s6.extBut _ _ (Nat.ne_of_gt el) (s5.extBut _ _ (Nat.ne_of_gt el) td))
    · rw [s7.1, s6.1, s5.1, zd]
    · exact fun b o n1 n2 q => s7.extBut b o n1 (s6.extBut b o n1 (s5.extBut b o n1 (kd b o n1 n2 q)))
  unfold pyNext
  exact wpAny_bind (wpAny_attempt (wpAny_callSpecial?_slot (name := Str.ofString "__next__") hT F.slot_enumerate_next (wpAny_call_entry F.slot_enumerate_next hT F.entry_enumerate_next
    (body _ (fun h2 q1 q2 q3 q4 q5 => wpAny_pure (hP h2 q1 q2 q3 q4 q5)) _ _) (F.args_enumerate_next_1 _))))
theorem enumT_end {en ti tu : Addr} {k : Nat} {its : Array Value} {last : Value} {P : Option Value → Shared → Prop} (hn : A.handled = none) (he : IsEnum s.heap en ti k last) (ht : s.heap.IsTupleIter ti tu k) (hu : s.heap.IsTuple tu its) (hy : its[k]? = none)
    (hP : ∀ h2, Heap.ExtBut ti s.heap h2 → P none { s with heap := h2 }) : wpAny (model prog w) A (pyNext (.ref en)) P E s := by
  have hT : s.TypeIs (.ref en) "enumerate" := ⟨_, he, rfl⟩
  unfold pyNext
  refine wpAny_bind (wpAny_attempt (wpAny_callSpecial?_slot (name := Str.ofString "__next__") hT F.slot_enumerate_next (wpAny_call_entry F.slot_enumerate_next hT F.entry_enumerate_next ?_ (F.args_enumerate_next_1 _))))
  show wpAny _ _ (field (.ref en) 2 >>= _) _ _ _
  refine wpAny_bind (wpAny_field he rfl (x := .ref ti) rfl (wpAny_bind (nextOf_tupEnd hn ht hu hy fun h2 x ex hx => ?_)))
  obtain ⟨o, q1, q2⟩ := hx
  exact wpAny_bind (wpAny_isInstance (T := "StopIteration") (b := true) ⟨o, q1, q2⟩ isSubtype_stop (wpAny_pure (hP _ ex)))
end
end Mi

/-! Mi, part j5: enumerate over lists and tuples, ranges, zip, items. -/
namespace Mi
open PySem PySem.Spec PyProof.Rows L2
set_option maxHeartbeats 1000000 in
theorem meets_enumT (tu : Addr) (its : Array Value) (nn : Nat) (od : Option Addr) (sl : Array (Option Value)) : Meets (Builtin.«enumerate.__new__» ⟨[.type "enumerate", .ref tu], []⟩) (fun _ R s => s.heap.get? tu = some { cls := .type "tuple", dict := od, data := .seq its nn, slots := sl } ∧
      R (.ok (.ret (.ref (s.heap.push { cls := .type "tuple_iterator", data := .fields #[.ref tu, .int 0 0] }).objs.size)))
        { s with heap := (s.heap.push { cls := .type "tuple_iterator", data := .fields #[.ref tu, .int 0 0] }).push { cls := .type "enumerate", data := .fields #[.none, .bool false, .ref s.heap.objs.size, rawInt 0, .none, .none] } }) :=
  .of_wp fun prog w A R s h => by
    obtain ⟨hp, g, dr, tk, os⟩ := s
    obtain ⟨hl, h⟩ := h
    have hs := sub_enumerate
    have hL : Heap.IsTuple hp tu its := ⟨_, hl, rfl, _, rfl⟩
    wp_walk
    refine wpAny_stack_any fun st => wpAny_pure ?_
    split
    · rename_i cc _ _ _ _ _
      cases (cc == Value.type "enumerate") <;> (wp_walk using wpAny_loadPart' hl, wpAny_pyIter_tuple hL; exact ⟨_, rfl, h⟩)
    · wp_walk using wpAny_loadPart' hl, wpAny_pyIter_tuple hL; exact ⟨_, rfl, h⟩
section
variable {prog : Program} {w : World} {A : Around} {E : Value → Shared → Prop} {s : Shared}
theorem call_enumT {tu : Addr} {its : Array Value} {P : Value → Shared → Prop} (hT : s.heap.IsTuple tu its)
    (h : ∀ h2, IsEnum h2 (s.heap.objs.size + 1) s.heap.objs.size 0 .none → h2.IsTupleIter s.heap.objs.size tu 0 → (∀ b o, s.heap.get? b = some o → h2.get? b = some o) → P (.ref (s.heap.objs.size + 1)) { s with heap := h2 }) :
    wpAny (model prog w) A (call (.type "enumerate") [.ref tu]) P E s := by
  obtain ⟨⟨cc, od, dt, sl⟩, hl, hc, n, hd⟩ := hT
  replace hc : cc = .type "tuple" := hc
  replace hd : dt = .seq its n := hd
  subst hc hd
  refine callType_new F.called_enumerate (by decide) (F.typeCall_enumerate_1 _) (F.newCall_enumerate_1 _) (fun obj => F.args_object_init_2 obj _) F.entry_enumerate_new (meets_enumT tu its n od sl) ⟨hl, ?_⟩
  have z1 : (s.heap.push { cls := .type "tuple_iterator", data := .fields #[.ref tu, .int 0 0] }).objs.size = s.heap.objs.size + 1 := Heap.size_push ..
  show _ ∧ _
  rw [z1]
  have he : IsEnum ((s.heap.push { cls := .type "tuple_iterator", data := .fields #[.ref tu, .int 0 0] }).push { cls := .type "enumerate", data := .fields #[.none, .bool false, .ref s.heap.objs.size, rawInt 0, .none, .none] }) (s.heap.objs.size + 1) s.heap.objs.size 0 .none := by
    have q := Heap.get?_push_size (s.heap.push { cls := .type "tuple_iterator", data := .fields #[.ref tu, .int 0 0] }) (o := { cls := .type "enumerate", data := .fields #[.none, .bool false, .ref s.heap.objs.size, rawInt 0, .none, .none] }) rfl
    rw [z1] at q; exact q
  exact ⟨⟨_, he, rfl⟩, h _ he ⟨_, Heap.get?_push_of_some _ (Heap.get?_push_size _ rfl), rfl, rfl⟩ fun b o x => Heap.get?_push_of_some _ (Heap.get?_push_of_some _ x)⟩
end
/-- the tuple at p, each item in a new pair with its number -/
def IteT (K : PySem.W.Frag) (p : Addr) : It :=
  ⟨fun i H => ∃ (xs : List V) (x : V), SqT K H p xs ∧ xs[i]? = some x, fun i H v H' => ∃ T x, v = .ref T ∧ H T = none ∧ H' = upd H T (.tup [.int (i : Nat), x]) ∧ ∀ xs, SqT K H p xs → xs[i]? = some x, fun i H => ∃ xs : List V, SqT K H p xs ∧ xs.length ≤ i⟩
theorem turn_enumT {P : Program} {w : World} {K : PySem.W.Frag} {elts : List Expr} {kk : Nat} {tpos : Pos} (p en ti : Addr) :
    Turn P w K (.Tuple elts kk tpos) (IteT K p) [en, ti] en (fun i h => (∃ last, IsEnum h en ti ((i : Nat) : Int) last) ∧ h.IsTupleIter ti p i ∧ en ≠ ti) where
  mem := by simp
  obj := fun i h st b hb => by
    obtain ⟨⟨last, he⟩, ⟨o, ho, hc, hd⟩, _⟩ := st
    rcases (by simpa using hb : b = en ∨ b = ti) with z | z
    · subst z; exact ⟨_, he, fun v q => nomatch q⟩
    · subst z; exact ⟨o, ho, fun v q => by rw [hd] at q; cases q⟩
  keep := fun i h h' st k => by
    obtain ⟨⟨last, he⟩, ⟨o, ho, hi⟩, hne⟩ := st
    exact ⟨⟨last, k en (by simp) _ he⟩, ⟨o, k ti (by simp) o ho, hi⟩, hne⟩
  item := by
    intro X hP hw hK hc i pins s σ H E I hf st hg
    subst hP hw hK
    obtain ⟨⟨last, he⟩, hit, hne⟩ := st
    obtain ⟨xs, x, hq, hx⟩ := hg
    obtain ⟨its, rv, pt, hz⟩ := I.tuple hq
    obtain ⟨u, hu, ru⟩ := rv.get hx
    have l1 : en < s.heap.objs.size := Heap.lt_size he
    have l2 : ti < s.heap.objs.size := by obtain ⟨_, q, _⟩ := hit; exact Heap.lt_size q
    refine enumT_item he hit (show s.heap.IsTuple p its.toArray from pt) (y := u) (by simpa using hu) hne fun h' ho hit' hT hsz hk => ?_
    refine ⟨_, rfl, wpAny_letOwnedTupleGo_enum (s := { s with heap := h', toks := s.toks + 1 }) ho fun h2 he' sb => ?_⟩
    have t2 : h2.get? s.heap.objs.size = some { cls := .type "tuple", data := .seq #[.int i s.toks, u] } := (sb.2 _ (Nat.ne_of_gt l1)).trans hT
    have new : ObjOk X.prog X.w (upd H s.heap.objs.size (.tup [.int (i : Nat), x])) h2 s.heap.objs.size (.tup [.int (i : Nat), x]) := ⟨by show 2 ≤ sizeLine; decide, [.int i s.toks, u], .cons ⟨_, rfl⟩ (.cons ru .nil), ⟨_, t2, rfl, _, rfl⟩⟩
    have I1 : Inv X pins σ (upd H s.heap.objs.size (.tup [.int (i : Nat), x])) { s with heap := h2, toks := s.toks + 1 } :=
      I.turnedNew (ch := [en, ti]) (fun b ob hb q => (sb.2 b (fun z => hb (by simp [z]))).trans (hk b ob (fun z => hb (by simp [z])) (fun z => hb (by simp [z])) q)) hf (Nat.le_refl _) new
    refine ⟨.ref s.heap.objs.size, _, I1, rfl, ⟨_, x, rfl, I.hok.fresh (Nat.le_refl _), rfl, fun ys hy => by rw [I.tuple_inj hy hq]; exact hx⟩, ⟨⟨u, ?_⟩, ?_, hne⟩, fun b hb => ?_⟩
    · rw [show ((i + 1 : Nat) : Int) = (i : Int) + 1 by omega]; exact he'
    · obtain ⟨o, q, r⟩ := hit'
      exact ⟨o, (sb.2 ti (Ne.symm hne)).trans q, r⟩
    · have hb' : b < s.heap.objs.size := by
        rcases (by simpa using hb : b = en ∨ b = ti) with z | z
        · subst z; exact l1
        · subst z; exact l2
      rw [upd_ne (Nat.ne_of_lt hb')]
      exact (hf b hb).1
  done := by
    intro X hP hw hK hc i pins s σ H E I hf st hg
    subst hP hw hK
    obtain ⟨⟨last, he⟩, hit, hne⟩ := st
    obtain ⟨xs, hq, hx⟩ := hg
    obtain ⟨its, rv, pt, hz⟩ := I.tuple hq
    obtain ⟨f0, f1, f2, f3, f4, f5⟩ := hf ti (by simp)
    have hl := rv.length
    exact enumT_end (I.ok.hd hc) he hit (show s.heap.IsTuple p its.toArray from pt) (by simp; omega) fun h' eb => ⟨rfl, I.turned (t' := s.toks) (fun b o hb q => eb b o hb q) f0 f1 f3 f4 f5⟩
  self := fun A i s Q E st h => let ⟨⟨_, he⟩, _⟩ := st; wpAny_pyIter_enum he h
def iEnumT (K : PySem.W.Frag) (ta : TA) : TI := fun σ H R => ta σ H fun vs H1 => ∃ p xs, vs = [.ref p] ∧ SqT K H1 p xs ∧ R (IteT K p) H1
theorem pi_enumT {X : Cx} {e : Expr} {ta : TA} {p pos tpos : Pos} {elts : List Expr} {kk : Nat} (hg : Gl X "enumerate") (hm : X.mg "enumerate" = none) (ha : PA X [e] ta) (hs : starEach [e] X.env = [(false, eval e X.env)]) :
    PI X (.Tuple elts kk tpos) (.Call (.Name "enumerate" p) [e] [] pos) (iEnumT X.K ta) := by
  refine ⟨fun pins s σ H R I h => ?_⟩
  refine Call_ (ld_blt I hg hm boot_enumerate (PyProof.Rows.callWith_type1 (thn (ha.run pos pins s σ H _ I h) fun us s1 ⟨vs, H1, I1, r1, q1⟩ => ?_) hs rfl))
  obtain ⟨a, xs, ex, hq, q⟩ := q1
  subst ex
  cases r1 with
  | cons r rr =>
    cases rr; cases r
    obtain ⟨its, rv, pt, hz⟩ := I1.tuple hq
    refine call_enumT (show s1.heap.IsTuple a its.toArray from pt) fun h' he hit hk => wpAny_pyIter_enum he ?_
    have I2 : Inv X pins σ H1 { s1 with heap := h' } := I1.kept (t' := s1.toks) hk
    refine ⟨s1.heap.objs.size + 1, [s1.heap.objs.size + 1, s1.heap.objs.size], _, _, H1, rfl, I2, turn_enumT a (s1.heap.objs.size + 1) s1.heap.objs.size, ⟨⟨.none, he⟩, hit, Nat.succ_ne_self _⟩, fun b hb => ?_, q⟩
    have hle : s1.heap.objs.size ≤ b := by
      rcases (by simpa using hb : b = s1.heap.objs.size + 1 ∨ b = s1.heap.objs.size) with z | z
      · rw [z]; exact Nat.le_add_right _ _
      · rw [z]; exact Nat.le_refl _
    exact I1.fpOk hle (I1.hok.fresh hle)

section
variable {X : Cx} {G : Gm} {E : XK} {d : Nat} {a b c tg iter : Expr} {pos p2 tpos : Pos} {kk : Nat} {elts : List Expr} {fs : Env → Store → Res (List Val)}
theorem enumFrom_length (k : Nat) : ∀ xs : List Val, (enumFrom k xs).length = xs.length
  | [] => rfl
  | x :: xs => by rw [enumFrom, List.length_cons, List.length_cons, enumFrom_length (k + 1) xs]
theorem enumFrom_get : ∀ (xs : List Val) (k i : Nat) (w : Val), (enumFrom k xs)[i]? = some w → ∃ x, xs[i]? = some x ∧ w = .tup [.int ((k + i : Nat) : Int), x]
  | [], _, _, _, h => by simp [enumFrom] at h
  | x :: xs, k, 0, w, h => by
    simp [enumFrom] at h
    exact ⟨x, rfl, h.symm⟩
  | x :: xs, k, i + 1, w, h => by
    obtain ⟨y, h1, h2⟩ := enumFrom_get xs (k + 1) i w (by simpa [enumFrom] using h)
    exact ⟨y, h1, by rw [h2]; congr 3; omega⟩
theorem pair_new {F : Hp} {m : Nat → Addr} {st : Store} {H : Hp} (S : Sim G F m st H) {T : Addr} (hT : H T = none) {x y : V} {v u : Val} (rx : Rep G F m st.length v x) (ry : Rep G F m st.length u y) :
    ∃ F2, Sim G F2 m st (upd H T (.tup [x, y])) ∧ Ext F m st.length H F2 m st.length (upd H T (.tup [x, y])) ∧ Rep G F2 m st.length (.tup [v, u]) (.ref T) := by
  obtain ⟨S2, e2⟩ := S.frz hT (.tup [x, y])
  refine ⟨_, S2, e2, ?_⟩
  unfold Rep
  exact ⟨T, _, rfl, upd_same, RepL.cons (rx.up e2) (RepL.cons (ry.up e2) RepL.nil)⟩
theorem wok_enumL {p : Addr} {xs : List Val} {v : Val} {F : Hp} {m : Nat → Addr} {st : Store} {H : Hp} (r : Rep G F m st.length v (.ref p)) : WOk G (Ite G.K p) (enumFrom 0 xs) (.lst v xs) F m st.length H := by
  have look : ∀ F' m' st' H', Sim G F' m' st' H' → ExtW F m st.length H F' m' st'.length H' → (Gd.lst v xs).ok st' = true → ∃ vs', SqL G.K H' p vs' ∧ RepL G F' m' st'.length xs vs' := by
    intro F' m' st' H' S' e' hg
    obtain ⟨p', vs', e1, sq', rl'⟩ := S'.list (r.upW e') (of_decide_eq_true hg)
    cases e1
    exact ⟨vs', sq', rl'⟩
  refine ⟨fun H' => ∃ vs', SqL G.K H' p vs' ∧ vs'.length = xs.length, (Ite G.K p).yld, ⟨fun i H' hi q => ?_, fun H' q => ?_, fun i H' x H2 hi q y => y⟩, ?_, ?_⟩
  · obtain ⟨vs', sq', hl⟩ := q
    rw [enumFrom_length] at hi
    exact ⟨vs', vs'[i], sq', by simp [show i < vs'.length by omega]⟩
  · obtain ⟨vs', sq', hl⟩ := q
    exact ⟨vs', sq', by rw [hl, enumFrom_length]; exact Nat.le_refl _⟩
  · intro F' m' st' H' S' e' hg
    obtain ⟨vs', sq', rl'⟩ := look F' m' st' H' S' e' hg
    exact ⟨vs', sq', rl'.length.symm⟩
  · intro i x w F1 m1 st1 H1 H2 S1 e1 hi hg y
    obtain ⟨T, z, rfl, hT, rfl, hy⟩ := y
    obtain ⟨vs', sq', rl'⟩ := look F1 m1 st1 _ S1 e1 hg
    obtain ⟨x0, hx0, rfl⟩ := enumFrom_get xs 0 i w hi
    obtain ⟨z', h1, h2⟩ := rl'.get hx0
    have := hy vs' sq'
    rw [h1] at this
    cases this
    rw [Nat.zero_add]
    exact pair_new S1 hT rep_int h2
theorem wok_enumT {p : Addr} {xs : List Val} {vs : List V} {F : Hp} {m : Nat → Addr} {n : Nat} {H : Hp} (sq : SqT G.K F p vs) (rl : RepL G F m n xs vs) : WOk G (IteT G.K p) (enumFrom 0 xs) .none F m n H := by
  refine ⟨fun H' => SqT G.K H' p vs, (IteT G.K p).yld, ⟨fun i H' hi q => ?_, fun H' q => ?_, fun i H' x H2 hi q y => y⟩, fun F' m' st' H' S' e' _ => Same.sqT S'.same (Same.sqT e'.same sq), ?_⟩
  · rw [enumFrom_length, rl.length] at hi
    exact ⟨vs, vs[i], q, by simp [hi]⟩
  · exact ⟨vs, q, by rw [enumFrom_length, rl.length]; exact Nat.le_refl _⟩
  · intro i x w F1 m1 st1 H1 H2 S1 e1 hi hg y
    obtain ⟨T, z, rfl, hT, rfl, hy⟩ := y
    obtain ⟨x0, hx0, rfl⟩ := enumFrom_get xs 0 i w hi
    obtain ⟨z', h1, h2⟩ := (rl.upW e1).get hx0
    have := hy vs (Same.sqT S1.same (Same.sqT e1.same sq))
    rw [h1] at this
    cases this
    rw [Nat.zero_add]
    exact pair_new S1 hT rep_int h2
theorem repL1 {F : Hp} {m : Nat → Addr} {n : Nat} {v : Val} {zs : List V} (h : RepL G F m n [v] zs) : ∃ z, zs = [z] ∧ Rep G F m n v z := by
  unfold RepL at h
  obtain ⟨y, ys, rfl, h1, h2⟩ := h
  unfold RepL at h2
  subst h2
  exact ⟨y, rfl, h1⟩
theorem repL2 {F : Hp} {m : Nat → Addr} {n : Nat} {v u : Val} {zs : List V} (h : RepL G F m n [v, u] zs) : ∃ z y, zs = [z, y] ∧ Rep G F m n v z ∧ Rep G F m n u y := by
  unfold RepL at h
  obtain ⟨y, ys, rfl, h1, h2⟩ := h
  obtain ⟨z, rfl, h3⟩ := repL1 h2
  exact ⟨y, z, rfl, h1, h3⟩
theorem inRng_ok {i : Int} (h : inRng i = true) : -(2 ^ 62) ≤ i ∧ i < 2 ^ 62 := by
  have := (inRng_iff i).mp h
  omega
theorem si_rng1 (hg : Gl X "range") (hm : X.mg "range" = none) (h0 : notStar a = true) (ha : PA X [a] (tA G E fs)) (hl : ∀ σ st vs st1, fs σ st = .ok vs st1 → vs.length = 1) : PI X tg (.Call (.Name "range" p2) [a] [] pos) (tI G E .rng fs) := by
  refine PI.imp (pi_range1 hg hm ha (by rw [starEach_plain h0]; rfl)) fun σ H R h => ?_
  obtain ⟨F, m, σe, st, S, rs, h⟩ := h
  refine ⟨F, m, σe, st, S, rs, ?_⟩
  cases q : fs σe st with
  | no => rw [q] at h; exact h
  | exc e st1 => rw [q] at h; exact h
  | ok vs st1 =>
    rw [q] at h
    intro F1 m1 H1 S1 e1 zs rz
    obtain ⟨items, gd, st2, hw, k⟩ := h F1 m1 H1 S1 e1
    have h1 := hl _ _ _ _ q
    unfold walk walkRng at hw
    dsimp only at hw
    split at hw
    · split at hw
      · rename_i n hn
        cases hw
        obtain ⟨z, rfl, r1⟩ := repL1 rz
        unfold Rep at r1; subst r1
        have := inRng_ok hn
        exact ⟨_, rfl, this.1, this.2, k _ F1 m1 H1 S1 Ext.refl rfl wok_rng⟩
      · cases hw
    · simp at h1
    · cases hw
theorem si_rng2 (hg : Gl X "range") (hm : X.mg "range" = none) (h0 : notStar a = true) (h0' : notStar b = true) (ha : PA X [a, b] (tA G E fs)) (hl : ∀ σ st vs st1, fs σ st = .ok vs st1 → vs.length = 2) : PI X tg (.Call (.Name "range" p2) [a, b] [] pos) (tI G E .rng fs) := by
  refine PI.imp (pi_range2 hg hm ha (by rw [starEach_plain h0, starEach_plain h0']; rfl) (by rw [starEach_plain h0']; rfl)) fun σ H R h => ?_
  obtain ⟨F, m, σe, st, S, rs, h⟩ := h
  refine ⟨F, m, σe, st, S, rs, ?_⟩
  cases q : fs σe st with
  | no => rw [q] at h; exact h
  | exc e st1 => rw [q] at h; exact h
  | ok vs st1 =>
    rw [q] at h
    intro F1 m1 H1 S1 e1 zs rz
    obtain ⟨items, gd, st2, hw, k⟩ := h F1 m1 H1 S1 e1
    have h1 := hl _ _ _ _ q
    unfold walk walkRng at hw
    dsimp only at hw
    split at hw
    · simp at h1
    · split at hw
      · rename_i n1 n2 hn
        cases hw
        rw [Bool.and_eq_true] at hn
        obtain ⟨z, y, rfl, r1, r2⟩ := repL2 rz
        unfold Rep at r1 r2; subst r1 r2
        have b1 := inRng_ok hn.1
        have b2 := inRng_ok hn.2
        exact ⟨_, _, rfl, ⟨b1.1, b1.2, b2.1, b2.2⟩, k _ F1 m1 H1 S1 Ext.refl rfl wok_rng⟩
      · cases hw
    · cases hw
theorem si_enum (cx : CxR X G d) (hg : Gl X "enumerate") (hm : X.mg "enumerate" = none) (h0 : notStar a = true) (ha : PA X [a] (tA G E fs)) : PI X (.Tuple elts kk tpos) (.Call (.Name "enumerate" p2) [a] [] pos) (tI G E .enum fs) := by
  refine ⟨fun pins s σ H R I h => ?_⟩
  have hst : starEach [a] X.env = [(false, eval a X.env)] := by rw [starEach_plain h0]; rfl
  obtain ⟨F, m, σe, st, S, rs, h⟩ := h
  cases q : fs σe st with
  | no => rw [q] at h; exact h.elim
  | exc e st1 =>
    refine (pi_enum hg hm ha hst).run pins s σ H R I ⟨F, m, σe, st, S, rs, ?_⟩
    rw [q] at h ⊢
    exact h
  | ok vs st1 =>
    rw [q] at h
    have lists : ∀ v xs, vs = [v] → walkEnum v st1 = some (enumFrom 0 xs, .lst v xs, st1) → lstOf st1 v = some xs → wpAny (model X.prog X.w) X.A (eval (.Call (.Name "enumerate" p2) [a] [] pos) X.env) (fun v s1 => wpAny (model X.prog X.w) X.A (pyIter v) (PIE X pins σ (.Tuple elts kk tpos) R) X.xe s1) X.xe s := by
      intro v xs hv hw hx
      subst hv
      refine (pi_enum hg hm ha hst).run pins s σ H R I ⟨F, m, σe, st, S, rs, ?_⟩
      rw [q]
      intro F1 m1 H1 S1 e1 zs rz
      obtain ⟨z, rfl, rx⟩ := repL1 rz
      obtain ⟨p, us, rfl, sq, rl⟩ := S1.list rx hx
      obtain ⟨items, gd, st2, hw', k⟩ := h F1 m1 H1 S1 e1
      have hw' : walkEnum v st1 = some (items, gd, st2) := hw'
      rw [hw] at hw'
      cases hw'
      rw [cx.K]
      exact ⟨p, us, rfl, sq, k _ F1 m1 H1 S1 Ext.refl (decide_eq_true hx) (wok_enumL rx)⟩
    have bad : (∀ F1 m1 H1, Sim G F1 m1 st1 H1 → walk .enum vs st1 = none) → wpAny (model X.prog X.w) X.A (eval (.Call (.Name "enumerate" p2) [a] [] pos) X.env) (fun v s1 => wpAny (model X.prog X.w) X.A (pyIter v) (PIE X pins σ (.Tuple elts kk tpos) R) X.xe s1) X.xe s := by
      intro hb
      refine (pi_enum hg hm ha hst).run pins s σ H R I ⟨F, m, σe, st, S, rs, ?_⟩
      rw [q]
      intro F1 m1 H1 S1 e1 zs rz
      obtain ⟨items, gd, st2, hw', k⟩ := h F1 m1 H1 S1 e1
      rw [hb F1 m1 H1 S1] at hw'
      cases hw'
    match vs, q, h, lists, bad with
    | [], q, h, lists, bad => exact bad fun _ _ _ _ => rfl
    | _ :: _ :: _, q, h, lists, bad => exact bad fun _ _ _ _ => rfl
    | [v], q, h, lists, bad =>
      have gen : (∀ xs, v ≠ .tup xs) → (∀ xs, v ≠ .wt xs) → wpAny (model X.prog X.w) X.A (eval (.Call (.Name "enumerate" p2) [a] [] pos) X.env) (fun v s1 => wpAny (model X.prog X.w) X.A (pyIter v) (PIE X pins σ (.Tuple elts kk tpos) R) X.xe s1) X.xe s := by
        intro hv hv2
        have hwe : walkEnum v st1 = match lstOf st1 v with | some xs => some (enumFrom 0 xs, .lst v xs, st1) | none => none := by
          cases v with
          | tup xs => exact absurd rfl (hv xs)
          | wt xs => exact absurd rfl (hv2 xs)
          | _ => rfl
        cases hx : lstOf st1 v with
        | some xs => exact lists v xs rfl (by rw [hwe, hx]) hx
        | none => exact bad fun _ _ _ _ => by show walkEnum v st1 = none; rw [hwe, hx]
      cases v with
      | tup xs =>
        refine (pi_enumT hg hm ha hst).run pins s σ H R I ⟨F, m, σe, st, S, rs, ?_⟩
        rw [q]
        intro F1 m1 H1 S1 e1 zs rz
        obtain ⟨z, rfl, rx⟩ := repL1 rz
        unfold Rep at rx
        obtain ⟨p, us, rfl, h1, h2⟩ := rx
        obtain ⟨items, gd, st2, hw', k⟩ := h F1 m1 H1 S1 e1
        cases hw'
        rw [cx.K]
        exact ⟨p, us, rfl, .inl (.inl (S1.same _ _ h1)), k _ F1 m1 H1 S1 Ext.refl rfl (wok_enumT (.inl (.inl h1)) h2)⟩
      | wt xs =>
        refine (pi_enumT hg hm ha hst).run pins s σ H R I ⟨F, m, σe, st, S, rs, ?_⟩
        rw [q]
        intro F1 m1 H1 S1 e1 zs rz
        obtain ⟨z, rfl, rx⟩ := repL1 rz
        unfold Rep at rx
        obtain ⟨p, us, rfl, h1, h2⟩ := rx
        obtain ⟨items, gd, st2, hw', k⟩ := h F1 m1 H1 S1 e1
        cases hw'
        rw [cx.K]
        exact ⟨p, us, rfl, Same.sqT S1.same h1, k _ F1 m1 H1 S1 Ext.refl rfl (wok_enumT h1 h2)⟩
      | _ => exact gen (fun xs e => by cases e) (fun xs e => by cases e)
end
end Mi

/-! Mi, part j6: list comprehensions. -/
namespace Mi
open PySem PySem.Spec PyProof.Rows L2
theorem wipe_same {σ σ' : L2.St} {js vs : List Nat} (h : Only js (wipe σ vs) σ') (hs : ∀ j ∈ js, j ∈ vs) : wipe σ' vs = wipe σ vs := by
  have wn : ∀ (τ : L2.St) (vs : List Nat) (j : Nat), j ∈ vs → j < τ.length → (wipe τ vs)[j]? = some none := by
    intro τ vs
    induction vs with
    | nil => intro j hj; cases hj
    | cons v vs ih =>
      intro j hj hl
      unfold wipe
      by_cases e : v = j
      · subst e
        exact List.getElem?_set_self (by rw [wipe_length]; exact hl)
      · rw [List.getElem?_set_ne e]
        exact ih j ((List.mem_cons.mp hj).resolve_left fun z => e z.symm) hl
  have hl : σ'.length = σ.length := h.1.trans (wipe_length σ vs)
  apply List.ext_getElem?
  intro j
  by_cases hj : j ∈ vs
  · by_cases hjl : j < σ.length
    · rw [wn σ' vs j hj (by omega), wn σ vs j hj hjl]
    · rw [List.getElem?_eq_none (by rw [wipe_length]; omega), List.getElem?_eq_none (by rw [wipe_length]; omega)]
  · rw [wipe_out hj, h.2 j fun z => hj (hs j z)]
theorem RepS.wipe {G : Gm} {F : Hp} {m : Nat → Addr} {n : Nat} {σe : Env} {σ : L2.St} (rs : RepS G F m n σe σ) : ∀ vs : List Nat, RepS G F m n (wipeE σe vs) (L2.wipe σ vs)
  | [] => rs
  | v :: vs => by
    have ih := RepS.wipe rs vs
    refine ⟨by simp [wipeE, L2.wipe, ih.1], fun i u e => ?_⟩
    unfold wipeE at e
    unfold L2.wipe
    by_cases hv : v = i
    · subst hv
      by_cases hl : v < (wipeE σe vs).length
      · rw [List.getElem?_set_self hl] at e; cases e
      · rw [List.getElem?_eq_none (by simpa using hl)] at e; cases e
    · rw [List.getElem?_set_ne hv] at e
      rw [List.getElem?_set_ne hv]
      exact ih.2 i u e
theorem After.keep {α β : Type} {G : Gm} {E : XK} {F : Hp} {m : Nat → Addr} {n : Nat} {H F1 : Hp} {m1 : Nat → Addr} {n1 : Nat} {H1 : Hp} {r : Res α} {f : α → Store → Res β} {K : β → Store → Hp → (Nat → Addr) → Hp → Prop}
    (e1 : Ext F m n H F1 m1 n1 H1) (h : After G E F m n H (r.bnd f) K) : After G E F1 m1 n1 H1 r (fun a st2 _ _ _ => After G E F m n H (f a st2) K) := by
  cases r with
  | ok a st => exact fun _ _ _ _ _ => h
  | exc e st => exact fun F2 m2 H2 d vs S2 e2 => h F2 m2 H2 d vs S2 (e1.trans e2)
  | no => exact h
/-- another tracked thing beside -/
theorem Sim.other {G : Gm} {F : Hp} {m : Nat → Addr} {st : Store} {H : Hp} (S : Sim G F m st H) {D : Addr} (hF : F D = none) (hm : ∀ i, i < st.length → m i ≠ D) (o : HO) : Sim G F m st (upd H D o) :=
  ⟨fun b x e => by rw [upd_ne (ne_of_none e hF)]; exact S.same b x e, fun i x e => by
    obtain ⟨u, h1, h2, h3⟩ := S.obj i x e
    exact ⟨u, by rw [upd_ne (hm i (List.getElem?_eq_some_iff.mp e).1)]; exact h1, h2, h3⟩, S.inj⟩
theorem Ext.other {F : Hp} {m : Nat → Addr} {n : Nat} {H F1 : Hp} {m1 : Nat → Addr} {n1 : Nat} {H1 : Hp} (e : Ext F m n H F1 m1 n1 H1) {D : Addr} (hD : H D = none) (o : HO) : Ext F m n H F1 m1 n1 (upd H1 D o) :=
  ⟨e.same, e.mp, e.le, fun a x h1 h0 h2 h3 => by
    obtain ⟨g1, g2, g3⟩ := e.fr a x h1 h0 h2 h3
    exact ⟨by rw [upd_ne (ne_of_none h1 hD)]; exact g1, g2, g3⟩, fun a x u h1 => by rw [upd_ne (ne_of_none h1 hD)]; exact e.fz a x u h1⟩
/-- what a comprehension hands on: the list at D -/
def KD (G : Gm) (D : Addr) (Qd : Hp → Prop) : List Val → Store → Hp → (Nat → Addr) → Hp → Prop := fun vs st' F' m' H' => ∀ us, RepL G F' m' st'.length vs us → H' D = some (.lst us) → F' D = none → (∀ i, i < st'.length → m' i ≠ D) → Qd H'
section
variable {X : Cx} {G : Gm} {E E' : XK} {d : Nat} {pos : Pos} {gd : Gd} {g : Tg} {gc : Env → Store → Res Bool} {fe : Env → Store → Res Val}
theorem lcL_ok {J : It} {items : List Val} {σ : L2.St} {σe : Env} {own : List Nat} {F : Hp} {m : Nat → Addr} {st : Store} {H : Hp} {D : Addr} {Qd : Hp → Prop}
    (hgd : gd.ok st = true) (W : WOk G J items gd F m st.length H) (S : Sim G F m st H) (rs : RepS G F m st.length σe σ) (hD : H D = none) (hsl : ∀ j ∈ g.slots, j ∈ own) (hlen : items.length ≤ sizeLine)
    (h : After G E F m st.length H (noX (lcL gd g gc fe (wipeE σe own) items st)) (KD G D Qd)) :
    ∃ W : Nat → Nat → Hp → Prop, (∃ k, W 0 k (upd H D (.lst []))) ∧ ∀ i k H, W i k H →
      (J.stop i H ∧ Qd H) ∨ (J.go i H ∧ ∃ Nx : Hp → Prop, (∀ H', Nx H' → ∃ k', k' < k ∧ W (i + 1) k' H') ∧ ∀ x H', J.yld i H x H' → tG G g x (wipe σ own) H' fun σ2 H2 => wipe σ2 own = wipe σ own ∧ tT G E0 gc σ2 H2 fun b H3 =>
        if b = true then tE G E0 fe σ2 H3 fun y H4 => ∃ acc, H4 D = some (.lst acc) ∧ acc.length < sizeLine ∧ Nx (upd H4 D (.lst (acc ++ [y]))) else Nx H3) := by
  have h : After G E0 F m st.length H (lcL gd g gc fe (wipeE σe own) items st) (KD G D Qd) := by
    cases q : lcL gd g gc fe (wipeE σe own) items st with
    | ok a st' => rw [q] at h; exact h
    | exc e st' => rw [q] at h; exact h.elim
    | no => rw [q] at h; exact h
  obtain ⟨Gd, Y, w, hG, hY⟩ := W.ex
  have fD := S.free hD
  have mD : ∀ i, i < st.length → m i ≠ D := fun i hi => S.ne hD hi
  refine lc_it w (fun i H' => ∃ F' m' st' accV acc, Sim G F' m' st' H' ∧ Ext F m st.length H F' m' st'.length H' ∧ gd.ok st' = true ∧ H' D = some (.lst acc) ∧ F' D = none ∧ (∀ i, i < st'.length → m' i ≠ D) ∧ RepL G F' m' st'.length accV acc ∧ acc.length ≤ i ∧
      After G E0 F m st.length H (lcL gd g gc fe (wipeE σe own) (items.drop i) st') (fun vs => KD G D Qd (accV ++ vs))) ?_ ?_ ?_ ?_
  · exact ⟨F, m, st, [], [], S.other fD mD _, Ext.refl.other hD _, hgd, upd_same, fD, mD, RepL.nil, Nat.le_refl _, h⟩
  · rintro i H' _ ⟨F', m', st', accV, acc, S', e', g', _⟩
    exact hG F' m' st' H' S' e'.w g'
  · rintro i x H1 H2 hi ⟨F1, m1, st1, accV, acc, S1, e1, g1, hD1, fD1, mD1, ra, hal, h1⟩ y
    rw [List.drop_eq_getElem_cons hi] at h1
    obtain ⟨F2, S2, e2, r2⟩ := hY i x items[i] F1 m1 st1 H1 H2 S1 e1.w (by simp [hi]) g1 y
    have e12 := e1.trans e2
    obtain ⟨hD2, fD2, mD2⟩ := e2.fr D _ hD1 (fun _ z => by cases z) fD1 mD1
    unfold lcL at h1
    cases ha : asg g items[i] (wipeE σe own) st1 with
    | none => simp only [ha] at h1; exact h1.elim
    | some σ' =>
      simp only [ha] at h1
      refine ⟨F2, m1, st1, wipeE σe own, items[i], σ', S2, (rs.up e12).wipe own, r2, ha, fun σ2 rs2 on => ⟨wipe_same on hsl, ?_⟩⟩
      refine ⟨F2, m1, σ', st1, S2, rs2, (After.keep e12 h1).mono fun b st3 F3 m3 H3 S3 e3 h3 => ?_⟩
      have e13 := e12.trans e3
      obtain ⟨hD3, fD3, mD3⟩ := e3.fr D _ hD2 (fun _ z => by cases z) fD2 mD2
      cases b with
      | false =>
        show if false = true then _ else _
        rw [if_neg (by simp)]
        have h3 : After G E0 F m st.length H (if gd.ok st3 = true then lcL gd g gc fe (wipeE σe own) (items.drop (i + 1)) st3 else .no) (fun vs => KD G D Qd (accV ++ vs)) := h3
        split at h3
        · rename_i hg3
          exact ⟨F3, m3, st3, accV, acc, S3, e13, hg3, hD3, fD3, mD3, (ra.up e2).up e3, by omega, h3⟩
        · exact h3.elim
      | true =>
        show if true = true then _ else _
        rw [if_pos rfl]
        have h3 : After G E0 F m st.length H ((fe σ' st3).bnd fun v st => if gd.ok st = true then (lcL gd g gc fe (wipeE σe own) (items.drop (i + 1)) st).bnd fun vs st => .ok (v :: vs) st else .no) (fun vs => KD G D Qd (accV ++ vs)) := h3
        refine ⟨F3, m3, σ', st3, S3, rs2.up e3, (After.keep e13 h3).mono fun v st4 F4 m4 H4 S4 e4 h4 z rz => ?_⟩
        obtain ⟨hD4, fD4, mD4⟩ := e4.fr D _ hD3 (fun _ z => by cases z) fD3 mD3
        split at h4
        · rename_i hg4
          refine ⟨acc, hD4, by omega, F4, m4, st4, accV ++ [v], acc ++ [z], S4.other fD4 mD4 _, (e13.trans e4).other hD _, hg4, upd_same, fD4, mD4, (((ra.up e2).up e3).up e4).append (RepL.cons rz RepL.nil), by simp; omega, ?_⟩
          refine (After.keep Ext.refl h4).mono fun vs st5 F5 m5 H5 S5 e5 h5 => ?_
          have := h5 F5 m5 H5 S5 e5
          rw [List.append_assoc]
          exact this
        · exact h4.elim
  · rintro H' ⟨F', m', st', accV, acc, S', e', g', hD', fD', mD', ra, hal, h'⟩
    rw [List.drop_length] at h'
    have h' : KD G D Qd (accV ++ []) st' F' m' H' := h' F' m' H' S' e'
    rw [List.append_nil] at h'
    exact h' acc ra hD' fD' mD'

/-- the list at D is taken in -/
theorem adopt {F : Hp} {m : Nat → Addr} {n : Nat} {H F1 : Hp} {m1 : Nat → Addr} {st1 : Store} {H1 : Hp} {D : Addr} {Q : VK} {mt : Bool} {xs : List Val} {vs : List V} (e : Ext F m n H F1 m1 st1.length H1) (S : Sim G F1 m1 st1 H1) (hD : H D = none) (hD1 : H1 D = some (.lst vs)) (fD : F1 D = none) (mD : ∀ i, i < st1.length → m1 i ≠ D)
    (r : RepL G F1 m1 st1.length xs vs) (h : After G E F m n H (newL mt xs st1) (KV G Q)) : Q (.ref D) H1 := by
  -- as if D were new
  have sm : Same F1 (fun b => if b = D then none else H1 b) := fun b o q => by
    show (if b = D then none else H1 b) = some o
    rw [if_neg (ne_of_none q fD)]
    exact S.same b o q
  have S0 : Sim G F1 m1 st1 (fun b => if b = D then none else H1 b) := ⟨sm, fun i o q => by
    obtain ⟨u, h1, h2, h3⟩ := S.obj i o q
    exact ⟨u, by show (if m1 i = D then none else H1 (m1 i)) = some u; rw [if_neg (mD i (List.getElem?_eq_some_iff.mp q).1)]; exact h1, h2, h3⟩, S.inj⟩
  have e0 : Ext F m n H F1 m1 st1.length (fun b => if b = D then none else H1 b) := ⟨e.same, e.mp, e.le, fun a x h1 h0 h2 h3 => by
    obtain ⟨g1, g2, g3⟩ := e.fr a x h1 h0 h2 h3
    exact ⟨by show (if a = D then none else H1 a) = some x; rw [if_neg (ne_of_none h1 hD)]; exact g1, g2, g3⟩, fun a x u h1 => by
    show (if a = D then none else H1 a) = _
    rw [if_neg (ne_of_none h1 hD)]
    exact e.fz a x u h1⟩
  have hn : (fun b => if b = D then none else H1 b) D = none := if_pos rfl
  have eq : upd (fun b => if b = D then none else H1 b) D (.lst vs) = H1 := by
    funext b
    by_cases hb : b = D
    · subst hb; rw [upd_same, hD1]
    · rw [upd_ne hb]; exact if_neg hb
  have := fin_newL (E := E) (Q := Q) S0 r hn (h.pull (st := st1) e0)
  rw [eq] at this
  exact this
def lcV (mt : Bool) (k : ItK) (own : List Nat) (g : Tg) (gc : Env → Store → Res Bool) (fe : Env → Store → Res Val) (σ : Env) (vs : List Val) (st : Store) : Res Val :=
  (iterV k vs st).bnd fun p st => if p.2.ok st && decide (p.1.length ≤ lim) then (noX (lcL p.2 g gc fe (wipeE σ own) p.1 st)).bnd fun xs st => newL mt xs st else .no
theorem lc_t {k : ItK} {fs : Env → Store → Res (List Val)} {own : List Nat} {mt : Bool} (hsl : ∀ j ∈ g.slots, j ∈ own) {σ : L2.St} {H : Hp} {Q : VK} (h : tE G E (fun σ st => (fs σ st).bnd (lcV mt k own g gc fe σ)) σ H Q) :
    tLc (tI G E k fs) (tG G g) (tT G E0 gc) (tE G E0 fe) own σ H Q := by
  obtain ⟨F, m, σe, st, S, rs, h⟩ := h
  refine ⟨F, m, σe, st, S, rs, h.bnd.mono fun vs st1 F1 m1 H1 S1 e1 h1 => ?_⟩
  unfold lcV iterV at h1
  cases hw : walk k vs st1 with
  | none => rw [hw] at h1; exact h1.elim
  | some p =>
    obtain ⟨items, gd, st2⟩ := p
    rw [hw] at h1
    refine ⟨items, gd, st2, rfl, fun J F2 m2 H2 S2 e2 hgd W D hD => ?_⟩
    have h2 := h1.pull (st := st2) e2
    have h2 : After G E F2 m2 st2.length H2 (if (gd.ok st2 && decide (items.length ≤ lim)) = true then (noX (lcL gd g gc fe (wipeE σe own) items st2)).bnd fun xs st => newL mt xs st else .no) (KV G Q) := h2
    split at h2
    · rename_i hb
      rw [Bool.and_eq_true] at hb
      refine lcL_ok (E := E) hgd W S2 (rs.up (e1.trans e2)) hD hsl (lim_le (of_decide_eq_true hb.2)) ?_
      refine (After.keep Ext.refl h2).mono fun xs st3 F3 m3 H3 S3 e3 h3 us ru hD3 fD3 mD3 => ?_
      exact adopt e3 S3 hD hD3 fD3 mD3 ru h3
    · exact h2.elim
theorem se_lc {k : ItK} {fs : Env → Store → Res (List Val)} {mt : Bool} {elt tg iter : Expr} {ifs : List Expr} {scope : Scope} {own : List (Str × Nat)} (hc : X.calm = true) (hN : X.N.Nodup) (hi : PI X tg iter (tI G E k fs)) (ok : BlkOk X.N X.env.scope scope own) (hsl : ∀ j ∈ g.slots, j ∈ own.map (·.2))
    (hg : ∀ (s : Shared) (H : Hp) (C : Addr) (cl : List (Str × Addr)) (fp : List Addr), PG (X.blk s H scope (compEnvC scope cl C X.env) fp) tg (tG G g)) (ht : ∀ (s : Shared) (H : Hp) (C : Addr) (cl : List (Str × Addr)) (fp : List Addr), PTs (X.blk s H scope (compEnvC scope cl C X.env) fp) ifs (tT G E0 gc))
    (he : ∀ (s : Shared) (H : Hp) (C : Addr) (cl : List (Str × Addr)) (fp : List Addr), PE (X.blk s H scope (compEnvC scope cl C X.env) fp) elt (tE G E0 fe)) (hs : ∀ x, foldedSetIterable iter X.env x = pure x) :
    PE X (.ListComp elt [⟨tg, iter, ifs, 0⟩] scope pos) (tE G E fun σ st => (fs σ st).bnd (lcV mt k (own.map (·.2)) g gc fe σ)) :=
  PE.imp (pe_lc hc hN hi ok hg ht he hs) fun σ H Q h => lc_t hsl h
theorem s_setLc {k : ItK} {fs : Env → Store → Res (List Val)} {mt : Bool} {i : Nat} {y : Str} {py spos : Pos} {elt tg iter : Expr} {ifs : List Expr} {scope : Scope} {own : List (Str × Nat)} (hc : X.calm = true) (hN : X.N.Nodup) (hy : X.N[i]? = some y) (hyl : X.env.scope.names.lookup y = some .local)
    (hsw : swapsWith (.ListComp elt [⟨tg, iter, ifs, 0⟩] scope pos) (some (.Name y py)) spos.line X.env = pure true) (hi : PI X tg iter (tI G E k fs)) (ok : BlkOk X.N X.env.scope scope own) (hsl : ∀ j ∈ g.slots, j ∈ own.map (·.2))
    (hg : ∀ (s : Shared) (H : Hp) (C : Addr) (cl : List (Str × Addr)) (fp : List Addr), PG (X.blk s H scope (compEnvC scope cl C X.env) fp) tg (tG G g)) (ht : ∀ (s : Shared) (H : Hp) (C : Addr) (cl : List (Str × Addr)) (fp : List Addr), PTs (X.blk s H scope (compEnvC scope cl C X.env) fp) ifs (tT G E0 gc))
    (he : ∀ (s : Shared) (H : Hp) (C : Addr) (cl : List (Str × Addr)) (fp : List Addr), PE (X.blk s H scope (compEnvC scope cl C X.env) fp) elt (tE G E0 fe)) (hs : ∀ x, foldedSetIterable iter X.env x = pure x) :
    PS X (.Assign [.Name y py] (.ListComp elt [⟨tg, iter, ifs, 0⟩] scope pos) spos) (tS G E fun σ st => ((fs σ st).bnd (lcV mt k (own.map (·.2)) g gc fe σ)).bnd fun v st => if i < σ.length then .ok (.nx, σ.set i (some v)) st else .no) := by
  refine PS.imp (ps_setLc hc hN hy hyl hsw hi ok hg ht he hs) fun D σ H h => ?_
  refine lc_t (mt := mt) hsl ?_
  obtain ⟨F, m, σe, st, S, rs, h⟩ := h
  refine ⟨F, m, σe, st, S, rs, h.bnd.mono fun v st1 F1 m1 H1 S1 e1 h1 x rx => ?_⟩
  split at h1
  · exact h1 F1 m1 H1 S1 Ext.refl _ ((rs.up e1).set rx)
  · exact h1.elim
end
end Mi

/-! Mi, part k0: sorting. -/
namespace Mi
open PySem
def insB {α : Type} (lt : α → α → Bool) (x : α) : List α → List α
  | [] => [x]
  | y :: r => if lt y x then y :: insB lt x r else x :: y :: r
def isort {α : Type} (lt : α → α → Bool) : List α → List α
  | [] => []
  | x :: r => insB lt x (isort lt r)
def ltS (a b : Str) : Bool := PySem.Spec.ltCps a.cps.toList b.cps.toList
section
variable {α : Type} {lt : α → α → Bool}
theorem insB_perm (x : α) : ∀ l : List α, (insB lt x l).Perm (x :: l)
  | [] => .refl _
  | y :: r => by
    unfold insB
    split
    · exact ((insB_perm x r).cons y).trans (.swap x y r)
    · exact .refl _
theorem isort_perm : ∀ l : List α, (isort lt l).Perm l
  | [] => .refl _
  | x :: r => (insB_perm x (isort lt r)).trans ((isort_perm r).cons x)
theorem insB_pw (as : ∀ a b, lt a b = true → lt b a = false) (tr : ∀ a b c, lt b a = false → lt c b = false → lt c a = false) (x : α) : ∀ l : List α, l.Pairwise (fun a b => lt b a = false) → (insB lt x l).Pairwise (fun a b => lt b a = false)
  | [], _ => by simp [insB]
  | y :: r, h => by
    unfold insB
    rw [List.pairwise_cons] at h
    split
    · rename_i hy
      rw [List.pairwise_cons]
      refine ⟨fun b hb => ?_, insB_pw as tr x r h.2⟩
      rcases List.mem_cons.mp ((insB_perm x r).mem_iff.mp hb) with rfl | hb
      · exact as _ _ hy
      · exact h.1 b hb
    · rename_i hy
      have hy : lt y x = false := by simpa using hy
      rw [List.pairwise_cons, List.pairwise_cons]
      refine ⟨fun b hb => ?_, h.1, h.2⟩
      rcases List.mem_cons.mp hb with rfl | hb
      · exact hy
      · exact tr x y b hy (h.1 b hb)
theorem isort_pw (as : ∀ a b, lt a b = true → lt b a = false) (tr : ∀ a b c, lt b a = false → lt c b = false → lt c a = false) : ∀ l : List α, (isort lt l).Pairwise (fun a b => lt b a = false)
  | [] => .nil
  | x :: r => insB_pw as tr x _ (isort_pw as tr r)
end
theorem ltS_eq (a b : Str) : ltS a b = decide (a.cps.toList < b.cps.toList) := PyProof.Rows.ltCps_eq _ _
theorem ltS_asymm (a b : Str) (h : ltS a b = true) : ltS b a = false := by
  rw [ltS_eq] at h ⊢
  have h := of_decide_eq_true h
  exact decide_eq_false (List.lt_asymm h)
theorem ltS_trans (a b c : Str) (h : ltS b a = false) (g : ltS c b = false) : ltS c a = false := by
  rw [ltS_eq] at h g ⊢
  have h := of_decide_eq_false h
  have g := of_decide_eq_false g
  refine decide_eq_false ?_
  rw [List.not_lt] at h g ⊢
  exact List.le_trans h g
theorem ltS_antisymm (a b : Str) (h : ltS b a = false) (g : ltS a b = false) : a = b := by
  rw [ltS_eq] at h g
  have h := of_decide_eq_false h
  have g := of_decide_eq_false g
  rw [List.not_lt] at h g
  have := List.le_antisymm h g
  cases a; cases b
  simp only [Str.mk.injEq]
  exact Array.toList_inj.mp this
theorem rising_pw : ∀ (p : Str) (l : List Str), PyProof.Rows.risingS p l = true → (∀ b ∈ l, ltS b p = false) ∧ l.Pairwise (fun a b => ltS b a = false)
  | p, [], _ => ⟨fun _ h => (by cases h), List.Pairwise.nil⟩
  | p, x :: r, h => by
    unfold PyProof.Rows.risingS at h
    rw [Bool.and_eq_true] at h
    have h1 : ltS x p = false := by unfold ltS; simpa using h.1
    obtain ⟨h2, h3⟩ := rising_pw x r h.2
    refine ⟨fun b hb => ?_, ?_⟩
    · rcases List.mem_cons.mp hb with rfl | hb
      · exact h1
      · exact ltS_trans p x b h1 (h2 b hb)
    · rw [List.pairwise_cons]
      exact ⟨h2, h3⟩
theorem sorted_unique {ys xs : List Str} (hp : ys.Perm xs) (hs : PyProof.Rows.sortedS ys = true) : ys = isort ltS xs := by
  have h1 : ys.Pairwise (fun a b => ltS b a = false) := by
    cases ys with
    | nil => exact .nil
    | cons y r =>
      obtain ⟨q1, q2⟩ := rising_pw y r hs
      rw [List.pairwise_cons]
      exact ⟨q1, q2⟩
  exact List.Perm.eq_of_pairwise (fun a b _ _ h g => ltS_antisymm a b h g) h1 (isort_pw ltS_asymm ltS_trans xs) (hp.trans (isort_perm xs).symm)
end Mi

/-! Mi, part k1: calls. -/
namespace Mi
open PySem PySem.Spec PyProof.Rows L2
/-- the callee ran on a store of its own -/
def finV (rm : Bool) (st : Store) (v : Val) (st1 : Store) : Res Val := if v.blw 0 then .ok v st else match v with
  | .ref k => match st1[k]? with
    | some o => if o.blw 0 then (match o, rm with | .lst xs, false => .ok (.fl xs) st | o, _ => .ok (.ref st.length) (st ++ [o])) else .no
    | none => .no
  | _ => .no
/-- .. on the caller's -/
def finN (rm : Bool) (st : Store) (v : Val) (st1 : Store) : Res Val :=
  if (st1.take st.length).all (Ob.blw st.length) then
    (if v.blw st.length then .ok v (st1.take st.length) else match v with
      | .ref k => match st1[k]? with
        | some o => if o.blw st.length then (match o, rm with | .lst xs, false => .ok (.fl xs) (st1.take st.length) | o, _ => .ok (.ref st.length) (st1.take st.length ++ [o])) else .ok v st1
        | none => .no
      | _ => .ok v st1)
  else .ok v st1
def retOf : Fw → Option Val
  | .ret v => some v
  | .nx => some .non
  | _ => none
def callV (np : Nat) (rm : Bool) (N : Nat) (body : Env → Store → Res (Fw × Env)) (ws : List Val) (st : Store) : Res Val :=
  if ws.length = np then (if Val.blwL 0 ws then match body (startE N ws) [] with
    | .ok r st1 => (match retOf r.1 with | some v => finV rm st v st1 | none => .no)
    | _ => .no
  else match body (startE N ws) st with
    | .ok r st1 => (match retOf r.1 with | some v => finN rm st v st1 | none => .no)
    | _ => .no) else .no
def spF (G : Gm) (run : List Val → Store → Res Val) : Sp := fun vs H Q E => ∃ F m st ws, Sim G F m st H ∧ RepL G F m st.length ws vs ∧ After G E F m st.length H (run ws st) (KV G Q)

section
variable {G : Gm} {F F1 : Hp} {m m1 : Nat → Addr} {st st1 : Store} {H H1 : Hp}
mutual
theorem Rep.isBlw : ∀ {v : Val} {x : V} {n : Nat}, Rep G F m n v x → v.blw n = true
  | .non, _, _, _ => rfl
  | .bl _, _, _, _ => rfl
  | .int _, _, _, _ => rfl
  | .str _, _, _, _ => rfl
  | .tup xs, _, _, h => by unfold Rep at h; obtain ⟨_, _, _, _, h⟩ := h; exact RepL.isBlw h
  | .wt xs, _, _, h => by unfold Rep at h; obtain ⟨_, _, _, _, h⟩ := h; exact RepL.isBlw h
  | .wl xs, _, _, h => by unfold Rep at h; obtain ⟨_, _, _, _, h⟩ := h; exact RepL.isBlw h
  | .fl xs, _, _, h => by unfold Rep at h; obtain ⟨_, _, _, _, h⟩ := h; exact RepL.isBlw h
  | .ref i, _, _, h => by unfold Rep at h; exact decide_eq_true h.1
  | .ins _ _, _, _, _ => rfl
  | .cl _, _, _, _ => rfl
theorem RepL.isBlw : ∀ {v : List Val} {x : List V} {n : Nat}, RepL G F m n v x → Val.blwL n v = true
  | [], _, _, _ => rfl
  | v :: vs, _, _, h => by
    unfold RepL at h
    obtain ⟨_, _, _, h1, h2⟩ := h
    rw [Val.blwL, Rep.isBlw h1, RepL.isBlw h2]
    rfl
end
theorem RepF.isBlw : ∀ {v : List (Str × Val)} {x : List (Str × V)} {n : Nat}, RepF G F m n v x → Val.blwF n v = true
  | [], _, _, _ => rfl
  | (f, v) :: vs, _, _, h => by
    unfold RepF at h
    obtain ⟨_, _, _, h1, h2⟩ := h
    rw [Val.blwF, Rep.isBlw h1, RepF.isBlw h2]
    rfl
theorem RepDK.isBlw : ∀ {v : List (Val × Val)} {x : List (Key × V)} {n : Nat}, RepDK G F m n v x → Val.blwD n v = true
  | [], _, _, _ => rfl
  | (k, v) :: vs, _, _, h => by
    unfold RepDK at h
    obtain ⟨a, _, _, _, rfl, h1, h2⟩ := h
    rw [Val.blwD, Rep.isBlw h1, RepDK.isBlw h2]
    cases a <;> rfl
theorem blwL_kVal (n : Nat) : ∀ a : List Key, Val.blwL n (a.map kVal) = true
  | [] => rfl
  | a :: r => by rw [List.map_cons, Val.blwL, blwL_kVal n r]; cases a <;> rfl
theorem RepDT.isBlw : ∀ {v : List (Val × Val)} {x : List (List Key × V)} {n : Nat}, RepDT G F m n v x → Val.blwD n v = true
  | [], _, _, _ => rfl
  | (k, v) :: vs, _, _, h => by
    unfold RepDT at h
    obtain ⟨a, _, _, _, rfl, h1, h2⟩ := h
    rw [Val.blwD, Rep.isBlw h1, RepDT.isBlw h2, Val.blw, blwL_kVal]
    rfl
theorem RepO.isBlw : ∀ {o : Ob} {u : HO} {n : Nat}, RepO G F m n o u → o.blw n = true
  | .lst xs, _, _, ⟨_, _, h⟩ => h.isBlw
  | .dic kvs false, _, _, h => by rcases h with ⟨_, _, h⟩ | ⟨_, _, h⟩ <;> exact h.isBlw
  | .dic kvs true, _, _, ⟨_, _, _, h⟩ => by rcases h with ⟨_, _, h⟩ | ⟨_, _, h⟩ <;> exact h.isBlw
  | .ins c fs, _, _, ⟨_, _, _, h⟩ => h.isBlw
theorem RepDK.blw {n n' : Nat} : ∀ {v : List (Val × Val)} {x : List (Key × V)}, RepDK G F m n v x → Val.blwD n' v = true → RepDK G F m n' v x
  | [], _, h, _ => h
  | (k, v) :: vs, _, h, b => by
    unfold RepDK at h ⊢
    obtain ⟨a, y, ys, e, e2, h1, h2⟩ := h
    rw [Val.blwD, Bool.and_eq_true, Bool.and_eq_true] at b
    exact ⟨a, y, ys, e, e2, h1.blw b.1.2, h2.blw b.2⟩
theorem RepDT.blw {n n' : Nat} : ∀ {v : List (Val × Val)} {x : List (List Key × V)}, RepDT G F m n v x → Val.blwD n' v = true → RepDT G F m n' v x
  | [], _, h, _ => h
  | (k, v) :: vs, _, h, b => by
    unfold RepDT at h ⊢
    obtain ⟨a, y, ys, e, e2, h1, h2⟩ := h
    rw [Val.blwD, Bool.and_eq_true, Bool.and_eq_true] at b
    exact ⟨a, y, ys, e, e2, h1.blw b.1.2, h2.blw b.2⟩
theorem RepD.blw {n n' : Nat} {v : List (Val × Val)} {u : HO} (h : RepD G F m n v u) (b : Val.blwD n' v = true) : RepD G F m n' v u := by
  rcases h with ⟨ks, e, h⟩ | ⟨ks, e, h⟩
  · exact .inl ⟨ks, e, h.blw b⟩
  · exact .inr ⟨ks, e, h.blw b⟩
theorem RepO.blw {n n' : Nat} : ∀ {o : Ob} {u : HO}, RepO G F m n o u → o.blw n' = true → RepO G F m n' o u
  | .lst xs, _, ⟨vs, e, h⟩, b => ⟨vs, e, h.blw b⟩
  | .dic kvs false, _, h, b => RepD.blw h b
  | .dic kvs true, _, ⟨o, u, e, h⟩, b => ⟨o, u, e, h.blw b⟩
  | .ins c fs, _, ⟨dx, vs, e, h⟩, b => ⟨dx, vs, e, h.blw b⟩
theorem Rep.zero {n n1 : Nat} {v : Val} {x : V} (h : Rep G F m n v x) (b : v.blw 0 = true) : Rep G F m1 n1 v x := Rep.ext (n := 0) (Same.refl _) (fun i hi => absurd hi (Nat.not_lt_zero _)) (Nat.zero_le _) (h.blw b)
theorem RepF.zero {n n1 : Nat} {v : List (Str × Val)} {x : List (Str × V)} (h : RepF G F m n v x) (b : Val.blwF 0 v = true) : RepF G F m1 n1 v x := RepF.ext (n := 0) (Same.refl _) (fun i hi => absurd hi (Nat.not_lt_zero _)) (Nat.zero_le _) (h.blw b)
theorem RepO.zero {n n1 : Nat} {o : Ob} {u : HO} (h : RepO G F m n o u) (b : o.blw 0 = true) : RepO G F m1 n1 o u := RepO.ext (n := 0) (Same.refl _) (fun i hi => absurd hi (Nat.not_lt_zero _)) (Nat.zero_le _) (h.blw b)
theorem RepO.notTup {n : Nat} {o : Ob} {u : HO} (h : RepO G F m n o u) : ∀ xs, u ≠ .tup xs := fun xs e => by
  subst e
  cases o with
  | lst ys => obtain ⟨_, e, _⟩ := h; cases e
  | ins c fs => obtain ⟨_, _, e, _⟩ := h; cases e
  | dic kvs lk =>
    cases lk with
    | true => obtain ⟨_, _, e, _⟩ := h; cases e
    | false => rcases h with ⟨_, e, _⟩ | ⟨_, e, _⟩ <;> cases e
theorem RepO.toFrz {n : Nat} {o : Ob} {u : HO} (h : RepO G F m n o u) (F1 : Hp) : True := trivial
/-- behind a run on a store of its own the caller's stands as it stood -/
theorem Sim.back (S : Sim G F m st H) (S1 : Sim G F1 m1 st1 H1) (e : Ext F m 0 H F1 m1 st1.length H1) : Sim G F1 m st H1 ∧ Ext F m st.length H F1 m st.length H1 := by
  refine ⟨⟨S1.same, fun i o q => ?_, S.inj⟩, ⟨e.same, fun _ _ => rfl, Nat.le_refl _, fun a o h1 h0 h2 h3 => ?_, e.fz⟩⟩
  · obtain ⟨u, h1, h2, h3⟩ := S.obj i o q
    obtain ⟨g1, g2, _⟩ := e.fr (m i) u h1 h2.notTup h3 (fun i hi => absurd hi (Nat.not_lt_zero _))
    exact ⟨u, g1, h2.ext e.same (fun _ _ => rfl) (Nat.le_refl _), g2⟩
  · obtain ⟨g1, g2, _⟩ := e.fr a o h1 h0 h2 (fun i hi => absurd hi (Nat.not_lt_zero _))
    exact ⟨g1, g2, h3⟩
/-- .. and one object that the callee made is taken over -/
theorem Sim.take (S : Sim G F m st H) (S1 : Sim G F1 m1 st1 H1) (e : Ext F m 0 H F1 m1 st1.length H1) {k : Nat} {o : Ob} (hk : st1[k]? = some o) (hb : o.blw 0 = true) :
    Sim G F1 (fun i => if i = st.length then m1 k else m i) (st ++ [o]) H1 ∧ Ext F m st.length H F1 (fun i => if i = st.length then m1 k else m i) (st ++ [o]).length H1 := by
  obtain ⟨Sb, eb⟩ := S.back S1 e
  obtain ⟨u, g1, g2, g3⟩ := S1.obj k o hk
  have hkl := (List.getElem?_eq_some_iff.mp hk).1
  have hm : ∀ i, i < st.length → (if i = st.length then m1 k else m i) = m i := fun i hi => if_neg (Nat.ne_of_lt hi)
  have hne : ∀ i, i < st.length → m i ≠ m1 k := fun i hi z => by
    obtain ⟨u', h1, h2, h3⟩ := S.obj i st[i] (by simp [hi])
    obtain ⟨_, _, q3⟩ := e.fr (m i) u' h1 h2.notTup h3 (fun i hi => absurd hi (Nat.not_lt_zero _))
    exact q3 k hkl z.symm
  have hl : (st ++ [o]).length = st.length + 1 := by simp
  refine ⟨⟨Sb.same, fun i x q => ?_, fun i j hi hj z => ?_⟩, ⟨eb.same, hm, by omega, fun a x h1 h0 h2 h3 => ?_, eb.fz⟩⟩
  · by_cases hi : i < st.length
    · rw [List.getElem?_append_left hi] at q
      obtain ⟨u', h1, h2, h3⟩ := Sb.obj i x q
      refine ⟨u', ?_, h2.ext (Same.refl _) hm (by omega), ?_⟩
      · show H1 (if i = st.length then m1 k else m i) = _
        rw [hm i hi]; exact h1
      · show F1 (if i = st.length then m1 k else m i) = _
        rw [hm i hi]; exact h3
    · have hi' : i = st.length := by
        have := (List.getElem?_eq_some_iff.mp q).1
        omega
      subst hi'
      rw [List.getElem?_append_right (Nat.le_refl _), Nat.sub_self] at q
      cases q
      refine ⟨u, ?_, g2.zero hb, ?_⟩
      · show H1 (if st.length = st.length then m1 k else _) = _
        rw [if_pos rfl]; exact g1
      · show F1 (if st.length = st.length then m1 k else _) = _
        rw [if_pos rfl]; exact g3
  · have z : (if i = st.length then m1 k else m i) = (if j = st.length then m1 k else m j) := z
    rw [hl] at hi hj
    by_cases h1 : i = st.length
    · by_cases h2 : j = st.length
      · rw [h1, h2]
      · rw [if_pos h1, if_neg h2] at z
        exact absurd z.symm (hne j (by omega))
    · by_cases h2 : j = st.length
      · rw [if_neg h1, if_pos h2] at z
        exact absurd z (hne i (by omega))
      · rw [if_neg h1, if_neg h2] at z
        exact S.inj i j (by omega) (by omega) z
  · obtain ⟨q1, q2, q3⟩ := e.fr a x h1 h0 h2 (fun i hi => absurd hi (Nat.not_lt_zero _))
    refine ⟨q1, q2, fun i hi => ?_⟩
    show (if i = st.length then m1 k else m i) ≠ a
    by_cases hi' : i = st.length
    · rw [if_pos hi']; exact q3 k hkl
    · rw [if_neg hi']; exact h3 i (by omega)
/-- an object of the store is frozen where nothing but the value handed on knows it: the store without it -/
theorem Sim.freeze (S : Sim G F m st H) (S1 : Sim G F1 m1 st1 H1) (e : Ext F m 0 H F1 m1 st1.length H1) {k : Nat} {o : Ob} (hk : st1[k]? = some o) :
    ∃ u, RepO G F1 m1 st1.length o u ∧ Sim G (upd F1 (m1 k) u) m st H1 ∧ Ext F m st.length H (upd F1 (m1 k) u) m st.length H1 ∧ Same F1 (upd F1 (m1 k) u) := by
  obtain ⟨Sb, eb⟩ := S.back S1 e
  obtain ⟨u, g1, g2, g3⟩ := S1.obj k o hk
  have hkl := (List.getElem?_eq_some_iff.mp hk).1
  have sm : Same F1 (upd F1 (m1 k) u) := same_upd g3
  have hne : ∀ i, i < st.length → m i ≠ m1 k := fun i hi z => by
    obtain ⟨u', h1, h2, h3⟩ := S.obj i st[i] (by simp [hi])
    obtain ⟨_, _, q3⟩ := e.fr (m i) u' h1 h2.notTup h3 (fun i hi => absurd hi (Nat.not_lt_zero _))
    exact q3 k hkl z.symm
  refine ⟨u, g2, ⟨fun b x q => ?_, fun i x q => ?_, S.inj⟩, ⟨eb.same.trans sm, fun _ _ => rfl, Nat.le_refl _, fun a x h1 h0 h2 h3 => ?_, eb.fz⟩, sm⟩
  · by_cases hb : b = m1 k
    · subst hb; rw [upd_same] at q; cases q; exact g1
    · rw [upd_ne hb] at q; exact Sb.same b x q
  · obtain ⟨u', h1, h2, h3⟩ := Sb.obj i x q
    exact ⟨u', h1, h2.ext sm (fun _ _ => rfl) (Nat.le_refl _), by rw [upd_ne (hne i (List.getElem?_eq_some_iff.mp q).1)]; exact h3⟩
  · obtain ⟨q1, q2, q3⟩ := e.fr a x h1 h0 h2 (fun i hi => absurd hi (Nat.not_lt_zero _))
    exact ⟨q1, by rw [upd_ne (fun z => q3 k hkl z.symm)]; exact q2, h3⟩
end

section
variable {G : Gm} {F F1 : Hp} {m m1 : Nat → Addr} {st1 : Store} {H H1 : Hp} {n : Nat}
theorem take_len (hn : n ≤ st1.length) : (st1.take n).length = n := by simp [hn]
/-- behind a call the callee's own objects are left away -/
theorem Sim.cut (S1 : Sim G F1 m1 st1 H1) (e : Ext F m n H F1 m1 st1.length H1) (hb : (st1.take n).all (Ob.blw n) = true) : Sim G F1 m1 (st1.take n) H1 ∧ Ext F m n H F1 m1 (st1.take n).length H1 := by
  have hl := take_len e.le
  rw [hl]
  refine ⟨⟨S1.same, fun i o qi => ?_, fun i j hi hj => S1.inj i j (by have := e.le; omega) (by have := e.le; omega)⟩, ⟨e.same, e.mp, Nat.le_refl _, fun a o h1 h0 h2 h3 => ?_, e.fz⟩⟩
  · have hi : i < n := by have := (List.getElem?_eq_some_iff.mp qi).1; omega
    have hm : o ∈ st1.take n := List.mem_of_getElem? qi
    rw [List.getElem?_take_of_lt hi] at qi
    obtain ⟨u, g1, g2, g3⟩ := S1.obj i o qi
    exact ⟨u, g1, by rw [hl]; exact g2.blw (List.all_eq_true.mp hb o hm), g3⟩
  · obtain ⟨q1, q2, q3⟩ := e.fr a o h1 h0 h2 h3
    exact ⟨q1, q2, fun i hi => q3 i (by have := e.le; omega)⟩
theorem Sim.cutFrz (S1 : Sim G F1 m1 st1 H1) (e : Ext F m n H F1 m1 st1.length H1) (hb : (st1.take n).all (Ob.blw n) = true) {k : Nat} {o : Ob} (hk : st1[k]? = some o) (hn : n ≤ k) :
    ∃ u, RepO G F1 m1 st1.length o u ∧ Sim G (upd F1 (m1 k) u) m1 (st1.take n) H1 ∧ Ext F m n H (upd F1 (m1 k) u) m1 (st1.take n).length H1 ∧ Same F1 (upd F1 (m1 k) u) := by
  obtain ⟨Sb, eb⟩ := S1.cut e hb
  obtain ⟨u, g1, g2, g3⟩ := S1.obj k o hk
  have hkl := (List.getElem?_eq_some_iff.mp hk).1
  have sm : Same F1 (upd F1 (m1 k) u) := same_upd g3
  have hl := take_len e.le
  have hne : ∀ i, i < n → m1 i ≠ m1 k := fun i hi z => by have := S1.inj i k (by omega) hkl z; omega
  refine ⟨u, g2, ⟨fun b x q => ?_, fun i x q => ?_, Sb.inj⟩, ⟨eb.same.trans sm, eb.mp, eb.le, fun a x h1 h0 h2 h3 => ?_, eb.fz⟩, sm⟩
  · by_cases hbb : b = m1 k
    · subst hbb; rw [upd_same] at q; cases q; exact g1
    · rw [upd_ne hbb] at q; exact Sb.same b x q
  · obtain ⟨u', h1, h2, h3⟩ := Sb.obj i x q
    have hi : i < n := by have := (List.getElem?_eq_some_iff.mp q).1; omega
    exact ⟨u', h1, h2.ext sm (fun _ _ => rfl) (Nat.le_refl _), by rw [upd_ne (hne i hi)]; exact h3⟩
  · obtain ⟨q1, q2, q3⟩ := e.fr a x h1 h0 h2 h3
    obtain ⟨r1, r2, r3⟩ := eb.fr a x h1 h0 h2 h3
    exact ⟨r1, by rw [upd_ne (fun z => q3 k hkl z.symm)]; exact r2, r3⟩
theorem Sim.cutTake (S1 : Sim G F1 m1 st1 H1) (e : Ext F m n H F1 m1 st1.length H1) (hb : (st1.take n).all (Ob.blw n) = true) {k : Nat} {o : Ob} (hk : st1[k]? = some o) (hn : n ≤ k) (ho : o.blw n = true) :
    Sim G F1 (fun i => if i = n then m1 k else m1 i) (st1.take n ++ [o]) H1 ∧ Ext F m n H F1 (fun i => if i = n then m1 k else m1 i) (st1.take n ++ [o]).length H1 := by
  obtain ⟨Sb, eb⟩ := S1.cut e hb
  obtain ⟨u, g1, g2, g3⟩ := S1.obj k o hk
  have hkl := (List.getElem?_eq_some_iff.mp hk).1
  have hl := take_len e.le
  have hl1 : (st1.take n ++ [o]).length = n + 1 := by rw [List.length_append, hl]; rfl
  have hm : ∀ i, i < n → (if i = n then m1 k else m1 i) = m1 i := fun i hi => if_neg (Nat.ne_of_lt hi)
  have hne : ∀ i, i < n → m1 i ≠ m1 k := fun i hi z => by have := S1.inj i k (by omega) hkl z; omega
  rw [hl1]
  refine ⟨⟨Sb.same, fun i x q => ?_, fun i j hi hj z => ?_⟩, ⟨eb.same, fun i hi => (hm i hi).trans (eb.mp i hi), by omega, fun a x h1 h0 h2 h3 => ?_, eb.fz⟩⟩
  · rw [hl1]
    by_cases hi : i < n
    · rw [List.getElem?_append_left (by omega)] at q
      obtain ⟨u', h1, h2, h3⟩ := Sb.obj i x q
      rw [hl] at h2
      refine ⟨u', ?_, h2.ext (Same.refl _) hm (by omega), ?_⟩
      · show H1 (if i = n then m1 k else m1 i) = _
        rw [hm i hi]; exact h1
      · show F1 (if i = n then m1 k else m1 i) = _
        rw [hm i hi]; exact h3
    · have hi' : i = n := by
        have := (List.getElem?_eq_some_iff.mp q).1
        omega
      subst hi'
      rw [List.getElem?_append_right (by omega), hl, Nat.sub_self] at q
      cases q
      refine ⟨u, ?_, (g2.blw ho).ext (Same.refl _) hm (by omega), ?_⟩
      · show H1 (if i = i then m1 k else _) = _
        rw [if_pos rfl]; exact g1
      · show F1 (if i = i then m1 k else _) = _
        rw [if_pos rfl]; exact g3
  · have z : (if i = n then m1 k else m1 i) = (if j = n then m1 k else m1 j) := z
    rw [hl1] at hi hj
    by_cases h1 : i = n
    · by_cases h2 : j = n
      · rw [h1, h2]
      · rw [if_pos h1, if_neg h2] at z
        exact absurd z.symm (hne j (by omega))
    · by_cases h2 : j = n
      · rw [if_neg h1, if_pos h2] at z
        exact absurd z (hne i (by omega))
      · rw [if_neg h1, if_neg h2] at z
        exact S1.inj i j (by have := e.le; omega) (by have := e.le; omega) z
  · obtain ⟨q1, q2, q3⟩ := e.fr a x h1 h0 h2 h3
    refine ⟨q1, q2, fun i hi => ?_⟩
    show (if i = n then m1 k else m1 i) ≠ a
    by_cases hi' : i = n
    · rw [if_pos hi']; exact q3 k hkl
    · rw [if_neg hi']; exact q3 i (by have := e.le; omega)
theorem finN_ok {E : XK} {Q : VK} {rm : Bool} {v : Val} {x : V} {st : Store} (S1 : Sim G F1 m1 st1 H1) (e1 : Ext F m st.length H F1 m1 st1.length H1) (rx : Rep G F1 m1 st1.length v x) (h : After G E F m st.length H (finN rm st v st1) (KV G Q)) : Q x H1 := by
  unfold finN at h
  split at h
  · rename_i hc
    have hl := take_len e1.le
    split at h
    · rename_i hv
      obtain ⟨Sb, eb⟩ := S1.cut e1 hc
      exact h F1 m1 H1 Sb eb x (by rw [hl]; exact rx.blw hv)
    · rename_i hv
      split at h
      · rename_i j
        unfold Rep at rx
        obtain ⟨hj, rfl⟩ := rx
        have hjn : st.length ≤ j := by
          rw [Bool.not_eq_true] at hv
          unfold Val.blw at hv
          have := of_decide_eq_false hv
          omega
        split at h
        · rename_i o ho
          split at h
          · rename_i hbo
            have tk : After G E F m st.length H (.ok (.ref st.length) (st1.take st.length ++ [o])) (KV G Q) → Q (.ref (m1 j)) H1 := by
              intro h
              obtain ⟨S2, e2⟩ := S1.cutTake e1 hc ho hjn hbo
              refine h _ _ _ S2 e2 _ ?_
              unfold Rep
              exact ⟨by rw [List.length_append, hl]; simp, by rw [if_pos rfl]⟩
            split at h
            · obtain ⟨u, g2, S2, e2, sm⟩ := S1.cutFrz e1 hc ho hjn
              obtain ⟨vs', rfl, g2⟩ := g2
              refine h _ _ _ S2 e2 _ ?_
              unfold Rep
              exact ⟨m1 j, vs', rfl, upd_same, by rw [hl]; exact RepL.ext sm (fun _ _ => rfl) (Nat.le_refl _) (g2.blw hbo)⟩
            · exact tk h
          · exact h F1 m1 H1 S1 e1 _ (by unfold Rep; exact ⟨hj, rfl⟩)
        · exact h.elim
      · exact h F1 m1 H1 S1 e1 x rx
  · exact h F1 m1 H1 S1 e1 x rx
end
theorem repS_start {G : Gm} {F : Hp} {m : Nat → Addr} {n : Nat} {N : List Str} {ws : List Val} {vs : List V} (r : RepL G F m n ws vs) : RepS G F m n (startE N.length ws) (start N vs) := by
  have hl := r.length
  refine ⟨by simp [startE, L2.start, hl], fun i v e => ?_⟩
  unfold startE at e
  unfold L2.start
  by_cases hi : i < ws.length
  · rw [List.getElem?_append_left (by simpa using hi), List.getElem?_map] at e
    obtain ⟨w, e1, e2⟩ := Option.map_eq_some_iff.mp e
    cases e2
    obtain ⟨x, h1, h2⟩ := r.get e1
    exact ⟨x, by rw [List.getElem?_append_left (by simpa [← hl] using hi), List.getElem?_map, h1]; rfl, h2⟩
  · rw [List.getElem?_append_right (by simpa using hi)] at e
    have := List.mem_of_getElem? e
    simp at this
section
variable {P : Program} {w : World} {G : Gm} {mg : Str → Option Value} {base : Heap}
/-- a def of the text behind the top, with or without defaults -/
structure MFun (K : PySem.W.Frag) (x qual : Str) (st : Stmt) (dV : Value) (f : Addr) (fd : FuncData) : Prop where
  ex : ∃ (oc : Value) (od : Option Addr) (kV doc pm : Value) (an : Option Addr) (cdv ct : Value) (osl : Array (Option Value)),
    fd = PySem.W.fnOf x qual (defArgs st) (defBody st) (defScope st) dV kV doc pm an cdv ct ∧ K.lookup f = some ⟨oc, od, .func fd, osl⟩ ∧ PySem.W.codeIn K cdv qual = true
  kp : PySem.W.keepIn K (.ref f) = true
theorem MFun.ok {K : PySem.W.Frag} {x qual : Str} {st : Stmt} {dV : Value} {f : Addr} {fd : FuncData} {N ps : List Str} {k : Nat} {sp : Sp} (F : MFun K x qual st dV f fd) (S : FnScope N ps (defScope st)) (len : ∀ vs H Q E, sp vs H Q E → vs.length = ps.length)
    (hbody : ∀ (cdv : Value) (A : Around) (outer : List PySem.Env) (s : Shared) (H : Hp) (vs : List V) (Q : VK) (E : XK), Room k (A.deeper (envOfC qual (defScope st) s.heap.objs.size f cdv)) → sp vs H Q E →
      ∃ t, PSs (cxOf CX0 P w K mg base N qual (defScope st) f cdv A outer s H E).nox (defBody st) t ∧ t { nx := fun _ H' => Q .non H', rt := Q } (start N vs) H) : FnOk P w K mg base CX0 (k + 1) f fd ps sp := by
  obtain ⟨oc, od, kV, doc, pm, an, cdv, ct, osl, rfl, lk, hcd⟩ := F.ex
  refine fn_of lk hcd S len fun A outer s H vs Q E hr hsp => ?_
  obtain ⟨t, h, q⟩ := hbody cdv A outer s H vs Q E hr hsp
  exact ⟨t, h.nox, q⟩
theorem MFun.binds {K : PySem.W.Frag} {x qual : Str} {st : Stmt} {f : Addr} {fd : FuncData} {ps : List Str} (F : MFun K x qual st .none f fd)
    (h : ∀ (kV doc pm : Value) (an : Option Addr) (cdv ct : Value) (us : List Value), us.length = ps.length → bindArgs (PySem.W.fnOf x qual (defArgs st) (defBody st) (defScope st) .none kV doc pm an cdv ct) ⟨us, []⟩ = pure (ps.zip us)) : Binds K fd ps [] := by
  obtain ⟨oc, od, kV, doc, pm, an, cdv, ct, osl, rfl, lk, hcd⟩ := F.ex
  exact .all (h kV doc pm an cdv ct)
/-- defaults that stand in a written tuple -/
theorem MFun.bindsD {K : PySem.W.Frag} {x qual : Str} {st : Stmt} {f T : Addr} {fd : FuncData} {ps : List Str} {ds : List Value} {o : Obj} {items : Array Value} {n : Nat} (F : MFun K x qual st (.ref T) f fd) (ho : K.lookup T = some o) (hs : o.data = .seq items n)
    (h : ∀ (kV doc pm : Value) (an : Option Addr) (cdv ct : Value) (us : List Value), (us ++ ds).length = ps.length → ∃ k : Option (Array Value) → Sem (List (Str × Value)), bindArgs (PySem.W.fnOf x qual (defArgs st) (defBody st) (defScope st) (.ref T) kV doc pm an cdv ct) ⟨us, []⟩ = seqItems? (.ref T) >>= k ∧ k (some items) = pure (ps.zip (us ++ ds))) : Binds K fd ps ds := by
  obtain ⟨oc, od, kV, doc, pm, an, cdv, ct, osl, rfl, lk, hcd⟩ := F.ex
  intro s us KI hl
  obtain ⟨k, h1, h2⟩ := h kV doc pm an cdv ct us hl
  exact PySem.W.binds_K KI rfl ho hs h1 h2
theorem mfun_mk {K : PySem.W.Frag} {x qual : Str} {st : Stmt} {f : Addr} {oc dV : Value} {od an : Option Addr} {osl : Array (Option Value)} {kV doc pm cdv ct : Value} (l : K.lookup f = some ⟨oc, od, .func (PySem.W.fnOf x qual (defArgs st) (defBody st) (defScope st) dV kV doc pm an cdv ct), osl⟩)
    (c : PySem.W.codeIn K cdv qual = true) (k : PySem.W.keepIn K (.ref f) = true) : MFun K x qual st dV f (PySem.W.fnOf x qual (defArgs st) (defBody st) (defScope st) dV kV doc pm an cdv ct) := ⟨⟨oc, od, kV, doc, pm, an, cdv, ct, osl, rfl, l, c⟩, k⟩
theorem fn_ok {x qual : Str} {dV : Value} {st : Stmt} {f : Addr} {fd : FuncData} {N ps : List Str} {k : Nat} {rm : Bool} {body : Env → Store → Res (Fw × Env)} (Fn : MFun G.K x qual st dV f fd) (S : FnScope N ps (defScope st))
    (hb : ∀ (cdv : Value) (A : Around) (outer : List PySem.Env) (s : Shared) (H : Hp) (E : XK), Room k (A.deeper (envOfC qual (defScope st) s.heap.objs.size f cdv)) → PSs (cxOf CX0 P w G.K mg base N qual (defScope st) f cdv A outer s H E).nox (defBody st) (tS G E0 body)) :
    FnOk P w G.K mg base CX0 (k + 1) f fd ps (spF G (callV ps.length rm N.length body)) := by
  refine Fn.ok S (fun vs H Q E h => ?_) (fun cdv A outer s H vs Q E hr h => ⟨_, hb cdv A outer s H E hr, ?_⟩)
  · obtain ⟨F, m, st, ws, _, r, h⟩ := h
    rw [← r.length]
    unfold callV at h
    split at h
    · assumption
    · exact h.elim
  · obtain ⟨F, m, st, ws, Si, r, h⟩ := h
    unfold callV at h
    split at h
    case isFalse => exact h.elim
    split at h
    · rename_i hz
      -- a store of its own
      have r0 : RepL G F m 0 ws vs := r.blw hz
      have S0 : Sim G F m [] H := ⟨Si.same, fun i o q => by simp at q, fun i j hi => absurd hi (Nat.not_lt_zero _)⟩
      refine ⟨F, m, startE N.length ws, [], S0, repS_start r0, ?_⟩
      cases q : body (startE N.length ws) [] with
      | no => rw [q] at h; exact h.elim
      | exc e st1 => rw [q] at h; exact h.elim
      | ok rr st1 =>
        rw [q] at h
        dsimp only at h
        obtain ⟨fw, σ1⟩ := rr
        intro F1 m1 H1 S1 e1
        have fin : ∀ v x, retOf fw = some v → Rep G F1 m1 st1.length v x → Q x H1 := by
          intro v x hv rx
          rw [hv] at h
          dsimp only at h
          unfold finV at h
          split at h
          · rename_i hb0
            obtain ⟨Sb, eb⟩ := Si.back S1 e1
            exact h F1 m H1 Sb eb x (rx.zero hb0)
          · split at h
            · rename_i j _
              split at h
              · rename_i o ho
                split at h
                · rename_i hbo
                  unfold Rep at rx
                  obtain ⟨hj, rfl⟩ := rx
                  have tk : After G E F m st.length H (.ok (.ref st.length) (st ++ [o])) (KV G Q) → Q (.ref (m1 j)) H1 := by
                    intro h
                    obtain ⟨S2, e2⟩ := Si.take S1 e1 ho hbo
                    refine h _ _ _ S2 e2 _ ?_
                    unfold Rep
                    exact ⟨by simp, by rw [if_pos rfl]⟩
                  split at h
                  · obtain ⟨u, g2, S2, e2, sm⟩ := Si.freeze S1 e1 ho
                    obtain ⟨vs', rfl, g2⟩ := g2
                    refine h _ _ _ S2 e2 _ ?_
                    unfold Rep
                    exact ⟨m1 j, vs', rfl, upd_same, RepL.ext (n := 0) sm (fun i hi => absurd hi (Nat.not_lt_zero _)) (Nat.zero_le _) (g2.blw hbo)⟩
                  · exact tk h
                · exact h.elim
              · exact h.elim
            · exact h.elim
        cases fw with
        | nx => exact fun σ' _ => fin .non .non rfl rep_non
        | ret v => exact fun x rx => fin v x rfl rx
        | brk => exact h.elim
        | ct => exact h.elim
    · refine ⟨F, m, startE N.length ws, st, Si, repS_start r, ?_⟩
      cases q : body (startE N.length ws) st with
      | no => rw [q] at h; exact h.elim
      | exc e st1 => rw [q] at h; exact h.elim
      | ok rr st1 =>
        rw [q] at h
        dsimp only at h
        obtain ⟨fw, σ1⟩ := rr
        intro F1 m1 H1 S1 e1
        have fin : ∀ v x, retOf fw = some v → Rep G F1 m1 st1.length v x → Q x H1 := by
          intro v x hv rx
          rw [hv] at h
          dsimp only at h
          exact finN_ok S1 e1 rx h
        cases fw with
        | nx => exact fun σ' _ => fin .non .non rfl rep_non
        | ret v => exact fun x rx => fin v x rfl rx
        | brk => exact h.elim
        | ct => exact h.elim
end
end Mi

/-! Mi, part k2: calls of defs, of methods, of classes; fields. -/
namespace Mi
open PySem PySem.Spec PyProof.Rows L2
def noStars (es : List Expr) : Bool := es.all notStar
theorem noStars_any {es : List Expr} {env : PySem.Env} {pos : Pos} (h : noStars es = true) : (backTo pos (starEach es env)).any (·.1) = false := by
  induction es with
  | nil => rfl
  | cons e es ih =>
    unfold noStars at h
    rw [List.all_cons, Bool.and_eq_true] at h
    rw [starEach_plain h.1]
    show (backTo pos ((false, _) :: _)).any (·.1) = false
    unfold backTo
    rw [List.map_cons, List.any_cons]
    show (false || _) = false
    rw [Bool.false_or]
    exact ih h.2
section
variable {X : Cx} {G : Gm} {d k : Nat} {f C : Addr} {fd : FuncData} {ps : List Str} {run : List Val → Store → Res Val} {dfl : List Val} {dvs : List V} {ds : List Value} {x mth : Str} {p pos apos : Pos} {e o : Expr} {es : List Expr} {fs : Env → Store → Res (List Val)} {fo : Env → Store → Res Val}
theorem se_call (F : FnOk X.prog X.w X.K X.mg X.base CX0 k f fd ps (spF G run)) (hr : Room k X.A) (hg : Gl X x) (hm : X.mg x = some (.ref f)) (hk : PySem.W.keepIn X.K (.ref f) = true) (hb : Binds X.K fd ps ds) (hd : Vals dvs ds) (hrep : ∀ F m n, RepL G F m n dfl dvs)
    (ha : PA X (e :: es) (tA G E0 fs)) (h0 : notStar e = true) (h1 : noStars es = true) (hdb : (x == ("__debug__" : Str)) = false) : PE X (.Call (.Name x p) (e :: es) [] pos) (tE G E0 fun σ st => (fs σ st).bnd fun ws st => run (ws ++ dfl) st) := by
  refine PE.imp (pe_call F hr hg hm hk hb hd pass0 ha hdb (starEach_plain h0) (noStars_any h1)) fun σ H Q h => ?_
  obtain ⟨F, m, σe, st, S, rs, h⟩ := h
  exact ⟨F, m, σe, st, S, rs, h.bnd.mono fun ws st1 F1 m1 H1 S1 e1 h1 zs rz => ⟨F1, m1, st1, ws ++ dfl, S1, rz.append (hrep F1 m1 _), h1⟩⟩
theorem se_call0 (F : FnOk X.prog X.w X.K X.mg X.base CX0 k f fd ps (spF G run)) (hr : Room k X.A) (hg : Gl X x) (hm : X.mg x = some (.ref f)) (hk : PySem.W.keepIn X.K (.ref f) = true) (hb : Binds X.K fd ps ds) (hd : Vals dvs ds) (hrep : ∀ F m n, RepL G F m n dfl dvs)
    (hdb : (x == ("__debug__" : Str)) = false) : PE X (.Call (.Name x p) [] [] pos) (tE G E0 fun σ st => run dfl st) := by
  refine PE.imp (pe_call0 F hr hg hm hk hb hd pass0 hdb) fun σ H Q h => ?_
  obtain ⟨F, m, σe, st, S, rs, h⟩ := h
  exact ⟨F, m, st, dfl, S, hrep F m _, h⟩
/-- the fields of a receiver -/
theorem Sim.flds {F : Hp} {m : Nat → Addr} {st : Store} {H : Hp} (S : Sim G F m st H) {v : Val} {y : V} {c : Nat} {fs : List (Str × Val)} (r : Rep G F m st.length v y) (h : fldsOf st v = some (c, fs)) : ∃ a dx vs, y = .ref a ∧ H a = some (.ins (G.cad c) dx vs) ∧ RepF G F m st.length fs vs := by
  cases v with
  | ins c' fs' =>
    cases h
    unfold Rep at r
    obtain ⟨a, dx, vs, rfl, h1, h2⟩ := r
    exact ⟨a, dx, vs, rfl, S.same _ _ h1, RepF.ext (n := 0) (Same.refl _) (fun i hi => absurd hi (Nat.not_lt_zero _)) (Nat.zero_le _) h2⟩
  | ref i =>
    unfold fldsOf at h
    dsimp only at h
    cases q : st[i]? with
    | none => simp [q] at h
    | some ob =>
      cases ob with
      | ins c' fs' =>
        simp [q] at h
        obtain ⟨rfl, rfl⟩ := h
        unfold Rep at r
        obtain ⟨_, rfl⟩ := r
        obtain ⟨u, g1, ⟨dx, vs, rfl, g2⟩, g3⟩ := S.obj i _ q
        exact ⟨m i, dx, vs, rfl, g1, g2⟩
      | lst => simp [q] at h
      | dic => simp [q] at h
  | _ => simp [fldsOf] at h
theorem RepF.look {F : Hp} {m : Nat → Addr} {n : Nat} (f : Str) : ∀ {fs : List (Str × Val)} {vs : List (Str × V)}, RepF G F m n fs vs → (fs.lookup f = none ∧ vs.lookup f = none) ∨ ∃ v y, fs.lookup f = some v ∧ vs.lookup f = some y ∧ Rep G F m n v y
  | [], _, h => by unfold RepF at h; subst h; exact .inl ⟨rfl, rfl⟩
  | (g, v) :: fs, _, h => by
    unfold RepF at h
    obtain ⟨y, ys, rfl, h1, h2⟩ := h
    by_cases e : f == g
    · exact .inr ⟨v, y, by simp [List.lookup, e], by simp [List.lookup, e], h1⟩
    · have e' : (f == g) = false := by simpa using e
      rcases h2.look f with ⟨q1, q2⟩ | ⟨v', y', q1, q2, q3⟩
      · exact .inl ⟨by simp [List.lookup, e', q1], by simp [List.lookup, e', q2]⟩
      · exact .inr ⟨v', y', by simp [List.lookup, e', q1], by simp [List.lookup, e', q2], q3⟩
def attrV (ok : Nat → Str → Bool) (f : Str) : Val → Store → Res Val := fun v st => match fldsOf st v with
  | some (c, fs) => if ok c f then (match fs.lookup f with | some w => .ok w st | none => .no) else .no
  | none => .no
def plainBase : Expr → Bool
  | .Call (.Name _ _) [] [] _ => false
  | _ => true
theorem attrBase {e : Expr} {f : Str} {env : PySem.Env} {w : Sem Value} (h : plainBase e = true) : attributeBase e f env w = w := by
  unfold attributeBase
  cases e with
  | Call g as ks ps =>
    cases g with
    | Name n q =>
      cases as with
      | nil => cases ks with
        | nil => cases h
        | cons => rfl
      | cons => rfl
    | _ => rfl
  | _ => rfl
theorem se_attr {ok : Nat → Str → Bool} {fl : Str} (hc : ∀ c, ok c fl = true → Cls X.K (G.cad c) ∧ NoAttr X.K (G.cad c) fl) (he : PE X e (tE G E0 fo)) (hb : plainBase e = true) : PE X (.Attribute e fl pos) (tE G E0 fun σ st => (fo σ st).bnd (attrV ok fl)) := by
  refine PE.imp (pe_fld he (attrBase hb)) fun σ H Q h => ?_
  obtain ⟨F, m, σe, st, S, rs, h⟩ := h
  refine ⟨F, m, σe, st, S, rs, h.bnd.mono fun v st1 F1 m1 H1 S1 e1 h1 x rx => ?_⟩
  unfold attrV at h1
  split at h1
  · rename_i c fs hf
    split at h1
    · rename_i hok
      obtain ⟨hc1, hc2⟩ := hc c hok
      obtain ⟨a, dx, vs, rfl, g1, g2⟩ := S1.flds rx hf
      rcases g2.look fl with ⟨q1, _⟩ | ⟨w, y, q1, q2, q3⟩
      · rw [q1] at h1; exact h1.elim
      · rw [q1] at h1
        exact ⟨a, _, dx, vs, y, rfl, g1, hc1, hc2, q2, h1.here S1 _ q3⟩
    · exact h1.elim
  · exact h1.elim

/-- C(..) -/
def makeV (frz : Bool) (c : Nat) (run : List Val → Store → Res Val) (ws : List Val) (st : Store) : Res Val :=
  if Val.blwL 0 ws then match run (.ref 0 :: ws) [.ins c []] with
    | .ok v st1 => (match v, (st1[0]? : Option Ob) with | .non, some (.ins c' fs) => if Val.blwF 0 fs && decide (c' = c) then (if frz then .ok (.ins c fs) st else .ok (.ref st.length) (st ++ [.ins c fs])) else .no | _, _ => .no)
    | _ => .no
  else match run (.ref st.length :: ws) (st ++ [.ins c []]) with
    | .ok v st1 => (match v, (st1[st.length]? : Option Ob) with
      | .non, some (.ins c' fs) => if frz && Val.blwF 0 fs && decide (c' = c) && decide (st1.take st.length = st) then .ok (.ins c fs) st else .ok (.ref st.length) st1
      | _, _ => .no)
    | _ => .no
theorem make_t {F : Hp} {m : Nat → Addr} {st : Store} {H : Hp} {Q : VK} {frz : Bool} {c : Nat} {ws : List Val} {zs : List V} (S : Sim G F m st H) (rz : RepL G F m st.length ws zs) (h : After G E0 F m st.length H (makeV frz c run ws st) (KV G Q)) :
    ∀ x dx, H x = none → H dx = none → dx ≠ x → spF G run (.ref x :: zs) (upd (upd H dx (.own x)) x (.ins (G.cad c) dx [])) (fun v H2 => v = .non ∧ Q (.ref x) H2) E0 := by
  intro x dx hx hdx hne
  have hx1 : upd H dx (.own x) x = none := by rw [upd_ne (Ne.symm hne)]; exact hx
  -- the dict of the new one is beside
  have S1 : Sim G F m st (upd H dx (.own x)) := S.other (S.free hdx) (fun i hi => S.ne hdx hi) _
  have e1 : Ext F m st.length H F m st.length (upd H dx (.own x)) := Ext.refl.other hdx _
  unfold makeV at h
  split at h
  · rename_i hz
    have S0 : Sim G F m [] (upd H dx (.own x)) := ⟨S1.same, fun i o q => by simp at q, fun i j hi => absurd hi (Nat.not_lt_zero _)⟩
    obtain ⟨S2, e2⟩ := S0.push (o := .ins c []) (u := .ins (G.cad c) dx []) hx1 ⟨dx, [], rfl, by unfold RepF; rfl⟩
    refine ⟨F, _, [.ins c []], .ref 0 :: ws, S2, RepL.cons ?_ (RepL.ext (n := 0) (Same.refl _) (fun i hi => absurd hi (Nat.not_lt_zero _)) (Nat.zero_le _) (rz.blw hz)), ?_⟩
    · unfold Rep
      exact ⟨by simp, rfl⟩
    · cases q : run (.ref 0 :: ws) [.ins c []] with
      | no => rw [q] at h; exact h.elim
      | exc e st1 => rw [q] at h; exact h.elim
      | ok v st1 =>
        rw [q] at h
        intro F3 m3 H3 S3 e3 z rz3
        dsimp only at h
        split at h
        · rename_i c' fs hst
          unfold Rep at rz3
          subst rz3
          refine ⟨rfl, ?_⟩
          split at h
          · rename_i hb
            rw [Bool.and_eq_true] at hb
            have hcc := of_decide_eq_true hb.2
            subst hcc
            have m0 : m3 0 = x := (e3.mp 0 (by simp)).trans rfl
            have e03 : Ext F m 0 H F3 m3 st1.length H3 := by
              have a1 : Ext F m 0 H F m 0 (upd H dx (.own x)) := Ext.refl.other hdx _
              exact (a1.trans e2).trans e3
            split at h
            · obtain ⟨u, g2, S4, e4, sm⟩ := S.freeze S3 e03 hst
              obtain ⟨dx', vs, rfl, g2⟩ := g2
              refine h _ _ _ S4 e4 _ ?_
              unfold Rep
              exact ⟨x, dx', vs, rfl, by rw [m0]; exact upd_same, RepF.ext (n := 0) sm (fun i hi => absurd hi (Nat.not_lt_zero _)) (Nat.zero_le _) (g2.blw hb.1)⟩
            · obtain ⟨S4, e4⟩ := S.take S3 e03 hst (show Ob.blw 0 (.ins c' fs) = true from hb.1)
              refine h _ _ _ S4 e4 _ ?_
              unfold Rep
              exact ⟨by simp, by rw [if_pos rfl, m0]⟩
          · exact h.elim
        · exact h.elim
  · obtain ⟨S2, e2⟩ := S1.push (o := .ins c []) (u := .ins (G.cad c) dx []) hx1 ⟨dx, [], rfl, by unfold RepF; rfl⟩
    refine ⟨F, _, st ++ [.ins c []], .ref st.length :: ws, S2, RepL.cons ?_ ((rz.up e1).up e2), ?_⟩
    · unfold Rep
      exact ⟨by simp, by rw [if_pos rfl]⟩
    · cases q : run (.ref st.length :: ws) (st ++ [.ins c []]) with
      | no => rw [q] at h; exact h.elim
      | exc e st1 => rw [q] at h; exact h.elim
      | ok v st1 =>
        rw [q] at h
        intro F3 m3 H3 S3 e3 z rz3
        dsimp only at h
        split at h
        · rename_i c' fs hst
          unfold Rep at rz3
          subst rz3
          refine ⟨rfl, ?_⟩
          have mx : m3 st.length = x := (e3.mp st.length (by simp)).trans (if_pos rfl)
          have e13 := (e1.trans e2).trans e3
          split at h
          · rename_i hb
            rw [Bool.and_eq_true, Bool.and_eq_true, Bool.and_eq_true] at hb
            obtain ⟨⟨⟨_, hb1⟩, hb2⟩, hb3⟩ := hb
            have hcc := of_decide_eq_true hb2
            subst hcc
            have ht := of_decide_eq_true hb3
            have hkl := (List.getElem?_eq_some_iff.mp hst).1
            obtain ⟨u, g1, g2, g3⟩ := S3.obj _ _ hst
            have g2' := g2
            obtain ⟨dx', vs, rfl, g2⟩ := g2
            have sm : Same F3 (upd F3 (m3 st.length) (.ins (G.cad c') dx' vs)) := same_upd g3
            have S4 : Sim G (upd F3 (m3 st.length) (.ins (G.cad c') dx' vs)) m3 st H3 := by
              refine ⟨fun b o qb => ?_, fun i o qi => ?_, fun i j hi hj => S3.inj i j (by omega) (by omega)⟩
              · by_cases hbb : b = m3 st.length
                · subst hbb; rw [upd_same] at qb; cases qb; exact g1
                · rw [upd_ne hbb] at qb; exact S3.same b o qb
              · have hi := (List.getElem?_eq_some_iff.mp qi).1
                obtain ⟨u', k1, k2, k3⟩ := S3.obj i o (by rw [← ht, List.getElem?_take_of_lt hi] at qi; exact qi)
                obtain ⟨u0, _, k5, _⟩ := S.obj i o qi
                exact ⟨u', k1, (k2.blw k5.isBlw).ext sm (fun _ _ => rfl) (Nat.le_refl _), by rw [upd_ne (fun z => Nat.ne_of_lt hi (S3.inj i st.length (by omega) hkl z))]; exact k3⟩
            have e4 : Ext F m st.length H (upd F3 (m3 st.length) (.ins (G.cad c') dx' vs)) m3 st.length H3 := by
              refine ⟨e13.same.trans sm, e13.mp, Nat.le_refl _, fun a o k1 k0 k2 k3 => ?_, e13.fz⟩
              obtain ⟨q1, q2, q3⟩ := e13.fr a o k1 k0 k2 k3
              exact ⟨q1, by rw [upd_ne (fun z => q3 st.length hkl z.symm)]; exact q2, fun i hi => q3 i (by omega)⟩
            refine h _ _ _ S4 e4 _ ?_
            unfold Rep
            exact ⟨x, dx', vs, rfl, by rw [mx]; exact upd_same, RepF.ext (n := 0) sm (fun i hi => absurd hi (Nat.not_lt_zero _)) (Nat.zero_le _) (g2.blw hb1)⟩
          · refine h F3 m3 H3 S3 e13 _ ?_
            unfold Rep
            exact ⟨(List.getElem?_eq_some_iff.mp hst).1, by rw [mx]⟩
        · exact h.elim
theorem se_make {frz : Bool} {c : Nat} (M : Mk X.K (G.cad c) f) (F : FnOk X.prog X.w X.K X.mg X.base CX0 k f fd ps (spF G run)) (hr : Room (k + 1) X.A) (hg : Gl X x) (hm : X.mg x = some (.ref (G.cad c))) (hb : Binds X.K fd ps ds) (hd : Vals dvs ds) (hrep : ∀ F m n, RepL G F m n dfl dvs)
    (ha : PA X (e :: es) (tA G E0 fs)) (h0 : notStar e = true) (h1 : noStars es = true) (hdb : (x == ("__debug__" : Str)) = false) : PE X (.Call (.Name x p) (e :: es) [] pos) (tE G E0 fun σ st => (fs σ st).bnd fun ws st => makeV frz c run (ws ++ dfl) st) := by
  refine PE.imp (pe_make M F hr hg hm hb hd pass0 ha hdb (starEach_plain h0) (noStars_any h1)) fun σ H Q h => ?_
  obtain ⟨F, m, σe, st, S, rs, h⟩ := h
  exact ⟨F, m, σe, st, S, rs, h.bnd.mono fun ws st1 F1 m1 H1 S1 e1 h1 zs rz => make_t S1 (rz.append (hrep F1 m1 _)) h1⟩
theorem se_make0 {frz : Bool} {c : Nat} (M : Mk X.K (G.cad c) f) (F : FnOk X.prog X.w X.K X.mg X.base CX0 k f fd ps (spF G run)) (hr : Room (k + 1) X.A) (hg : Gl X x) (hm : X.mg x = some (.ref (G.cad c))) (hb : Binds X.K fd ps ds) (hd : Vals dvs ds) (hrep : ∀ F m n, RepL G F m n dfl dvs)
    (hdb : (x == ("__debug__" : Str)) = false) : PE X (.Call (.Name x p) [] [] pos) (tE G E0 fun σ st => makeV frz c run dfl st) := by
  refine PE.imp (pe_make0 M F hr hg hm hb hd pass0 hdb) fun σ H Q h => ?_
  obtain ⟨F, m, σe, st, S, rs, h⟩ := h
  exact make_t S (hrep F m _) h
end
end Mi

/-! Mi, part k3: methods. -/
namespace Mi
open PySem PySem.Spec PyProof.Rows L2
theorem few_ok {es : List Expr} {env : PySem.Env} {pos : Pos} (h : noStars es = true) (hn : es.length < 29) : ((backTo pos (starEach es env)).all (fun x => !x.1) && (backToKw pos (keywordEach [] env)).all (fun x => x.1.isSome) && decide (es.length + ([] : List Keyword).length + (if ([] : List Keyword).isEmpty then 0 else 1) < 30)) = true := by
  have h1 : (backTo pos (starEach es env)).all (fun x => !x.1) = true := by
    have := noStars_any (env := env) (pos := pos) h
    rw [List.all_eq_not_any_not]
    simpa using this
  rw [h1]
  show (true && true && decide (es.length + 0 + 0 < 30)) = true
  simp
  omega
theorem methEval {o : Expr} {m : Str} {apos pos : Pos} {es : List Expr} {env : PySem.Env} (hb : plainBase o = true) (h : noStars es = true) (hn : es.length < 29) (hl : (apos.endLine == pos.line) = true) :
    ∃ pl : Sem Bool, eval (.Call (.Attribute o m apos) es [] pos) env = (do
      let ov ← eval o env
      standAt apos.atName
      let (f, first) ← holding [ov] (getMethod ov m pl)
      callWith pos f first (backTo pos (starEach es env)) (backToKw pos (keywordEach [] env))) := by
  have hf : methodCallForm (es.length + ([] : List Keyword).length) (backTo pos (starEach es env)) (backToKw pos (keywordEach [] env)) = true := few_ok h hn
  refine ⟨do return (← importBound o env).getD true, ?_⟩
  rw [arm_eval_Call, attrBase hb]
  have e1 : ∀ ov, methodCall o m apos pos env ov (es.length + ([] : List Keyword).length) (backTo pos (starEach es env)) (backToKw pos (keywordEach [] env)) = (do
      let (f, first) ← holding [ov] (getMethod ov m (do return (← importBound o env).getD true))
      callWith pos f first (backTo pos (starEach es env)) (backToKw pos (keywordEach [] env))) := fun ov => by
    unfold methodCall
    rw [hf]
    unfold methodCallPos calleeOf
    simp only [hl, Bool.not_true, Bool.false_or, if_true]
    rfl
  simp only [e1]
section
variable {X : Cx} {G : Gm} {d k : Nat} {f C : Addr} {fd : FuncData} {ps : List Str} {run : List Val → Store → Res Val} {dfl : List Val} {dvs : List V} {ds : List Value} {mth : Str} {p pos apos : Pos} {e o : Expr} {es : List Expr} {fs : Env → Store → Res (List Val)} {fo : Env → Store → Res Val}
/-- o.m(..), o of the class with number c -/
def methV (c : Nat) (mth : Str) (ev : Store → Res (List Val)) (run : List Val → Store → Res Val) : Val → Store → Res Val := fun v st => match fldsOf st v with
  | some (c', fl) => if c' = c ∧ fl.lookup mth = none then (ev st).bnd fun ws st => run (v :: ws) st else .no
  | none => .no
theorem meth_t {σ : L2.St} {H : Hp} {Q : VK} {c : Nat} (hrep : ∀ F m n, RepL G F m n dfl dvs) (h : tE G E0 (fun σ st => (fo σ st).bnd (methV c mth (fs σ) (fun ws st => run (ws ++ dfl) st))) σ H Q) : tMeth (G.cad c) mth (spF G run) dvs E0 (tE G E0 fo) (tA G E0 fs) σ H Q := by
  obtain ⟨F, m, σe, st, S, rs, h⟩ := h
  refine ⟨F, m, σe, st, S, rs, h.bnd.mono fun v st1 F1 m1 H1 S1 e1 h1 x rx => ?_⟩
  unfold methV at h1
  split at h1
  · rename_i c' fl hf
    split at h1
    · rename_i hc
      obtain ⟨rfl, hlk⟩ := hc
      obtain ⟨a, dx, vs, rfl, g1, g2⟩ := S1.flds rx hf
      rcases g2.look mth with ⟨q1, q2⟩ | ⟨w, y, q1, _⟩
      · refine ⟨a, dx, vs, rfl, g1, q2, F1, m1, σe, st1, S1, rs.up e1, h1.bnd.mono fun ws st2 F2 m2 H2 S2 e2 h2 zs rz => ?_⟩
        exact ⟨F2, m2, st2, v :: ws ++ dfl, S2, RepL.cons (rx.up e2) (rz.append (hrep F2 m2 _)), h2⟩
      · rw [hlk] at q1; cases q1
    · exact h1.elim
  · exact h1.elim
theorem se_meth {c : Nat} (he : PE X o (tE G E0 fo)) (hc : Cls X.K (G.cad c)) (hm : Meth X.K (G.cad c) mth f) (F : FnOk X.prog X.w X.K X.mg X.base CX0 k f fd ps (spF G run)) (hr : Room k X.A) (hb : Binds X.K fd ps ds) (hd : Vals dvs ds) (hrep : ∀ F m n, RepL G F m n dfl dvs)
    (ha : PA X (e :: es) (tA G E0 fs)) (h0 : notStar e = true) (h1 : noStars es = true) (hn : es.length < 28) (hp : plainBase o = true) (hl : (apos.endLine == pos.line) = true) :
    PE X (.Call (.Attribute o mth apos) (e :: es) [] pos) (tE G E0 fun σ st => (fo σ st).bnd (methV c mth (fs σ) (fun ws st => run (ws ++ dfl) st))) := by
  obtain ⟨pl, ht⟩ := methEval (env := X.env) (m := mth) (es := e :: es) hp (by unfold noStars; rw [List.all_cons, h0]; exact h1) (by rw [List.length_cons]; omega) hl
  exact PE.imp (pe_meth (pl := pl) he hc hm F hr hb hd pass0 ha (starEach_plain h0) (noStars_any h1) ht) fun σ H Q h => meth_t hrep h
theorem se_meth0 {c : Nat} (he : PE X o (tE G E0 fo)) (hc : Cls X.K (G.cad c)) (hm : Meth X.K (G.cad c) mth f) (F : FnOk X.prog X.w X.K X.mg X.base CX0 k f fd ps (spF G run)) (hr : Room k X.A) (hb : Binds X.K fd ps ds) (hd : Vals dvs ds) (hrep : ∀ F m n, RepL G F m n dfl dvs)
    (hp : plainBase o = true) (hl : (apos.endLine == pos.line) = true) :
    PE X (.Call (.Attribute o mth apos) [] [] pos) (tE G E0 fun σ st => (fo σ st).bnd (methV c mth (fun st => .ok [] st) (fun ws st => run (ws ++ dfl) st))) := by
  obtain ⟨pl, ht⟩ := methEval (env := X.env) (m := mth) (es := []) hp rfl (by decide) hl
  refine PE.imp (pe_meth0 (pl := pl) he hc hm F hr hb hd pass0 ht) fun σ H Q h => ?_
  have := meth_t (fs := fun _ st => .ok [] st) hrep h
  obtain ⟨F, m, σe, st, S, rs, h⟩ := this
  refine ⟨F, m, σe, st, S, rs, h.mono fun v st1 F1 m1 H1 S1 e1 h1 x rx => ?_⟩
  obtain ⟨a, dx, vs, rfl, g1, q2, F2, m2, σe2, st2, S2, rs2, h2⟩ := h1 x rx
  exact ⟨a, dx, vs, rfl, g1, q2, h2 F2 m2 _ S2 Ext.refl _ RepL.nil⟩
end
end Mi

/-! Mi, part k4: assignments. -/
namespace Mi
open PySem PySem.Spec PyProof.Rows L2
def notComp : Expr → Bool
  | .ListComp _ _ _ _ => false
  | .SetComp _ _ _ _ => false
  | .DictComp _ _ _ _ _ => false
  | _ => true
theorem swaps_no {v : Expr} {t : Option Expr} {l : Nat} {env : PySem.Env} (h : notComp v = true) : swapsWith v t l env = pure false := by
  cases v <;> first | rfl | cases h
theorem swaps_sub {v o i : Expr} {p : Pos} {l : Nat} {env : PySem.Env} : swapsWith v (some (.Subscript o i p)) l env = pure false := by cases v <;> rfl
theorem swaps_attr {v o : Expr} {f : Str} {p : Pos} {l : Nat} {env : PySem.Env} : swapsWith v (some (.Attribute o f p)) l env = pure false := by cases v <;> rfl
theorem swaps_tup {v : Expr} {es : List Expr} {k : Nat} {p : Pos} {l : Nat} {env : PySem.Env} : swapsWith v (some (.Tuple es k p)) l env = pure false := by cases v <;> rfl
def asgS (tg : Tg) (σ : Env) : Val → Store → Res (Fw × Env) := fun v st => match asg tg v σ st with | some σ' => .ok (.nx, σ') st | none => .no
section
variable {X : Cx} {G : Gm} {E : XK} {d : Nat} {a b c : Expr} {pos p2 : Pos} {fa fb fc : Env → Store → Res Val} {fs : Env → Store → Res (List Val)}
theorem s_set {i : Nat} {x : Str} (hN : X.N.Nodup) (hi : X.N[i]? = some x) (hx : Loc X.env.scope x) (hf : X.fn x = true ∨ X.env.scope.names.lookup x = some .local) (ha : PE X a (tE G E fa)) (hs : swapsWith a (some (.Name x p2)) pos.line X.env = pure false) :
    PS X (.Assign [.Name x p2] a pos) (tS G E fun σ st => (fa σ st).bnd (asgS (.nm i) σ)) := by
  refine PS.imp (ps_set hN hi hx ha hs hf) fun D σ H h => ?_
  obtain ⟨F, m, σe, st, S, rs, h⟩ := h
  refine ⟨F, m, σe, st, S, rs, h.bnd.mono fun v st1 F1 m1 H1 S1 e1 h1 y ry => ?_⟩
  unfold asgS at h1
  unfold asg at h1
  split at h1
  · rename_i σ' ha
    split at ha
    · cases ha
      exact h1 F1 m1 H1 S1 Ext.refl _ ((rs.up e1).set ry)
    · cases ha
  · exact h1.elim
/-- a tuple target, by way of a tuple -/
theorem s_tup {tg : Expr} {g : Tg} (h0 : notStar tg = true) (ha : PE X a (tE G E fa)) (hg : PG X tg (tG G g)) (hs : swapsWithSole [tg] a pos.line X.env = pure false) (hw : swappedStores [tg] a X.env = pure none) :
    PS X (.Assign [tg] a pos) (tS G E fun σ st => (fa σ st).bnd (asgS g σ)) := by
  refine PS.imp (ps_asg ha hg hs hw (by rw [assignEach_plain h0]; rfl)) fun D σ H h => ?_
  obtain ⟨F, m, σe, st, S, rs, h⟩ := h
  refine ⟨F, m, σe, st, S, rs, h.bnd.mono fun v st1 F1 m1 H1 S1 e1 h1 y ry => ?_⟩
  unfold asgS at h1
  split at h1
  · rename_i σ' ha
    exact ⟨F1, m1, st1, σe, v, σ', S1, rs.up e1, ry, ha, fun σ2 rs2 _ => h1 F1 m1 H1 S1 Ext.refl σ2 rs2⟩
  · exact h1.elim
def par2 (i j : Nat) (σ : Env) : List Val → Store → Res (Fw × Env) := fun vs st => match vs with
  | [v, w] => if i < σ.length ∧ j < σ.length then .ok (.nx, (σ.set i (some v)).set j (some w)) st else .no
  | _ => .no
def par3 (i j l : Nat) (σ : Env) : List Val → Store → Res (Fw × Env) := fun vs st => match vs with
  | [v, w, u] => if i < σ.length ∧ j < σ.length ∧ l < σ.length then .ok (.nx, ((σ.set i (some v)).set j (some w)).set l (some u)) st else .no
  | _ => .no
theorem s_par {i j : Nat} {x y : Str} {px py pt : Pos} {kt k2 pt2} (hc : X.calm = true) (hN : X.N.Nodup) (hi : X.N[i]? = some x) (hj : X.N[j]? = some y) (hij : i ≠ j)
    (hx : X.env.scope.names.lookup x = some .local) (hy : X.env.scope.names.lookup y = some .local) (ha : PA X [a, b] (tA G E fs))
    (hw : swappedStores [.Tuple [.Name x px, .Name y py] kt pt] (.Tuple [a, b] k2 pt2) X.env = pure (some [x, y])) :
    PS X (.Assign [.Tuple [.Name x px, .Name y py] kt pt] (.Tuple [a, b] k2 pt2) pos) (tS G E fun σ st => (fs σ st).bnd (par2 i j σ)) := by
  refine PS.imp (ps_par hc hN hi hj hij hx hy ha hw rfl) fun D σ H h => ?_
  obtain ⟨F, m, σe, st, S, rs, h⟩ := h
  refine ⟨F, m, σe, st, S, rs, h.bnd.mono fun vs st1 F1 m1 H1 S1 e1 h1 zs rz => ?_⟩
  unfold par2 at h1
  split at h1
  · split at h1
    · obtain ⟨z, y, rfl, r1, r2⟩ := repL2 rz
      exact ⟨z, y, rfl, h1 F1 m1 H1 S1 Ext.refl _ (((rs.up e1).set r1).set r2)⟩
    · exact h1.elim
  · exact h1.elim
theorem repL3 {F : Hp} {m : Nat → Addr} {n : Nat} {v u w : Val} {zs : List V} (h : RepL G F m n [v, u, w] zs) : ∃ z y x, zs = [z, y, x] ∧ Rep G F m n v z ∧ Rep G F m n u y ∧ Rep G F m n w x := by
  unfold RepL at h
  obtain ⟨y, ys, rfl, h1, h2⟩ := h
  obtain ⟨z, x, rfl, h3, h4⟩ := repL2 h2
  exact ⟨y, z, x, rfl, h1, h3, h4⟩
theorem s_par3 {i j l : Nat} {x y z : Str} {px py pz pt : Pos} {kt k2 pt2} (hc : X.calm = true) (hN : X.N.Nodup) (hi : X.N[i]? = some x) (hj : X.N[j]? = some y) (hl : X.N[l]? = some z) (hij : i ≠ j) (hil : i ≠ l) (hjl : j ≠ l)
    (hx : X.env.scope.names.lookup x = some .local) (hy : X.env.scope.names.lookup y = some .local) (hz : X.env.scope.names.lookup z = some .local) (ha : PA X [a, b, c] (tA G E fs))
    (hw : swappedStores [.Tuple [.Name x px, .Name y py, .Name z pz] kt pt] (.Tuple [a, b, c] k2 pt2) X.env = pure (some [x, y, z])) :
    PS X (.Assign [.Tuple [.Name x px, .Name y py, .Name z pz] kt pt] (.Tuple [a, b, c] k2 pt2) pos) (tS G E fun σ st => (fs σ st).bnd (par3 i j l σ)) := by
  refine PS.imp (ps_par3 hc hN hi hj hl hij hil hjl hx hy hz ha hw rfl) fun D σ H h => ?_
  obtain ⟨F, m, σe, st, S, rs, h⟩ := h
  refine ⟨F, m, σe, st, S, rs, h.bnd.mono fun vs st1 F1 m1 H1 S1 e1 h1 zs rz => ?_⟩
  unfold par3 at h1
  split at h1
  · split at h1
    · obtain ⟨z, y, x, rfl, r1, r2, r3⟩ := repL3 rz
      exact ⟨z, y, x, rfl, h1 F1 m1 H1 S1 Ext.refl _ ((((rs.up e1).set r1).set r2).set r3)⟩
    · exact h1.elim
  · exact h1.elim
/-! ### fields -/
def fput (fs : List (Str × Val)) (f : Str) (v : Val) : List (Str × Val) := match fs with
  | [] => [(f, v)]
  | (g, u) :: r => if g = f then (g, v) :: r else (g, u) :: fput r f v
theorem RepF.put {F : Hp} {m : Nat → Addr} {n : Nat} {f : Str} {v : Val} {y : V} (ry : Rep G F m n v y) : ∀ {fs : List (Str × Val)} {vs : List (Str × V)}, RepF G F m n fs vs → RepF G F m n (fput fs f v) (putF f y vs)
  | [], _, h => by
    unfold RepF at h
    subst h
    unfold fput putF RepF
    exact ⟨y, [], rfl, ry, by unfold RepF; rfl⟩
  | (g, u) :: r, _, h => by
    unfold RepF at h
    obtain ⟨z, zs, rfl, h1, h2⟩ := h
    unfold fput putF
    by_cases e : g = f
    · rw [if_pos e, if_pos e]
      unfold RepF
      exact ⟨y, zs, rfl, ry, h2⟩
    · rw [if_neg e, if_neg e]
      unfold RepF
      exact ⟨z, _, rfl, h1, RepF.put ry h2⟩
theorem RepF.length {F : Hp} {m : Nat → Addr} {n : Nat} : ∀ {fs : List (Str × Val)} {vs : List (Str × V)}, RepF G F m n fs vs → fs.length = vs.length
  | [], _, h => by unfold RepF at h; subst h; rfl
  | (g, u) :: r, _, h => by
    unfold RepF at h
    obtain ⟨z, zs, rfl, h1, h2⟩ := h
    rw [List.length_cons, List.length_cons, h2.length]
def setAV (ok : Nat → Str → Bool) (f : Str) (v : Val) : Val → Store → Res Unit := fun o st => match o with
  | .ref i => match st[i]? with
    | some (.ins c fs) => if ok c f && decide (fs.length < 900) then .ok () (st.set i (.ins c (fput fs f v))) else .no
    | _ => .no
  | _ => .no
theorem s_attr {ok : Nat → Str → Bool} {fl : Str} (hc : ∀ c, ok c fl = true → Cls X.K (G.cad c) ∧ NoAttr X.K (G.cad c) fl) (ho : PE X a (tE G E fa)) (hv : PE X b (tE G E fb)) :
    PS X (.Assign [.Attribute a fl p2] b pos) (tS G E fun σ st => (fb σ st).bnd fun v st => (fa σ st).bnd fun o st => (setAV ok fl v o st).bnd fun _ st => .ok (.nx, σ) st) := by
  refine PS.imp (ps_fld ho hv swaps_attr) fun D σ H h => ?_
  obtain ⟨F, m, σe, st, S, rs, h⟩ := h
  refine ⟨F, m, σe, st, S, rs, h.bnd.mono fun v st1 F1 m1 H1 S1 e1 h1 y ry => ?_⟩
  refine ⟨F1, m1, σe, st1, S1, rs.up e1, h1.bnd.mono fun o st2 F2 m2 H2 S2 e2 h2 x rx => ?_⟩
  unfold setAV at h2
  split at h2
  · rename_i i
    split at h2
    · rename_i c fs hst
      split at h2
      · rename_i hk
        rw [Bool.and_eq_true] at hk
        obtain ⟨hc1, hc2⟩ := hc c hk.1
        have hil := (List.getElem?_eq_some_iff.mp hst).1
        unfold Rep at rx
        obtain ⟨_, rfl⟩ := rx
        obtain ⟨u, g1, ⟨dx, vs, rfl, g2⟩, g3⟩ := S2.obj i _ hst
        have hlen : vs.length < 1000 := by rw [← g2.length]; have := of_decide_eq_true hk.2; omega
        refine ⟨m2 i, G.cad c, dx, vs, rfl, g1, hc1, hc2, hlen, ?_⟩
        obtain ⟨S3, e3⟩ := S2.set (i := i) (o := .ins c (fput fs fl v)) (u := .ins (G.cad c) dx (putF fl y vs)) hil (fun kvs e => by rw [hst] at e; cases e) ⟨dx, _, rfl, g2.put (ry.up e2)⟩
        exact h2 F2 m2 _ S3 e3 σ ((rs.up (e1.trans e2)).up e3)
      · exact h2.elim
    · exact h2.elim
  · exact h2.elim
/-! ### x op= e -/
theorem s_aug {i : Nat} {x : Str} {op : Operator} {g : Val → Val → Store → Res Val} (hN : X.N.Nodup) (hi : X.N[i]? = some x) (hx : Loc X.env.scope x) (hf : X.fn x = true ∨ X.env.scope.names.lookup x = some .local) (ha : PE X a (tE G E fa)) (ho : PIp X op (rV2 G E g)) :
    PS X (.AugAssign (.Name x p2) op a pos) (tS G E fun σ st => match σ[i]? with | some (some v) => (fa σ st).bnd fun y st => (g v y st).bnd (asgS (.nm i) σ) | _ => .no) := by
  refine PS.imp (ps_aug hN hi hx ha ho hf) fun D σ H h => ?_
  obtain ⟨F, m, σe, st, S, rs, h⟩ := h
  dsimp only at h
  split at h
  · rename_i v hv
    obtain ⟨z, hz, rz⟩ := rs.2 i v hv
    refine ⟨z, hz, F, m, σe, st, S, rs, h.bnd.mono fun y st1 F1 m1 H1 S1 e1 h1 w rw' => ?_⟩
    refine ⟨F1, m1, st1, v, y, S1, rz.up e1, rw', h1.bnd.mono fun u st2 F2 m2 H2 S2 e2 h2 t rt => ?_⟩
    unfold asgS asg at h2
    split at h2
    · rename_i σ' ha
      split at ha
      · cases ha
        exact h2 F2 m2 H2 S2 Ext.refl _ ((rs.up (e1.trans e2)).set rt)
      · cases ha
    · exact h2.elim
  · exact h.elim
end
end Mi

/-! Mi, part k5: built-in functions. -/
namespace Mi
open PySem PySem.Spec PyProof.Rows L2
section
variable {X : Cx} {G : Gm} {E : XK} {d : Nat} {e : Expr} {es : List Expr} {p pos : Pos} {x : Str} {fs : Env → Store → Res (List Val)}
theorem se_callB {id : String} {g : List Val → Store → Res Val} (hc : CallR X (.builtin id) (rVL G E g)) (hg : Gl X x) (hm : X.mg x = none) (hv : bootBuiltins x = some (.builtin id)) (ha : PA X (e :: es) (tA G E fs)) (hn : x ≠ "__name__") (hdb : (x == ("__debug__" : Str)) = false) (h0 : notStar e = true) (h1 : noStars es = true) :
    PE X (.Call (.Name x p) (e :: es) [] pos) (tE G E fun σ st => (fs σ st).bnd g) := by
  refine PE.imp (pe_callB hc hg hm hv ha hn hdb (starEach_plain h0) (noStars_any h1)) fun σ H Q h => ?_
  obtain ⟨F, m, σe, st, S, rs, h⟩ := h
  exact ⟨F, m, σe, st, S, rs, h.bnd.mono fun ws st1 F1 m1 H1 S1 e1 h1 zs rz => ⟨F1, m1, st1, ws, S1, rz, h1⟩⟩
theorem se_callTy {T : String} {g : List Val → Store → Res Val} (hc : CallR X (.type T) (rVL G E g)) (hg : Gl X x) (hm : X.mg x = none) (hv : bootBuiltins x = some (.type T)) (ha : PA X (e :: es) (tA G E fs)) (hn : x ≠ "__name__") (hdb : (x == ("__debug__" : Str)) = false) (h0 : notStar e = true) (h1 : noStars es = true) :
    PE X (.Call (.Name x p) (e :: es) [] pos) (tE G E fun σ st => (fs σ st).bnd g) := by
  refine PE.imp (pe_callTy hc hg hm hv ha hn hdb (starEach_plain h0) (noStars_any h1)) fun σ H Q h => ?_
  obtain ⟨F, m, σe, st, S, rs, h⟩ := h
  exact ⟨F, m, σe, st, S, rs, h.bnd.mono fun ws st1 F1 m1 H1 S1 e1 h1 zs rz => ⟨F1, m1, st1, ws, S1, rz, h1⟩⟩
/-! ### len -/
def lenV : List Val → Store → Res Val := fun vs st => match vs with
  | [v] => match v with
    | .str x => if x.length ≤ lim then .ok (.int x.length) st else .no
    | v => match seqOf st v with
      | some xs => .ok (.int xs.length) st
      | none => match dicOf st v with
        | some (kvs, false) => .ok (.int kvs.length) st
        | some (kvs, true) => .no
        | none => .no
  | _ => .no
theorem len_ok (cx : CxR X G d) : CallR X (.builtin "len") (rVL G E lenV) := by
  intro pins s σ H xs us Q I r h
  obtain ⟨F, m, st, vs, S, rv, h⟩ := h
  unfold lenV at h
  split at h
  · rename_i v
    obtain ⟨z, rfl, rz⟩ := repL1 rv
    have sq : ∀ xs, seqOf st v = some xs → Q (.int xs.length) H → wpAny (model X.prog X.w) X.A (call (.builtin "len") us) (EP X pins σ Q) X.xe s := by
      intro xs hx q
      obtain ⟨a, ys, rfl, sq, rl⟩ := S.seq rz hx
      rw [← cx.K] at sq
      exact call_len_seq pins s σ H _ us Q I r ⟨a, ys, rfl, sq, by rw [← rl.length]; exact q⟩
    have dc : ∀ kvs, dicOf st v = some (kvs, false) → Q (.int kvs.length) H → wpAny (model X.prog X.w) X.A (call (.builtin "len") us) (EP X pins σ Q) X.xe s := by
      intro kvs hx q
      obtain ⟨i, u, rfl, hi, hil, rfl, g1, g2, g3⟩ := S.dict rz hx
      rcases g2 with ⟨ks, rfl, rk⟩ | ⟨ks, rfl, rk⟩
      · exact call_lenD pins s σ H _ us Q I r ⟨m i, ks, rfl, g1, by rw [← repDK_len rk]; exact q⟩
      · exact call_len_dT pins s σ H _ us Q I r ⟨m i, ks, rfl, g1, by rw [← repDT_len rk]; exact q⟩
    split at h
    · rename_i z
      unfold Rep at rz; subst rz
      split at h
      · rename_i hl
        exact call_len_str pins s σ H _ us Q I r ⟨z, rfl, lim_le hl, h.here S _ rep_int⟩
      · exact h.elim
    · split at h
      · rename_i ys hx
        exact sq ys hx (h.here S _ rep_int)
      · split at h
        · rename_i kvs hx
          exact dc kvs hx (h.here S _ rep_int)
        · exact h.elim
        · exact h.elim
  · exact h.elim

/-! ### lists of one kind -/
def asB : Val → Option Bool
  | .bl b => some b
  | _ => none
def asI : Val → Option Int
  | .int i => some i
  | _ => none
def asS : Val → Option Str
  | .str x => some x
  | _ => none
theorem mapO_rep {α : Type} {F : Hp} {m : Nat → Addr} {n : Nat} {f : Val → Option α} {k : α → V} (hf : ∀ v x a, Rep G F m n v x → f v = some a → x = k a) : ∀ {xs : List Val} {vs : List V} {as : List α}, RepL G F m n xs vs → mapO f xs = some as → vs = as.map k
  | [], _, as, r, h => by unfold RepL at r; subst r; cases h; rfl
  | x :: xs, _, as, r, h => by
    unfold RepL at r
    obtain ⟨y, ys, rfl, r1, r2⟩ := r
    unfold mapO at h
    cases q1 : f x with
    | none => simp [q1] at h
    | some a =>
      cases q2 : mapO f xs with
      | none => simp [q1, q2] at h
      | some bs =>
        simp [q1, q2] at h
        subst h
        rw [List.map_cons, hf x y a r1 q1, ← mapO_rep hf r2 q2]
theorem asB_rep {F : Hp} {m : Nat → Addr} {n : Nat} (v : Val) (x : V) (a : Bool) (r : Rep G F m n v x) (h : asB v = some a) : x = .bl a := by
  cases v <;> simp [asB] at h
  subst h; unfold Rep at r; exact r
theorem asI_rep {F : Hp} {m : Nat → Addr} {n : Nat} (v : Val) (x : V) (a : Int) (r : Rep G F m n v x) (h : asI v = some a) : x = .int a := by
  cases v <;> simp [asI] at h
  subst h; unfold Rep at r; exact r
theorem asS_rep {F : Hp} {m : Nat → Addr} {n : Nat} (v : Val) (x : V) (a : Str) (r : Rep G F m n v x) (h : asS v = some a) : x = .str a := by
  cases v <;> simp [asS] at h
  subst h; unfold Rep at r; exact r
/-- a list of one kind, handed to a built-in -/
def onL {α : Type} (f : Val → Option α) (g : List α → Store → Res Val) : List Val → Store → Res Val := fun vs st => match vs with
  | [v] => match lstOf st v with
    | some xs => match mapO f xs with
      | some as => g as st
      | none => .no
    | none => .no
  | _ => .no
theorem onL_ok {α : Type} {f : Val → Option α} {g : List α → Store → Res Val} {k : α → V} {F : Hp} {m : Nat → Addr} {st : Store} {H : Hp} {vs : List Val} {zs : List V} {Q : VK} (hf : ∀ n v x a, Rep G F m n v x → f v = some a → x = k a) (S : Sim G F m st H) (rv : RepL G F m st.length vs zs) (h : After G E F m st.length H (onL f g vs st) (KV G Q)) :
    ∃ a as xs, zs = [.ref a] ∧ SqL G.K H a (as.map k) ∧ RepL G F m st.length xs (as.map k) ∧ mapO f xs = some as ∧ After G E F m st.length H (g as st) (KV G Q) := by
  unfold onL at h
  split at h
  · rename_i v
    split at h
    · rename_i xs hx
      split at h
      · rename_i as ha
        obtain ⟨z, rfl, rz⟩ := repL1 rv
        obtain ⟨p, ys, rfl, sq, rl⟩ := S.list rz hx
        have := mapO_rep (hf st.length) rl ha
        subst this
        exact ⟨p, as, xs, rfl, sq, rl, ha, h⟩
      · exact h.elim
    · exact h.elim
  · exact h.elim
def anyV : List Val → Store → Res Val := onL asB fun bs st => .ok (.bl (bs.any id)) st
def allV : List Val → Store → Res Val := onL asB fun bs st => .ok (.bl (bs.all id)) st
def sumV : List Val → Store → Res Val := onL asI fun bs st => .ok (.int bs.sum) st
theorem any_ok (cx : CxR X G d) : CallR X (.builtin "any") (rVL G E anyV) := by
  intro pins s σ H xs us Q I r h
  obtain ⟨F, m, st, vs, S, rv, h⟩ := h
  obtain ⟨a, as, _, rfl, sq, _, _, h⟩ := onL_ok (k := V.bl) (fun n => asB_rep) S rv h
  rw [← cx.K] at sq
  exact cr_any cx.calm pins s σ H _ us Q I r ⟨a, as, rfl, sq, h.here S _ rep_bl⟩
theorem all_ok (cx : CxR X G d) : CallR X (.builtin "all") (rVL G E allV) := by
  intro pins s σ H xs us Q I r h
  obtain ⟨F, m, st, vs, S, rv, h⟩ := h
  obtain ⟨a, as, _, rfl, sq, _, _, h⟩ := onL_ok (k := V.bl) (fun n => asB_rep) S rv h
  rw [← cx.K] at sq
  exact cr_all cx.calm pins s σ H _ us Q I r ⟨a, as, rfl, sq, h.here S _ rep_bl⟩
theorem sum_ok (cx : CxR X G d) : CallR X (.builtin "sum") (rVL G E sumV) := by
  intro pins s σ H xs us Q I r h
  obtain ⟨F, m, st, vs, S, rv, h⟩ := h
  obtain ⟨a, as, _, rfl, sq, _, _, h⟩ := onL_ok (k := V.int) (fun n => asI_rep) S rv h
  rw [← cx.K] at sq
  exact cr_sum cx.calm pins s σ H _ us Q I r ⟨a, as, rfl, sq, h.here S _ rep_int⟩
theorem repL_strs {F : Hp} {m : Nat → Addr} {n : Nat} : ∀ ys : List Str, RepL G F m n (ys.map .str) (ys.map .str)
  | [] => RepL.nil
  | y :: ys => RepL.cons rep_str (repL_strs ys)
theorem repL_ints {F : Hp} {m : Nat → Addr} {n : Nat} : ∀ ys : List Int, RepL G F m n (ys.map .int) (ys.map .int)
  | [] => RepL.nil
  | y :: ys => RepL.cons rep_int (repL_ints ys)
def sortSV (mt : Bool) : List Val → Store → Res Val := onL asS fun xs st => newL mt ((isort ltS xs).map .str) st
theorem sortS_ok (cx : CxR X G d) {mt : Bool} : CallR X (.builtin "sorted") (rVL G E (sortSV mt)) := by
  intro pins s σ H xs us Q I r h
  obtain ⟨F, m, st, vs, S, rv, h⟩ := h
  obtain ⟨a, as, _, rfl, sq, _, _, h⟩ := onL_ok (k := V.str) (fun n => asS_rep) S rv h
  rw [← cx.K] at sq
  obtain ⟨its, rvs, hl, hz⟩ := I.list sq
  rw [Vals.ref1 r]
  have hlen0 := rvs.length
  refine PyProof.Rows.sorted_strsAny hl.isList rvs.strs (by rw [← hlen0]; exact hz) fun out ys h1 h2 h3 => ?_
  obtain ⟨ep, he'⟩ := PyProof.Rows.sortedAll_at s.heap its out
  have hlen : (ys.map V.str).length ≤ sizeLine := by
    rw [List.length_map] at hz
    rw [List.length_map, h2.length_eq]
    exact hz
  refine ⟨.ref _, upd H (s.heap.objs.size + 1) (.lst (ys.map V.str)), I.laid (t' := s.toks) (fun _ _ => PyProof.Rows.sortedAll_old) (Nat.le_succ _) ⟨hlen, out.toList, ep, vals_of_strs h1, he'⟩, rfl, ?_⟩
  rw [sorted_unique h2 h3]
  exact fin_newL S (repL_strs _) (I.hok.fresh (Nat.le_succ _)) h
/-! ### tuple, list, str, int, abs, max, min -/
def tupleV : List Val → Store → Res Val := fun vs st => match vs with
  | [.tup xs] => .ok (.tup xs) st
  | [.wt xs] => .ok (.wt xs) st
  | [v] => match lstOf st v with | some xs => .ok (.tup xs) st | none => .no
  | _ => .no
theorem tuple_ok (cx : CxR X G d) : CallR X (.type "tuple") (rVL G E tupleV) := by
  intro pins s σ H xs us Q I r h
  obtain ⟨F, m, st, vs, S, rv, h⟩ := h
  unfold tupleV at h
  split at h
  · obtain ⟨z, rfl, rz⟩ := repL1 rv
    unfold Rep at rz
    obtain ⟨a, ys, rfl, h1, h2⟩ := rz
    refine call_tuple_of pins s σ H _ us Q I r ⟨a, ys, rfl, .inr ⟨.inl (.inl (S.same _ _ h1)), h.here S _ ?_⟩⟩
    unfold Rep
    exact ⟨a, ys, rfl, h1, h2⟩
  · obtain ⟨z, rfl, rz⟩ := repL1 rv
    have rz' := rz
    unfold Rep at rz
    obtain ⟨a, ys, rfl, h1, h2⟩ := rz
    exact call_tuple_of pins s σ H _ us Q I r ⟨a, ys, rfl, .inr ⟨cx.K ▸ Same.sqT S.same h1, h.here S _ rz'⟩⟩
  · split at h
    · rename_i ys hx
      obtain ⟨z, rfl, rz⟩ := repL1 rv
      obtain ⟨a, zs, rfl, sq, rl⟩ := S.list rz hx
      rw [← cx.K] at sq
      exact call_tuple_of pins s σ H _ us Q I r ⟨a, zs, rfl, .inl ⟨sq, fun p hp => fin_tup S rl hp h⟩⟩
    · exact h.elim
  · exact h.elim
def listV (mt : Bool) : List Val → Store → Res Val := fun vs st => match vs with
  | [v] => match seqOf st v with | some xs => newL mt xs st | none => .no
  | _ => .no
theorem list_ok (cx : CxR X G d) {mt : Bool} : CallR X (.type "list") (rVL G E (listV mt)) := by
  intro pins s σ H xs us Q I r h
  obtain ⟨F, m, st, vs, S, rv, h⟩ := h
  unfold listV at h
  split at h
  · split at h
    · rename_i ys hx
      obtain ⟨z, rfl, rz⟩ := repL1 rv
      obtain ⟨a, zs, rfl, sq, rl⟩ := S.seq rz hx
      rw [← cx.K] at sq
      exact call_list_of pins s σ H _ us Q I r ⟨a, zs, rfl, sq, fun p hp => fin_newL S rl hp h⟩
    · exact h.elim
  · exact h.elim
def strV : List Val → Store → Res Val := fun vs st => match vs with
  | [.str x] => .ok (.str x) st
  | [.int i] => if i.natAbs.log2 < 1920 then .ok (.str (toString i)) st else .no
  | _ => .no
theorem str_ok : CallR X (.type "str") (rVL G E strV) := by
  intro pins s σ H xs us Q I r h
  obtain ⟨F, m, st, vs, S, rv, h⟩ := h
  unfold strV at h
  split at h
  · obtain ⟨z, rfl, rz⟩ := repL1 rv
    unfold Rep at rz; subst rz
    exact SkE.call_str_str pins s σ H _ us Q I r ⟨_, rfl, h.here S _ rep_str⟩
  · obtain ⟨z, rfl, rz⟩ := repL1 rv
    unfold Rep at rz; subst rz
    split at h
    · rename_i hl
      exact call_str_int pins s σ H _ us Q I r ⟨_, rfl, hl, h.here S _ rep_str⟩
    · exact h.elim
  · exact h.elim
def intV1 : List Val → Store → Res Val := fun vs st => match vs with
  | [.int i] => .ok (.int i) st
  | [.bl b] => .ok (.int (if b then 1 else 0)) st
  | [.str x] => if x.length ≤ 640 then (match PySem.intText? x with | some n => .ok (.int n) st | none => .no) else .no
  | _ => .no
theorem int_ok : CallR X (.type "int") (rVL G E intV1) := by
  intro pins s σ H xs us Q I r h
  obtain ⟨F, m, st, vs, S, rv, h⟩ := h
  unfold intV1 at h
  split at h
  · obtain ⟨z, rfl, rz⟩ := repL1 rv
    unfold Rep at rz; subst rz
    exact call_int1 pins s σ H _ us Q I r (.inl ⟨_, rfl, h.here S _ rep_int⟩)
  · obtain ⟨z, rfl, rz⟩ := repL1 rv
    unfold Rep at rz; subst rz
    exact call_int1 pins s σ H _ us Q I r (.inr ⟨_, rfl, h.here S _ rep_int⟩)
  · obtain ⟨z, rfl, rz⟩ := repL1 rv
    unfold Rep at rz; subst rz
    split at h
    · rename_i hl
      split at h
      · rename_i n hn
        exact call_int_str pins s σ H _ us Q I r ⟨_, n, rfl, hn, hl, h.here S _ rep_int⟩
      · exact h.elim
    · exact h.elim
  · exact h.elim
def absV : List Val → Store → Res Val := fun vs st => match vs with
  | [.int i] => .ok (.int (if i < 0 then -i else i)) st
  | _ => .no
theorem abs_ok : CallR X (.builtin "abs") (rVL G E absV) := by
  intro pins s σ H xs us Q I r h
  obtain ⟨F, m, st, vs, S, rv, h⟩ := h
  unfold absV at h
  split at h
  · obtain ⟨z, rfl, rz⟩ := repL1 rv
    unfold Rep at rz; subst rz
    exact call_abs pins s σ H _ us Q I r ⟨_, rfl, h.here S _ rep_int⟩
  · exact h.elim
def maxL : List Int → Int
  | [] => 0
  | [x] => x
  | x :: y :: r => let m := maxL (y :: r); if x < m then m else x
def minL : List Int → Int
  | [] => 0
  | [x] => x
  | x :: y :: r => let m := minL (y :: r); if m < x then m else x
theorem maxL_ok : ∀ (x : Int) (r : List Int), maxL (x :: r) ∈ x :: r ∧ ∀ y ∈ x :: r, y ≤ maxL (x :: r)
  | x, [] => by simp [maxL]
  | x, y :: r => by
    obtain ⟨h1, h2⟩ := maxL_ok y r
    unfold maxL
    dsimp only
    split
    · rename_i hx
      exact ⟨List.mem_cons_of_mem _ h1, fun z hz => by
        rcases List.mem_cons.mp hz with rfl | hz
        · omega
        · exact h2 z hz⟩
    · rename_i hx
      exact ⟨List.mem_cons_self, fun z hz => by
        rcases List.mem_cons.mp hz with rfl | hz
        · omega
        · have := h2 z hz; omega⟩
theorem minL_ok : ∀ (x : Int) (r : List Int), minL (x :: r) ∈ x :: r ∧ ∀ y ∈ x :: r, minL (x :: r) ≤ y
  | x, [] => by simp [minL]
  | x, y :: r => by
    obtain ⟨h1, h2⟩ := minL_ok y r
    unfold minL
    dsimp only
    split
    · rename_i hx
      exact ⟨List.mem_cons_of_mem _ h1, fun z hz => by
        rcases List.mem_cons.mp hz with rfl | hz
        · omega
        · exact h2 z hz⟩
    · rename_i hx
      exact ⟨List.mem_cons_self, fun z hz => by
        rcases List.mem_cons.mp hz with rfl | hz
        · omega
        · have := h2 z hz; omega⟩
def maxV : List Val → Store → Res Val := fun vs st => match vs with
  | [.int i, .int j] => .ok (.int (if j > i then j else i)) st
  | vs => onL asI (fun xs st => if 0 < xs.length then .ok (.int (maxL xs)) st else .no) vs st
def minV : List Val → Store → Res Val := fun vs st => match vs with
  | [.int i, .int j] => .ok (.int (if j < i then j else i)) st
  | vs => onL asI (fun xs st => if 0 < xs.length then .ok (.int (minL xs)) st else .no) vs st
theorem max_ok (cx : CxR X G d) : CallR X (.builtin "max") (rVL G E maxV) := by
  intro pins s σ H xs us Q I r h
  obtain ⟨F, m, st, vs, S, rv, h⟩ := h
  unfold maxV at h
  split at h
  · obtain ⟨z, y, rfl, rz, ry⟩ := repL2 rv
    unfold Rep at rz ry; subst rz ry
    exact call_max2 cx.calm pins s σ H _ us Q I r ⟨_, _, rfl, h.here S _ rep_int⟩
  · obtain ⟨a, as, _, rfl, sq, _, _, h⟩ := onL_ok (k := V.int) (fun n => asI_rep) S rv h
    rw [← cx.K] at sq
    split at h
    · rename_i hl
      refine cr_max cx.calm pins s σ H _ us Q I r ⟨a, as, rfl, sq, hl, fun k h1 h2 => ?_⟩
      cases as with
      | nil => simp at hl
      | cons x t =>
        obtain ⟨g1, g2⟩ := maxL_ok x t
        have : k = maxL (x :: t) := Int.le_antisymm (g2 k h1) (h2 _ g1)
        rw [this]
        exact h.here S _ rep_int
    · exact h.elim
theorem min_ok (cx : CxR X G d) : CallR X (.builtin "min") (rVL G E minV) := by
  intro pins s σ H xs us Q I r h
  obtain ⟨F, m, st, vs, S, rv, h⟩ := h
  unfold minV at h
  split at h
  · obtain ⟨z, y, rfl, rz, ry⟩ := repL2 rv
    unfold Rep at rz ry; subst rz ry
    exact call_min2 cx.calm pins s σ H _ us Q I r ⟨_, _, rfl, h.here S _ rep_int⟩
  · obtain ⟨a, as, _, rfl, sq, _, _, h⟩ := onL_ok (k := V.int) (fun n => asI_rep) S rv h
    rw [← cx.K] at sq
    split at h
    · rename_i hl
      refine cr_min cx.calm pins s σ H _ us Q I r ⟨a, as, rfl, sq, hl, fun k h1 h2 => ?_⟩
      cases as with
      | nil => simp at hl
      | cons x t =>
        obtain ⟨g1, g2⟩ := minL_ok x t
        have : k = minL (x :: t) := Int.le_antisymm (h2 _ g1) (g2 k h1)
        rw [this]
        exact h.here S _ rep_int
    · exact h.elim
end
end Mi

/-! Mi, part k6: dicts made: displays, comprehensions. -/
namespace Mi
open PySem PySem.Spec PyProof.Rows L2
section
variable {X : Cx}
/-- a comprehension puts into a dict whose keys are tuples -/
theorem d_putT {pins : List (Addr × Obj)} {σ : L2.St} {H : Hp} {s : Shared} {E : Value → Shared → Prop} {D b : Addr} {ks : List (List Key × V)} {k : List Key} {v : V} {r : Value} {P : Unit → Shared → Prop} (hu : X.A.units + 1 < cLine) (I : Inv X pins σ H s) (hD : H D = some (.dT ks)) (hz : ks.length < sizeLine)
    (hb : H b = some (.tup (k.map kV))) (rv : RelV v r) (h : ∀ s', Inv X pins σ (upd H D (.dT (putK ks k v))) s' → P () s') : wpAny (model X.prog X.w) X.A (dictSet D (.ref b) r) P E s := by
  obtain ⟨z, hs, xs, rel, dd⟩ := dt_of I.hok hD
  have hzx : xs.length ≤ sizeLine := by rw [← Paired.length rel]; exact z
  have hl : (putK ks k v).length ≤ sizeLine := by have := length_putK ks k v; omega
  refine wpAny_dictSet_heap (hsz := hzx) (show X.A.units < cLine by omega) (key_of I.hok hb) dd fun h2 dd2 sm => h _ ?_
  obtain ⟨q, es, ep, q1, q2, q3, q4, _, q5⟩ := dd2
  refine d_write I (by rw [hD]; exact True.intro) sm ⟨q, q1⟩ ⟨hl, hs, _, (rel.put k hb rv).keeps fun c ys ec => ?_, q, es, ep, q1, q2, q3, q4, q5⟩
  rw [upd_ne (ne_of ec hD (fun z => nomatch z))]
  exact ec
/-- {k: v for target in iter}, keys tuples of ints and texts -/
def tDcT (wi : TI) (g : TG) (tt : TT) (tk tv : TE) (vs : List Nat) : TE := fun σ H Q => wi σ H fun J H1 => ∀ D, H1 D = none → ∃ W : Nat → Nat → Hp → Prop, (∃ n, W 0 n (upd H1 D (.dT []))) ∧ ∀ i n H, W i n H →
  (J.stop i H ∧ Q (.ref D) H) ∨ (J.go i H ∧ ∃ Nx : Hp → Prop, (∀ H', Nx H' → ∃ n', n' < n ∧ W (i + 1) n' H') ∧ ∀ x H', J.yld i H x H' → g x (wipe σ vs) H' fun σ2 H2 => wipe σ2 vs = wipe σ vs ∧ tt σ2 H2 fun b H3 =>
    if b = true then tk σ2 H3 fun y H4 => tv σ2 H4 fun z H5 => ∃ ks k p, y = .ref p ∧ H5 p = some (.tup (k.map kV)) ∧ H5 D = some (.dT ks) ∧ ks.length < sizeLine ∧ Nx (upd H5 D (.dT (putK ks k z))) else Nx H3)
theorem dcT_core {pins : List (Addr × Obj)} {s : Shared} {σ : L2.St} {H : Hp} {Q : VK} {kx vx tg iter : Expr} {ifs : List Expr} {scope : Scope} {own : List (Str × Nat)} {pos pos' : Pos} {wi : TI} {g : TG} {tt : TT} {tk tv : TE} {use : Option (Value → Sem Unit)} {Qf : Value → Shared → Prop}
    (hu : X.A.units + 1 < cLine) (hc : X.calm = true) (hN : X.N.Nodup) (I : Inv X pins σ H s) (hi : PI X tg iter wi) (ok : BlkOk X.N X.env.scope scope own)
    (hg : ∀ (s : Shared) (H : Hp) (C : Addr) (cl : List (Str × Addr)) (fp : List Addr), PG (X.blk s H scope (compEnvC scope cl C X.env) fp) tg g) (ht : ∀ (s : Shared) (H : Hp) (C : Addr) (cl : List (Str × Addr)) (fp : List Addr), PTs (X.blk s H scope (compEnvC scope cl C X.env) fp) ifs tt)
    (hk : ∀ (s : Shared) (H : Hp) (C : Addr) (cl : List (Str × Addr)) (fp : List Addr), PE (X.blk s H scope (compEnvC scope cl C X.env) fp) kx tk) (he : ∀ (s : Shared) (H : Hp) (C : Addr) (cl : List (Str × Addr)) (fp : List Addr), PE (X.blk s H scope (compEnvC scope cl C X.env) fp) vx tv)
    (hs : ∀ x, foldedSetIterable iter X.env x = pure x) (h : tDcT wi g tt tk tv (own.map (·.2)) σ H Q)
    (hEnd : ∀ D C s' m H', Inv X pins σ H' s' → Q (.ref D) H' → s'.heap.Ns C m → FpOk X pins H' C → compPost (model X.prog X.w) X.A X.xe use Qf (.ref D) C (.ok .next) s') :
    wpAny (model X.prog X.w) X.A (comprehension (.DictComp kx vx [⟨tg, iter, ifs, 0⟩] scope pos) scope X.env pos' newDict false (eval iter X.env) use) Qf X.xe s := by
  have free : ∀ y ∈ scope.names, y.2 = .free → ∃ c, X.env.cells.lookup y.1 = some c := fun y hy e => (ok.free y hy e).elim (fun k => I.ok.has _ (.inl k)) fun k => I.ok.has _ (.inr k)
  refine wpAny_comprehension_free (use := use) rfl hs (closure_ok free) ok.kind (fun y hy e => by rw [ok.uniq y hy, e]) (thn (hi.run pins s σ H _ I h) fun xv sa hx => thn hx fun itv sb hb => ?_)
  obtain ⟨it, fp, tn, J, Hb, rfl, Ib, T, tb, fb, q⟩ := hb
  refine wpAny_newObj_type (newEnv_comp ?_)
  generalize eD : sb.heap.objs.size = D
  obtain ⟨W, ⟨n0, w0⟩, turn⟩ := q D (Ib.hok.fresh (Nat.le_of_eq eD))
  generalize ec : ({ sb with heap := sb.heap.push { cls := .type "dict", data := .dict #[] } } : Shared) = sc
  have Ic : Inv X pins σ (upd Hb D (.dT [])) sc := by
    rw [← ec]
    refine Ib.laid (t' := sb.toks) (fun b o e => Heap.get?_push_of_some _ e) (Nat.le_of_eq eD) ?_
    rw [← eD]; exact dt_empty sb.heap Ib.big
  have hc' : sc.heap = sb.heap.push { cls := .type "dict", data := .dict #[] } := by rw [← ec]
  have small : ∀ b ∈ fp, b < sb.heap.objs.size := fun b hb => let ⟨_, e, _⟩ := T.obj _ _ tb b hb; Heap.lt_size e
  have fc : ∀ b ∈ fp, FpOk X pins (upd Hb D (.dT [])) b ∧ b < sc.heap.objs.size := fun b hb => by
    have lt := small b hb
    refine ⟨⟨?_, (fb b hb).2⟩, by rw [hc', Heap.size_push]; exact Nat.lt_succ_of_lt lt⟩
    rw [upd_ne (by rw [← eD]; exact Nat.ne_of_lt lt)]; exact (fb b hb).1
  have tc : tn 0 sc.heap := T.keep _ _ _ tb fun b _ o e => by rw [hc']; exact Heap.get?_push_of_some _ e
  have Id := block_start Ic ok hN fc
  have jg := hg sc (upd Hb D (.dT [])) sc.heap.objs.size (cellsFrom (sc.heap.objs.size + 1) scope.names (cloFrom X.env.cells scope.names [])) fp
  have jt := ht sc (upd Hb D (.dT [])) sc.heap.objs.size (cellsFrom (sc.heap.objs.size + 1) scope.names (cloFrom X.env.cells scope.names [])) fp
  have jk := hk sc (upd Hb D (.dT [])) sc.heap.objs.size (cellsFrom (sc.heap.objs.size + 1) scope.names (cloFrom X.env.cells scope.names [])) fp
  have je := he sc (upd Hb D (.dT [])) sc.heap.objs.size (cellsFrom (sc.heap.objs.size + 1) scope.names (cloFrom X.env.cells scope.names [])) fp
  show codeAny _ _ (.compStart (.DictComp kx vx [⟨tg, iter, ifs, 0⟩] scope pos) 0 (.ref it) (.ref D) (compEnvC scope (cellsFrom (sc.heap.objs.size + 1) scope.names (cloFrom X.env.cells scope.names [])) sc.heap.objs.size X.env)) (compPost (model X.prog X.w) X.A X.xe use Qf (.ref D) sc.heap.objs.size) { sc with heap := pushCells (sc.heap.push { cls := .type "dict", data := .dict #[] }) scope.names }
  have nfp : ∀ b ∈ fp, (upd Hb D (.dT [])) b = none := fun b hb => (fc b hb).1.1
  generalize ee : compEnvC scope (cellsFrom (sc.heap.objs.size + 1) scope.names (cloFrom X.env.cells scope.names [])) sc.heap.objs.size X.env = ce at Id jg jt jk je ⊢
  have cL : ce.locals = sc.heap.objs.size := by subst ee; rfl
  generalize eH : upd Hb D (.dT []) = Hc at Ic Id jg jt jk je w0 nfp fc
  generalize ed : ({ sc with heap := pushCells (sc.heap.push { cls := .type "dict", data := .dict #[] }) scope.names } : Shared) = sd at Id ⊢
  have td : tn 0 sd.heap := T.keep _ _ _ tc fun b _ o e => by rw [← ed]; exact pushCells_keeps _ _ _ _ (Heap.get?_push_of_some _ e)
  have stays : ∀ {σ' : L2.St} {H' : Hp} {s' : Shared}, Inv (X.blk sc Hc scope ce fp) [] σ' H' s' → (∀ b ∈ fp, H' b = none) → ∀ b ∈ fp, FpOk (X.blk sc Hc scope ce fp) [] H' b := fun {σ' H' s'} I' hn b hb =>
    ⟨hn b hb, (I'.ok.exf b hb).1, I'.ok.exfs b hb, .inl hb, fun x c e => (I'.ok.exf b hb).2 x c e, fun p hp => absurd (show p ∈ ([] : List (Addr × Obj)) ++ [] from hp) (by simp)⟩
  have loop : codeAny (model X.prog X.w) X.A (.compLoop (.DictComp kx vx [⟨tg, iter, ifs, 0⟩] scope pos) 0 (.ref it) (.ref D) ce) (compPost (model X.prog X.w) X.A X.xe use Qf (.ref D) sc.heap.objs.size) sd := by
    refine compLoop_anyD (fun n s' => ∃ i H', Inv (X.blk sc Hc scope ce fp) [] (wipe σ (own.map (·.2))) H' s' ∧ tn i s'.heap ∧ (∀ b ∈ fp, H' b = none) ∧ W i n H') ?_ n0 ⟨0, Hc, Id, td, nfp, w0⟩
    rintro n s5 ⟨i, H5, I5, t5, n5, w5⟩
    rcases turn i n H5 w5 with ⟨stop, qq⟩ | ⟨go, Nx, hNx, step⟩
    · refine thnF (T.done (X.blk sc Hc scope ce fp) rfl rfl rfl hc i [] s5 _ H5 (fun _ _ => False) I5 (stays I5 n5) t5 stop) fun r s6 ⟨hr, I6⟩ => ?_
      subst hr
      have I7 : Inv X pins σ H5 s6 := Ic.call' (ch := fp) I6.os I6.base I6.hok I6.bare fun b hb => ⟨(fc b hb).1.2.2.2.1, (fc b hb).1.2.1, (fc b hb).1.2.2.2.2.1, (fc b hb).1.2.2.2.2.2⟩
      have nC : H5 sc.heap.objs.size = none := by have z : H5 ce.locals = none := I6.free; rwa [cL] at z
      obtain ⟨m, hn, _⟩ := I6.loc
      have hn : s6.heap.Ns ce.locals m := hn
      rw [cL] at hn
      exact hEnd D sc.heap.objs.size s6 m H5 I7 qq hn (Ic.fpOk (Nat.le_refl _) nC)
    · refine thnF (T.item (X.blk sc Hc scope ce fp) rfl rfl rfl hc i [] s5 _ H5 (fun _ _ => False) I5 (stays I5 n5) t5 go) fun r s6 ⟨u, hr, h6⟩ => ?_
      subst hr
      refine thnF h6 fun _ s7 ⟨x, H7, I7, r7, y7, t7, n7⟩ => ?_
      refine thnF (jg.run _ s7 _ H7 x u _ (I7.pinned (stays I7 n7) (T.obj _ _ t7)) r7 (step x H7 y7)) fun _ s8 ⟨σ8, H8, I8, hw8, q8⟩ => ?_
      refine thnF (jt.run _ s8 σ8 H8 _ I8 q8) fun b s9 ⟨H9, I9, q9⟩ => ?_
      have fin : ∀ {s' : Shared} {H' : Hp}, Inv (X.blk sc Hc scope ce fp) ([] ++ pinsAt fp s7.heap) σ8 H' s' → Nx H' → ∃ m, m < n ∧ ∃ i H', Inv (X.blk sc Hc scope ce fp) [] (wipe σ (own.map (·.2))) H' s' ∧ tn i s'.heap ∧ (∀ b ∈ fp, H' b = none) ∧ W i m H' := fun {s' H'} I' nx => by
        obtain ⟨m', hm, w'⟩ := hNx H' nx
        have pin : ∀ b ∈ fp, ∀ o, s7.heap.get? b = some o → s'.heap.get? b = some o ∧ H' b = none := fun b hb o e => let z := I'.pin (b, o) (List.mem_append_right _ (List.mem_append_right _ (mem_pinsAt hb e))); ⟨z.1, z.2.1⟩
        refine ⟨m', hm, i + 1, H', (I'.unpinned (pins := [])).weak (by rw [← hw8, wipe_length]) (fun j v e => ?_), T.keep _ _ _ t7 fun b hb o e => (pin b hb o e).1, fun b hb => ?_, w'⟩
        · rw [← hw8] at e; exact (wipe_some e).1
        · obtain ⟨o, e, _⟩ := T.obj _ _ t7 b hb; exact (pin b hb o e).2
      cases b with
      | false => simp only [Bool.false_eq_true, if_false] at q9 ⊢; exact fin I9 q9
      | true =>
        simp only [if_true] at q9 ⊢
        refine thnF (jk.run _ s9 σ8 H9 _ I9 q9) fun z s10 ⟨yk, H10, I10, r10, q10⟩ => ?_
        refine thnF (je.run _ s10 σ8 H10 _ I10 q10) fun z2 s11 ⟨yv, H11, I11, r11, ks, k, p, ek, hp, hD11, hz11, nx⟩ => ?_
        subst ek
        cases r10
        exact d_putT (X := X.blk sc Hc scope ce fp) hu I11 hD11 hz11 hp r11 fun s12 I12 => fin I12 nx
  exact codeAny_compStart_dict loop (T.self X.A 0 _ _ _ td loop)
theorem pe_dcT {kx vx tg iter : Expr} {ifs : List Expr} {scope : Scope} {own : List (Str × Nat)} {pos : Pos} {wi : TI} {g : TG} {tt : TT} {tk tv : TE} (hu : X.A.units + 1 < cLine) (hc : X.calm = true) (hN : X.N.Nodup) (hi : PI X tg iter wi) (ok : BlkOk X.N X.env.scope scope own)
    (hg : ∀ (s : Shared) (H : Hp) (C : Addr) (cl : List (Str × Addr)) (fp : List Addr), PG (X.blk s H scope (compEnvC scope cl C X.env) fp) tg g) (ht : ∀ (s : Shared) (H : Hp) (C : Addr) (cl : List (Str × Addr)) (fp : List Addr), PTs (X.blk s H scope (compEnvC scope cl C X.env) fp) ifs tt)
    (hk : ∀ (s : Shared) (H : Hp) (C : Addr) (cl : List (Str × Addr)) (fp : List Addr), PE (X.blk s H scope (compEnvC scope cl C X.env) fp) kx tk) (he : ∀ (s : Shared) (H : Hp) (C : Addr) (cl : List (Str × Addr)) (fp : List Addr), PE (X.blk s H scope (compEnvC scope cl C X.env) fp) vx tv)
    (hs : ∀ x, foldedSetIterable iter X.env x = pure x) : PE X (.DictComp kx vx [⟨tg, iter, ifs, 0⟩] scope pos) (tDcT wi g tt tk tv (own.map (·.2))) := by
  refine ⟨fun pins s σ H Q I h => ?_⟩
  rw [arm_eval_DictComp]
  refine dcT_core hu hc hN I hi ok hg ht hk he hs h fun D C s' m H' I' q hn f => ⟨m, hn, fun h2 sb => ?_⟩
  obtain ⟨f0, f1, _, f3, f4, f5⟩ := f
  exact ⟨.ref D, H', I'.turned (t' := s'.toks) (fun b o hb e => (sb.2 b hb).trans e) f0 f1 f3 f4 f5, rfl, q⟩
end

/-- pairs put one behind the other -/
def dcL (gd : Gd) (tg : Tg) (fk fv : Env → Store → Res Val) (σ : Env) : List Val → List (Val × Val) → Store → Res (List (Val × Val))
  | [], acc, st => .ok acc st
  | x :: xs, acc, st => match asg tg x σ st with
    | none => .no
    | some σ' => (fk σ' st).bnd fun k st => (fv σ' st).bnd fun v st => if gd.ok st && keyFits acc false k && decide (acc.length < lim) then dcL gd tg fk fv σ xs (dput acc k v) st else .no
/-- its keys are tuples -/
def kindT : List (Val × Val) → Bool
  | (a, _) :: _ => !scalarKey a
  | [] => false
theorem dput_ne (kvs : List (Val × Val)) (k v : Val) : dput kvs k v ≠ [] := by
  unfold dput
  split
  · cases kvs with
    | nil => rename_i h; simp at h
    | cons p r => simp
  · simp
theorem kindT_put {kvs : List (Val × Val)} {k v : Val} (h : kvs ≠ []) : kindT (dput kvs k v) = kindT kvs := by
  cases kvs with
  | nil => exact absurd rfl h
  | cons p r =>
    obtain ⟨a, x⟩ := p
    unfold dput
    split
    · rw [List.map_cons]
      dsimp only
      split <;> rfl
    · rfl
theorem dcL_kind {gd : Gd} {tg : Tg} {fk fv : Env → Store → Res Val} {σ : Env} : ∀ {items : List Val} {acc : List (Val × Val)} {st stf : Store} {fin : List (Val × Val)}, dcL gd tg fk fv σ items acc st = .ok fin stf → acc ≠ [] → kindT fin = kindT acc
  | [], acc, st, stf, fin, h, _ => by unfold dcL at h; cases h; rfl
  | x :: xs, acc, st, stf, fin, h, hne => by
    unfold dcL at h
    cases ha : asg tg x σ st with
    | none => simp only [ha] at h; cases h
    | some σ' =>
      simp only [ha] at h
      cases qk : fk σ' st with
      | no => rw [qk] at h; cases h
      | exc e s' => rw [qk] at h; cases h
      | ok kk st3 =>
        rw [qk] at h
        simp only [Res.bnd_ok] at h
        cases qv : fv σ' st3 with
        | no => rw [qv] at h; cases h
        | exc e s' => rw [qv] at h; cases h
        | ok vv st4 =>
          rw [qv] at h
          simp only [Res.bnd_ok] at h
          split at h
          · rw [dcL_kind h (dput_ne _ _ _), kindT_put hne]
          · cases h
theorem key_of_fits {acc : List (Val × Val)} {k v : Val} (h : keyFits acc false k = true) : isKey k = true ∧ kindT (dput acc k v) = !scalarKey k := by
  unfold keyFits at h
  rw [Bool.and_eq_true] at h
  refine ⟨h.1, ?_⟩
  cases acc with
  | nil => rfl
  | cons p r =>
    obtain ⟨a, x⟩ := p
    rw [kindT_put (by simp)]
    have := beq_iff_eq.mp h.2
    show (!scalarKey a) = !scalarKey k
    rw [this]
theorem key_kindK {acc : List (Val × Val)} {k v : Val} (h : keyFits acc false k = true) (kd : kindT (dput acc k v) = false) : ∃ a, k = kVal a := by
  obtain ⟨h1, h2⟩ := key_of_fits (v := v) h
  rw [h2] at kd
  exact scalar_key (by simpa using kd)
theorem key_kindT {acc : List (Val × Val)} {k v : Val} (h : keyFits acc false k = true) (kd : kindT (dput acc k v) = true) : ∃ a : List Key, k = .tup (a.map kVal) := by
  obtain ⟨h1, h2⟩ := key_of_fits (v := v) h
  rw [h2] at kd
  have kd : scalarKey k = false := by simpa using kd
  cases k with
  | tup xs =>
    obtain ⟨a, rfl⟩ := scalar_keys (ks := xs) (by simpa [isKey] using h1)
    exact ⟨a, rfl⟩
  | int => simp [scalarKey] at kd
  | str => simp [scalarKey] at kd
  | _ => simp [isKey] at h1
section
variable {X : Cx} {G : Gm} {E : XK} {d : Nat} {pos : Pos}

theorem RepDK.put {F : Hp} {m : Nat → Addr} {n : Nat} {a : Key} {v : Val} {z : V} (rz : Rep G F m n v z) {kvs : List (Val × Val)} {ks : List (Key × V)} (h : RepDK G F m n kvs ks) : RepDK G F m n (dput kvs (kVal a) v) (putK ks a z) := by
  have any : ∀ {kvs : List (Val × Val)} {ks : List (Key × V)}, RepDK G F m n kvs ks → (kvs.any fun kv => decide (kv.1 = kVal a)) = (ks.any fun kv => decide (kv.1 = a)) := by
    intro kvs
    induction kvs with
    | nil => intro ks h; unfold RepDK at h; subst h; rfl
    | cons p r ih =>
      intro ks h
      obtain ⟨k, x⟩ := p
      unfold RepDK at h
      obtain ⟨b, y, ys, rfl, rfl, _, h2⟩ := h
      rw [List.any_cons, List.any_cons, ih h2]
      congr 1
      by_cases e : b = a
      · subst e; simp
      · rw [decide_eq_false e, decide_eq_false (fun z => e (kVal_inj z))]
  have mp : ∀ {kvs : List (Val × Val)} {ks : List (Key × V)}, RepDK G F m n kvs ks → RepDK G F m n (kvs.map (fun kv => if kv.1 = kVal a then (kv.1, v) else kv)) (ks.map (fun kv => if kv.1 = a then (kv.1, z) else kv)) := by
    intro kvs
    induction kvs with
    | nil => intro ks h; unfold RepDK at h; subst h; unfold RepDK; rfl
    | cons p r ih =>
      intro ks h
      obtain ⟨k, x⟩ := p
      unfold RepDK at h
      obtain ⟨b, y, ys, rfl, rfl, h1, h2⟩ := h
      rw [List.map_cons, List.map_cons]
      by_cases e : b = a
      · subst e
        rw [if_pos rfl, if_pos rfl]
        unfold RepDK
        exact ⟨b, z, _, rfl, rfl, rz, ih h2⟩
      · rw [if_neg (fun z => e (kVal_inj z)), if_neg e]
        unfold RepDK
        exact ⟨b, y, _, rfl, rfl, h1, ih h2⟩
  have ap : ∀ {kvs : List (Val × Val)} {ks : List (Key × V)}, RepDK G F m n kvs ks → RepDK G F m n (kvs ++ [(kVal a, v)]) (ks ++ [(a, z)]) := by
    intro kvs
    induction kvs with
    | nil =>
      intro ks h
      unfold RepDK at h
      subst h
      unfold RepDK
      exact ⟨a, z, [], rfl, rfl, rz, by unfold RepDK; rfl⟩
    | cons p r ih =>
      intro ks h
      obtain ⟨k, x⟩ := p
      unfold RepDK at h
      obtain ⟨b, y, ys, rfl, rfl, h1, h2⟩ := h
      rw [List.cons_append, List.cons_append]
      unfold RepDK
      exact ⟨b, y, _, rfl, rfl, h1, ih h2⟩
  unfold dput putK
  rw [any h]
  split
  · exact mp h
  · exact ap h
theorem dcL_okK {J : It} {items : List Val} {gd : Gd} {g : Tg} {fk fv : Env → Store → Res Val} {σ : L2.St} {σe : Env} {own : List Nat} {F : Hp} {m : Nat → Addr} {st : Store} {H : Hp} {D : Addr} {Qd : Hp → Prop} {fin : List (Val × Val)} {stf : Store}
    (hgd : gd.ok st = true) (W : WOk G J items gd F m st.length H) (S : Sim G F m st H) (rs : RepS G F m st.length σe σ) (hD : H D = none) (hsl : ∀ j ∈ g.slots, j ∈ own) (hk : kindT fin = false)
    (hr : dcL gd g fk fv (wipeE σe own) items [] st = .ok fin stf) (h : ∀ F' m' H', Sim G F' m' stf H' → Ext F m st.length H F' m' stf.length H' → ∀ ks, RepDK G F' m' stf.length fin ks → H' D = some (.dK ks) → F' D = none → (∀ i, i < stf.length → m' i ≠ D) → Qd H') :
    ∃ W : Nat → Nat → Hp → Prop, (∃ k, W 0 k (upd H D (.dK []))) ∧ ∀ i k H, W i k H →
      (J.stop i H ∧ Qd H) ∨ (J.go i H ∧ ∃ Nx : Hp → Prop, (∀ H', Nx H' → ∃ k', k' < k ∧ W (i + 1) k' H') ∧ ∀ x H', J.yld i H x H' → tG G g x (wipe σ own) H' fun σ2 H2 => wipe σ2 own = wipe σ own ∧ tYes σ2 H2 fun b H3 =>
        if b = true then tE G E0 fk σ2 H3 fun y H4 => tE G E0 fv σ2 H4 fun z H5 => ∃ ks k, y = kV k ∧ H5 D = some (.dK ks) ∧ ks.length < sizeLine ∧ Nx (upd H5 D (.dK (putK ks k z))) else Nx H3) := by
  obtain ⟨Gd, Y, w, hG, hY⟩ := W.ex
  have fD := S.free hD
  have mD : ∀ i, i < st.length → m i ≠ D := fun i hi => S.ne hD hi
  let Pv : Nat → Hp → Prop := fun i H' => ∃ F' m' st' acc ks, Sim G F' m' st' H' ∧ Ext F m st.length H F' m' st'.length H' ∧ gd.ok st' = true ∧ H' D = some (.dK ks) ∧ F' D = none ∧ (∀ i, i < st'.length → m' i ≠ D) ∧ RepDK G F' m' st'.length acc ks ∧
      dcL gd g fk fv (wipeE σe own) (items.drop i) acc st' = .ok fin stf
  refine ⟨fun i k H' => k = items.length - i ∧ i ≤ items.length ∧ Pv i H', ⟨_, rfl, Nat.zero_le _, F, m, st, [], [], S.other fD mD _, Ext.refl.other hD _, hgd, upd_same, fD, mD, by unfold RepDK; rfl, hr⟩, ?_⟩
  rintro i k H1 ⟨rfl, hi, F1, m1, st1, acc, ks, S1, e1, g1, hD1, fD1, mD1, ra, h1⟩
  have hg1 := hG F1 m1 st1 H1 S1 e1.w g1
  by_cases hlt : i < items.length
  · refine .inr ⟨w.goes i H1 hlt hg1, Pv (i + 1), fun H' p => ⟨items.length - (i + 1), by omega, rfl, hlt, p⟩, fun x H2 y => ?_⟩
    rw [List.drop_eq_getElem_cons hlt] at h1
    obtain ⟨F2, S2, e2, r2⟩ := hY i x items[i] F1 m1 st1 H1 H2 S1 e1.w (by simp [hlt]) g1 (w.yields i H1 x H2 hlt hg1 y)
    have e12 := e1.trans e2
    obtain ⟨hD2, fD2, mD2⟩ := e2.fr D _ hD1 (fun _ z => by cases z) fD1 mD1
    unfold dcL at h1
    cases ha : asg g items[i] (wipeE σe own) st1 with
    | none => simp only [ha] at h1; cases h1
    | some σ' =>
      simp only [ha] at h1
      refine ⟨F2, m1, st1, wipeE σe own, items[i], σ', S2, (rs.up e12).wipe own, r2, ha, fun σ2 rs2 on => ⟨wipe_same on hsl, ?_⟩⟩
      unfold tYes
      simp only [if_true]
      cases qk : fk σ' st1 with
      | no => rw [qk] at h1; cases h1
      | exc e s' => rw [qk] at h1; cases h1
      | ok kk st3 =>
        rw [qk] at h1
        refine ⟨F2, m1, σ', st1, S2, rs2, ?_⟩
        rw [qk]
        intro F3 m3 H3 S3 e3 y ry
        obtain ⟨hD3, fD3, mD3⟩ := e3.fr D _ hD2 (fun _ z => by cases z) fD2 mD2
        have h1 : ((fv σ' st3).bnd fun v st => if gd.ok st && keyFits acc false kk && decide (acc.length < lim) then dcL gd g fk fv (wipeE σe own) (items.drop (i + 1)) (dput acc kk v) st else .no) = .ok fin stf := h1
        cases qv : fv σ' st3 with
        | no => rw [qv] at h1; cases h1
        | exc e s' => rw [qv] at h1; cases h1
        | ok vv st4 =>
          rw [qv] at h1
          refine ⟨F3, m3, σ', st3, S3, rs2.up e3, ?_⟩
          rw [qv]
          intro F4 m4 H4 S4 e4 z rz
          obtain ⟨hD4, fD4, mD4⟩ := e4.fr D _ hD3 (fun _ z => by cases z) fD3 mD3
          have h1 : (if (gd.ok st4 && keyFits acc false kk && decide (acc.length < lim)) = true then dcL gd g fk fv (wipeE σe own) (items.drop (i + 1)) (dput acc kk vv) st4 else .no) = .ok fin stf := h1
          split at h1
          case isFalse => cases h1
          rename_i hb
          rw [Bool.and_eq_true, Bool.and_eq_true] at hb
          obtain ⟨⟨hg4, hkf⟩, hlen⟩ := hb
          have kd : kindT (dput acc kk vv) = false := by rw [← hk]; exact (dcL_kind h1 (dput_ne _ _ _)).symm
          have hks : ks.length < sizeLine := by rw [← repDK_len ra]; exact lim_lt (Nat.le_of_lt (of_decide_eq_true hlen))
          obtain ⟨a, rfl⟩ : ∃ a, kk = kVal a := key_kindK hkf kd
          have ra4 := (((ra.ext e2.same e2.mp e2.le).ext e3.same e3.mp e3.le).ext e4.same e4.mp e4.le)
          have ey := rep_kVal ry
          subst ey
          refine ⟨ks, a, rfl, hD4, hks, F4, m4, st4, dput acc _ vv, putK ks a z, S4.other fD4 mD4 _, ((e12.trans e3).trans e4).other hD _, hg4, upd_same, fD4, mD4, RepDK.put rz ra4, h1⟩
  · have hi' : i = items.length := by omega
    subst hi'
    rw [List.drop_length] at h1
    unfold dcL at h1
    cases h1
    exact .inl ⟨w.stops H1 hg1, h F1 m1 H1 S1 e1 ks ra hD1 fD1 mD1⟩

theorem RepDT.put {F : Hp} {m : Nat → Addr} {n : Nat} {a : List Key} {v : Val} {z : V} (rz : Rep G F m n v z) {kvs : List (Val × Val)} {ks : List (List Key × V)} (h : RepDT G F m n kvs ks) : RepDT G F m n (dput kvs (.tup (a.map kVal)) v) (putK ks a z) := by
  have any : ∀ {kvs : List (Val × Val)} {ks : List (List Key × V)}, RepDT G F m n kvs ks → (kvs.any fun kv => decide (kv.1 = Val.tup (a.map kVal))) = (ks.any fun kv => decide (kv.1 = a)) := by
    intro kvs
    induction kvs with
    | nil => intro ks h; unfold RepDT at h; subst h; rfl
    | cons p r ih =>
      intro ks h
      obtain ⟨k, x⟩ := p
      unfold RepDT at h
      obtain ⟨b, y, ys, rfl, rfl, _, h2⟩ := h
      rw [List.any_cons, List.any_cons, ih h2]
      congr 1
      by_cases e : b = a
      · subst e; simp
      · rw [decide_eq_false e, decide_eq_false (fun z => e (kValL_inj (by injection z)))]
  have mp : ∀ {kvs : List (Val × Val)} {ks : List (List Key × V)}, RepDT G F m n kvs ks → RepDT G F m n (kvs.map (fun kv => if kv.1 = Val.tup (a.map kVal) then (kv.1, v) else kv)) (ks.map (fun kv => if kv.1 = a then (kv.1, z) else kv)) := by
    intro kvs
    induction kvs with
    | nil => intro ks h; unfold RepDT at h; subst h; unfold RepDT; rfl
    | cons p r ih =>
      intro ks h
      obtain ⟨k, x⟩ := p
      unfold RepDT at h
      obtain ⟨b, y, ys, rfl, rfl, h1, h2⟩ := h
      rw [List.map_cons, List.map_cons]
      by_cases e : b = a
      · subst e
        rw [if_pos rfl, if_pos rfl]
        unfold RepDT
        exact ⟨b, z, _, rfl, rfl, rz, ih h2⟩
      · rw [if_neg (fun z => e (kValL_inj (by injection z))), if_neg e]
        unfold RepDT
        exact ⟨b, y, _, rfl, rfl, h1, ih h2⟩
  have ap : ∀ {kvs : List (Val × Val)} {ks : List (List Key × V)}, RepDT G F m n kvs ks → RepDT G F m n (kvs ++ [(Val.tup (a.map kVal), v)]) (ks ++ [(a, z)]) := by
    intro kvs
    induction kvs with
    | nil =>
      intro ks h
      unfold RepDT at h
      subst h
      unfold RepDT
      exact ⟨a, z, [], rfl, rfl, rz, by unfold RepDT; rfl⟩
    | cons p r ih =>
      intro ks h
      obtain ⟨k, x⟩ := p
      unfold RepDT at h
      obtain ⟨b, y, ys, rfl, rfl, h1, h2⟩ := h
      rw [List.cons_append, List.cons_append]
      unfold RepDT
      exact ⟨b, y, _, rfl, rfl, h1, ih h2⟩
  unfold dput putK
  rw [any h]
  split
  · exact mp h
  · exact ap h
theorem dcL_okT {J : It} {items : List Val} {gd : Gd} {g : Tg} {fk fv : Env → Store → Res Val} {σ : L2.St} {σe : Env} {own : List Nat} {F : Hp} {m : Nat → Addr} {st : Store} {H : Hp} {D : Addr} {Qd : Hp → Prop} {fin : List (Val × Val)} {stf : Store}
    (hgd : gd.ok st = true) (W : WOk G J items gd F m st.length H) (S : Sim G F m st H) (rs : RepS G F m st.length σe σ) (hD : H D = none) (hsl : ∀ j ∈ g.slots, j ∈ own) (hk : kindT fin = true)
    (hr : dcL gd g fk fv (wipeE σe own) items [] st = .ok fin stf) (h : ∀ F' m' H', Sim G F' m' stf H' → Ext F m st.length H F' m' stf.length H' → ∀ ks, RepDT G F' m' stf.length fin ks → H' D = some (.dT ks) → F' D = none → (∀ i, i < stf.length → m' i ≠ D) → Qd H') :
    ∃ W : Nat → Nat → Hp → Prop, (∃ k, W 0 k (upd H D (.dT []))) ∧ ∀ i k H, W i k H →
      (J.stop i H ∧ Qd H) ∨ (J.go i H ∧ ∃ Nx : Hp → Prop, (∀ H', Nx H' → ∃ k', k' < k ∧ W (i + 1) k' H') ∧ ∀ x H', J.yld i H x H' → tG G g x (wipe σ own) H' fun σ2 H2 => wipe σ2 own = wipe σ own ∧ tYes σ2 H2 fun b H3 =>
        if b = true then tE G E0 fk σ2 H3 fun y H4 => tE G E0 fv σ2 H4 fun z H5 => ∃ ks k p, y = .ref p ∧ H5 p = some (.tup (k.map kV)) ∧ H5 D = some (.dT ks) ∧ ks.length < sizeLine ∧ Nx (upd H5 D (.dT (putK ks k z))) else Nx H3) := by
  obtain ⟨Gd, Y, w, hG, hY⟩ := W.ex
  have fD := S.free hD
  have mD : ∀ i, i < st.length → m i ≠ D := fun i hi => S.ne hD hi
  let Pv : Nat → Hp → Prop := fun i H' => ∃ F' m' st' acc ks, Sim G F' m' st' H' ∧ Ext F m st.length H F' m' st'.length H' ∧ gd.ok st' = true ∧ H' D = some (.dT ks) ∧ F' D = none ∧ (∀ i, i < st'.length → m' i ≠ D) ∧ RepDT G F' m' st'.length acc ks ∧
      dcL gd g fk fv (wipeE σe own) (items.drop i) acc st' = .ok fin stf
  refine ⟨fun i k H' => k = items.length - i ∧ i ≤ items.length ∧ Pv i H', ⟨_, rfl, Nat.zero_le _, F, m, st, [], [], S.other fD mD _, Ext.refl.other hD _, hgd, upd_same, fD, mD, by unfold RepDT; rfl, hr⟩, ?_⟩
  rintro i k H1 ⟨rfl, hi, F1, m1, st1, acc, ks, S1, e1, g1, hD1, fD1, mD1, ra, h1⟩
  have hg1 := hG F1 m1 st1 H1 S1 e1.w g1
  by_cases hlt : i < items.length
  · refine .inr ⟨w.goes i H1 hlt hg1, Pv (i + 1), fun H' p => ⟨items.length - (i + 1), by omega, rfl, hlt, p⟩, fun x H2 y => ?_⟩
    rw [List.drop_eq_getElem_cons hlt] at h1
    obtain ⟨F2, S2, e2, r2⟩ := hY i x items[i] F1 m1 st1 H1 H2 S1 e1.w (by simp [hlt]) g1 (w.yields i H1 x H2 hlt hg1 y)
    have e12 := e1.trans e2
    obtain ⟨hD2, fD2, mD2⟩ := e2.fr D _ hD1 (fun _ z => by cases z) fD1 mD1
    unfold dcL at h1
    cases ha : asg g items[i] (wipeE σe own) st1 with
    | none => simp only [ha] at h1; cases h1
    | some σ' =>
      simp only [ha] at h1
      refine ⟨F2, m1, st1, wipeE σe own, items[i], σ', S2, (rs.up e12).wipe own, r2, ha, fun σ2 rs2 on => ⟨wipe_same on hsl, ?_⟩⟩
      unfold tYes
      simp only [if_true]
      cases qk : fk σ' st1 with
      | no => rw [qk] at h1; cases h1
      | exc e s' => rw [qk] at h1; cases h1
      | ok kk st3 =>
        rw [qk] at h1
        refine ⟨F2, m1, σ', st1, S2, rs2, ?_⟩
        rw [qk]
        intro F3 m3 H3 S3 e3 y ry
        obtain ⟨hD3, fD3, mD3⟩ := e3.fr D _ hD2 (fun _ z => by cases z) fD2 mD2
        have h1 : ((fv σ' st3).bnd fun v st => if gd.ok st && keyFits acc false kk && decide (acc.length < lim) then dcL gd g fk fv (wipeE σe own) (items.drop (i + 1)) (dput acc kk v) st else .no) = .ok fin stf := h1
        cases qv : fv σ' st3 with
        | no => rw [qv] at h1; cases h1
        | exc e s' => rw [qv] at h1; cases h1
        | ok vv st4 =>
          rw [qv] at h1
          refine ⟨F3, m3, σ', st3, S3, rs2.up e3, ?_⟩
          rw [qv]
          intro F4 m4 H4 S4 e4 z rz
          obtain ⟨hD4, fD4, mD4⟩ := e4.fr D _ hD3 (fun _ z => by cases z) fD3 mD3
          have h1 : (if (gd.ok st4 && keyFits acc false kk && decide (acc.length < lim)) = true then dcL gd g fk fv (wipeE σe own) (items.drop (i + 1)) (dput acc kk vv) st4 else .no) = .ok fin stf := h1
          split at h1
          case isFalse => cases h1
          rename_i hb
          rw [Bool.and_eq_true, Bool.and_eq_true] at hb
          obtain ⟨⟨hg4, hkf⟩, hlen⟩ := hb
          have kd : kindT (dput acc kk vv) = true := by rw [← hk]; exact (dcL_kind h1 (dput_ne _ _ _)).symm
          have hks : ks.length < sizeLine := by rw [← repDT_len ra]; exact lim_lt (Nat.le_of_lt (of_decide_eq_true hlen))
          obtain ⟨a, rfl⟩ : ∃ a, kk = Val.tup (List.map kVal a) := key_kindT hkf kd
          have ra4 := (((ra.ext e2.same e2.mp e2.le).ext e3.same e3.mp e3.le).ext e4.same e4.mp e4.le)
          unfold Rep at ry; obtain ⟨p, us, rfl, hp1, hp2⟩ := ry; have eu := repL_kVal hp2; subst eu
          have hp4 := S4.same _ _ (e4.same _ _ hp1)
          refine ⟨ks, a, p, rfl, hp4, hD4, hks, F4, m4, st4, dput acc _ vv, putK ks a z, S4.other fD4 mD4 _, ((e12.trans e3).trans e4).other hD _, hg4, upd_same, fD4, mD4, RepDT.put rz ra4, h1⟩
  · have hi' : i = items.length := by omega
    subst hi'
    rw [List.drop_length] at h1
    unfold dcL at h1
    cases h1
    exact .inl ⟨w.stops H1 hg1, h F1 m1 H1 S1 e1 ks ra hD1 fD1 mD1⟩


def dcV (k : ItK) (own : List Nat) (g : Tg) (fk fv : Env → Store → Res Val) (σ : Env) (vs : List Val) (st : Store) : Res Val :=
  (iterV k vs st).bnd fun p st => if p.2.ok st then (match dcL p.2 g fk fv (wipeE σ own) p.1 [] st with | .ok fin st => .ok (.ref st.length) (st ++ [.dic fin false]) | _ => .no) else .no
/-- the dict at D is taken in -/
theorem adoptD {F : Hp} {m : Nat → Addr} {n : Nat} {H F1 : Hp} {m1 : Nat → Addr} {st1 : Store} {H1 : Hp} {D : Addr} {Q : VK} {fin : List (Val × Val)} {u : HO} (e : Ext F m n H F1 m1 st1.length H1) (S : Sim G F1 m1 st1 H1) (hD : H D = none) (hD1 : H1 D = some u) (fD : F1 D = none) (mD : ∀ i, i < st1.length → m1 i ≠ D)
    (r : RepD G F1 m1 st1.length fin u) (h : After G E F m n H (.ok (.ref st1.length) (st1 ++ [.dic fin false])) (KV G Q)) : Q (.ref D) H1 := by
  have sm : Same F1 (fun b => if b = D then none else H1 b) := fun b o q => by
    show (if b = D then none else H1 b) = some o
    rw [if_neg (ne_of_none q fD)]
    exact S.same b o q
  have S0 : Sim G F1 m1 st1 (fun b => if b = D then none else H1 b) := ⟨sm, fun i o q => by
    obtain ⟨u, h1, h2, h3⟩ := S.obj i o q
    exact ⟨u, by show (if m1 i = D then none else H1 (m1 i)) = some u; rw [if_neg (mD i (List.getElem?_eq_some_iff.mp q).1)]; exact h1, h2, h3⟩, S.inj⟩
  have e0 : Ext F m n H F1 m1 st1.length (fun b => if b = D then none else H1 b) := ⟨e.same, e.mp, e.le, fun a x h1 h0 h2 h3 => by
    obtain ⟨g1, g2, g3⟩ := e.fr a x h1 h0 h2 h3
    exact ⟨by show (if a = D then none else H1 a) = some x; rw [if_neg (ne_of_none h1 hD)]; exact g1, g2, g3⟩, fun a x u h1 => by
    show (if a = D then none else H1 a) = _
    rw [if_neg (ne_of_none h1 hD)]
    exact e.fz a x u h1⟩
  have eq : upd (fun b => if b = D then none else H1 b) D u = H1 := by
    funext b
    by_cases hb : b = D
    · subst hb; rw [upd_same, hD1]
    · rw [upd_ne hb]; exact if_neg hb
  obtain ⟨S2, e2⟩ := S0.push (p := D) (if_pos rfl) (o := .dic fin false) (u := u) r
  rw [eq] at S2 e2
  refine h _ _ _ S2 (e0.trans e2) _ ?_
  unfold Rep
  exact ⟨by simp, by rw [if_pos rfl]⟩
theorem dc_t {k : ItK} {fs : Env → Store → Res (List Val)} {own : List Nat} {g : Tg} {fk fv : Env → Store → Res Val} (hsl : ∀ j ∈ g.slots, j ∈ own) {σ : L2.St} {H : Hp} {Q : VK} (h : tE G E (fun σ st => (fs σ st).bnd (dcV k own g fk fv σ)) σ H Q) :
    tDc (tI G E k fs) (tG G g) tYes (tE G E0 fk) (tE G E0 fv) own σ H Q ∨ tDcT (tI G E k fs) (tG G g) tYes (tE G E0 fk) (tE G E0 fv) own σ H Q := by
  obtain ⟨F, m, σe, st, S, rs, h⟩ := h
  cases q : fs σe st with
  | no => dsimp only at h; rw [q] at h; exact h.elim
  | exc e st1 =>
    dsimp only at h
    rw [q] at h
    refine .inl ⟨F, m, σe, st, S, rs, ?_⟩
    rw [q]
    exact h
  | ok vs st1 =>
    dsimp only at h
    rw [q] at h
    have h : After G E F m st.length H (dcV k own g fk fv σe vs st1) (KV G Q) := h
    unfold dcV iterV at h
    cases hw : walk k vs st1 with
    | none => rw [hw] at h; exact h.elim
    | some p =>
      obtain ⟨items, gd, st2⟩ := p
      rw [hw] at h
      have h : After G E F m st.length H (if gd.ok st2 = true then (match dcL gd g fk fv (wipeE σe own) items [] st2 with | .ok fin st => .ok (.ref st.length) (st ++ [.dic fin false]) | _ => .no) else .no) (KV G Q) := h
      split at h
      case isFalse => exact h.elim
      cases qd : dcL gd g fk fv (wipeE σe own) items [] st2 with
      | no => rw [qd] at h; exact h.elim
      | exc e s' => rw [qd] at h; exact h.elim
      | ok fin stf =>
        rw [qd] at h
        dsimp only at h
        cases kd : kindT fin with
        | false =>
          refine .inl ⟨F, m, σe, st, S, rs, ?_⟩
          rw [q]
          intro F1 m1 H1 S1 e1
          refine ⟨items, gd, st2, hw, fun J F2 m2 H2 S2 e2 hgd W D hD => ?_⟩
          have h2 := (h.pull (st := st1) e1).pull (st := st2) e2
          exact dcL_okK hgd W S2 (rs.up (e1.trans e2)) hD hsl kd qd fun F3 m3 H3 S3 e3 ks rk hD3 fD3 mD3 => adoptD e3 S3 hD hD3 fD3 mD3 (.inl ⟨ks, rfl, rk⟩) h2
        | true =>
          refine .inr ⟨F, m, σe, st, S, rs, ?_⟩
          rw [q]
          intro F1 m1 H1 S1 e1
          refine ⟨items, gd, st2, hw, fun J F2 m2 H2 S2 e2 hgd W D hD => ?_⟩
          have h2 := (h.pull (st := st1) e1).pull (st := st2) e2
          exact dcL_okT hgd W S2 (rs.up (e1.trans e2)) hD hsl kd qd fun F3 m3 H3 S3 e3 ks rk hD3 fD3 mD3 => adoptD e3 S3 hD hD3 fD3 mD3 (.inr ⟨ks, rfl, rk⟩) h2
variable {k : ItK} {fs : Env → Store → Res (List Val)} {g : Tg} {fk fv : Env → Store → Res Val} {kx vx tg iter : Expr} {scope : Scope} {own : List (Str × Nat)}
theorem se_dc (cx : CxR X G d) (hN : X.N.Nodup) (hi : PI X tg iter (tI G E k fs)) (ok : BlkOk X.N X.env.scope scope own) (hsl : ∀ j ∈ g.slots, j ∈ own.map (·.2))
    (hg : ∀ (s : Shared) (H : Hp) (C : Addr) (cl : List (Str × Addr)) (fp : List Addr), PG (X.blk s H scope (compEnvC scope cl C X.env) fp) tg (tG G g)) (hk : ∀ (s : Shared) (H : Hp) (C : Addr) (cl : List (Str × Addr)) (fp : List Addr), PE (X.blk s H scope (compEnvC scope cl C X.env) fp) kx (tE G E0 fk))
    (he : ∀ (s : Shared) (H : Hp) (C : Addr) (cl : List (Str × Addr)) (fp : List Addr), PE (X.blk s H scope (compEnvC scope cl C X.env) fp) vx (tE G E0 fv)) (hs : ∀ x, foldedSetIterable iter X.env x = pure x) :
    PE X (.DictComp kx vx [⟨tg, iter, [], 0⟩] scope pos) (tE G E fun σ st => (fs σ st).bnd (dcV k (own.map (·.2)) g fk fv σ)) := by
  refine ⟨fun pins s σ H Q I h => ?_⟩
  have hu := cx.u65
  rcases dc_t hsl h with h | h
  · exact (pe_dc cx.calm hN hi ok hg (fun _ _ _ _ _ => pts_nil) hk he hs).run pins s σ H Q I h
  · exact (pe_dcT (by omega) cx.calm hN hi ok hg (fun _ _ _ _ _ => pts_nil) hk he hs).run pins s σ H Q I h
theorem s_setDc {i : Nat} {y : Str} {py spos : Pos} (cx : CxR X G d) (hN : X.N.Nodup) (hy : X.N[i]? = some y) (hyl : X.env.scope.names.lookup y = some .local) (hsw : swapsWith (.DictComp kx vx [⟨tg, iter, [], 0⟩] scope pos) (some (.Name y py)) spos.line X.env = pure true)
    (hi : PI X tg iter (tI G E k fs)) (ok : BlkOk X.N X.env.scope scope own) (hsl : ∀ j ∈ g.slots, j ∈ own.map (·.2))
    (hg : ∀ (s : Shared) (H : Hp) (C : Addr) (cl : List (Str × Addr)) (fp : List Addr), PG (X.blk s H scope (compEnvC scope cl C X.env) fp) tg (tG G g)) (hk : ∀ (s : Shared) (H : Hp) (C : Addr) (cl : List (Str × Addr)) (fp : List Addr), PE (X.blk s H scope (compEnvC scope cl C X.env) fp) kx (tE G E0 fk))
    (he : ∀ (s : Shared) (H : Hp) (C : Addr) (cl : List (Str × Addr)) (fp : List Addr), PE (X.blk s H scope (compEnvC scope cl C X.env) fp) vx (tE G E0 fv)) (hs : ∀ x, foldedSetIterable iter X.env x = pure x) :
    PS X (.Assign [.Name y py] (.DictComp kx vx [⟨tg, iter, [], 0⟩] scope pos) spos) (tS G E fun σ st => ((fs σ st).bnd (dcV k (own.map (·.2)) g fk fv σ)).bnd fun v st => if i < σ.length then .ok (.nx, σ.set i (some v)) st else .no) := by
  refine ⟨fun pins s σ H D I h => ?_⟩
  have hu := cx.u65
  have h : tE G E (fun σ st => (fs σ st).bnd (dcV k (own.map (·.2)) g fk fv σ)) σ H (fun x H1 => D.nx (σ.set i (some x)) H1) := by
    obtain ⟨F, m, σe, st, S, rs, h⟩ := h
    refine ⟨F, m, σe, st, S, rs, h.bnd.mono fun v st1 F1 m1 H1 S1 e1 h1 x rx => ?_⟩
    split at h1
    · exact h1 F1 m1 H1 S1 Ext.refl _ ((rs.up e1).set rx)
    · exact h1.elim
  rw [exec_Assign_Name_used _ _ _ _ hsw]
  refine wpAny_bind (wpAny_standAt (wpAny_bind ?_))
  show wpAny _ X.A (do let _ ← comprehension (.DictComp kx vx [⟨tg, iter, [], 0⟩] scope pos) scope X.env (firstIterPos [⟨tg, iter, [], 0⟩] pos) newDict false (eval iter X.env) (some (assign (.Name y py) X.env))) _ _ s
  have fin : ∀ L C s' m H', Inv X pins σ H' s' → D.nx (σ.set i (some (.ref L))) H' → s'.heap.Ns C m → FpOk X pins H' C → compPost (model X.prog X.w) X.A X.xe (some (assign (.Name y py) X.env)) (fun _ s' => SP X pins D .next s') (.ref L) C (.ok .next) s' := by
    intro L C s' m H' I' q hn f
    show wpAny _ _ (assign (.Name y py) X.env (.ref L)) _ _ _
    refine wpAny_assign_Name (store_ok2 (v := V.ref L) I' hN hy (.inl hyl) rfl (fun s2 I2 ⟨a, sb, ha⟩ => ?_) (.inr hyl))
    obtain ⟨f0, f1, f2, f3, f4, f5⟩ := f
    have haC : C ≠ a := ha.elim (fun z => by rw [z]; exact f1) fun z e => f4 y a z e.symm
    exact ⟨m, hn.sameBut sb haC, fun h3 sb3 => ⟨_, H', I2.turned (t' := s2.toks) (fun b o hb e => (sb3.2 b hb).trans e) f0 f1 f3 f4 f5, q⟩⟩
  rcases dc_t hsl h with h | h
  · exact wpAny_bind (thn (dc_core (Qf := fun _ s' => SP X pins D .next s') cx.calm hN I hi ok hg (fun _ _ _ _ _ => pts_nil) hk he hs h fin) fun _ s' hq => wpAny_pure (wpAny_pure hq))
  · exact wpAny_bind (thn (dcT_core (Qf := fun _ s' => SP X pins D .next s') (by omega) cx.calm hN I hi ok hg (fun _ _ _ _ _ => pts_nil) hk he hs h fin) fun _ s' hq => wpAny_pure (wpAny_pure hq))
end
end Mi

/-! Mi, part k7: methods of built-in things, item stores, f-strings. -/
namespace Mi
open PySem PySem.Spec PyProof.Rows L2
def rM (G : Gm) (E : XK) (g : Val → List Val → Store → Res Val) : V → List V → Hp → VK → Prop := fun x xs H Q => ∃ F m st v ws, Sim G F m st H ∧ Rep G F m st.length v x ∧ RepL G F m st.length ws xs ∧ After G E F m st.length H (g v ws st) (KV G Q)
def isTy (T : String) (v : Val) (st : Store) : Bool := match v with
  | .str _ => T == "str"
  | v => (T == "list" && (lstOf st v).isSome) || (T == "dict" && (match dicOf st v with | some (_, false) => true | _ => false))
def bmV (T : String) (g : Val → List Val → Store → Res Val) (f : Store → Res (List Val)) : Val → Store → Res Val := fun v st => if isTy T v st then (f st).bnd fun ws st => g v ws st else .no
section
variable {X : Cx} {G : Gm} {E : XK} {d : Nat} {a b c o e : Expr} {es : List Expr} {pos p2 apos cpos : Pos} {fa fb fc fo : Env → Store → Res Val} {fs : Env → Store → Res (List Val)} {T id : String} {name : Str} {g : Val → List Val → Store → Res Val}
theorem isTy_ok (cx : CxR X G d) {F : Hp} {m : Nat → Addr} {st : Store} {H : Hp} {v : Val} {x : V} (S : Sim G F m st H) (r : Rep G F m st.length v x) (h : isTy T v st = true) : tyV X.K T x H := by
  have main : ∀ v, Rep G F m st.length v x → ((T == "list" && (lstOf st v).isSome) || (T == "dict" && (match dicOf st v with | some (_, false) => true | _ => false))) = true → tyV X.K T x H := by
    intro v r h
    rw [Bool.or_eq_true, Bool.and_eq_true, Bool.and_eq_true] at h
    rcases h with ⟨h1, h2⟩ | ⟨h1, h2⟩
    · obtain ⟨xs, hx⟩ := Option.isSome_iff_exists.mp h2
      obtain ⟨p, vs, rfl, sq, rl⟩ := S.list r hx
      exact .inl ⟨eq_of_beq h1, vs, cx.K ▸ sq⟩
    · split at h2
      · rename_i kvs hx
        obtain ⟨i, u, rfl, hi, hil, rfl, g1, g2, g3⟩ := S.dict r hx
        refine .inr (.inr (.inl ⟨eq_of_beq h1, ?_⟩))
        rcases g2 with ⟨ks, rfl, rk⟩ | ⟨ks, rfl, rk⟩
        · exact .inl ⟨ks, g1⟩
        · exact .inr ⟨ks, g1⟩
      · cases h2
  unfold isTy at h
  split at h
  · unfold Rep at r; subst r
    exact eq_of_beq h
  · exact main v r h
theorem se_bm (cx : CxR X G d) (pa : PlainAttrs T) (slot : Slot T name id) (hty : typeOf (.builtin id) = pure (.type "method_descriptor")) (hm : MtR X id (rM G E g)) (ho : PE X o (tE G E fo)) (ha : PA X (e :: es) (tA G E fs))
    (hb : plainBase o = true) (h0 : notStar e = true) (h1 : noStars es = true) (hn : es.length < 28) (hl : (apos.endLine == cpos.line) = true) :
    PE X (.Call (.Attribute o name apos) (e :: es) [] cpos) (tE G E fun σ st => (fo σ st).bnd (bmV T g (fs σ))) := by
  refine PE.imp (pe_bm pa slot hty hm ho ha (attrBase hb) (few_ok (by unfold noStars; rw [List.all_cons, h0]; exact h1) (by rw [List.length_cons]; omega)) hl (starEach_plain h0) (noStars_any h1)) fun σ H Q h => ?_
  obtain ⟨F, m, σe, st, S, rs, h⟩ := h
  refine ⟨F, m, σe, st, S, rs, h.bnd.mono fun v st1 F1 m1 H1 S1 e1 h1 x rx => ?_⟩
  unfold bmV at h1
  split at h1
  · rename_i ht
    refine ⟨isTy_ok cx S1 rx ht, F1, m1, σe, st1, S1, rs.up e1, h1.bnd.mono fun ws st2 F2 m2 H2 S2 e2 h2 zs rz => ?_⟩
    exact ⟨F2, m2, st2, v, ws, S2, rx.up e2, rz, h2⟩
  · exact h1.elim
theorem se_bm0 (cx : CxR X G d) (pa : PlainAttrs T) (slot : Slot T name id) (hty : typeOf (.builtin id) = pure (.type "method_descriptor")) (hm : MtR X id (rM G E g)) (ho : PE X o (tE G E fo))
    (hb : plainBase o = true) (hl : (apos.endLine == cpos.line) = true) :
    PE X (.Call (.Attribute o name apos) [] [] cpos) (tE G E fun σ st => (fo σ st).bnd (bmV T g (fun st => .ok [] st))) := by
  refine PE.imp (pe_bm0 pa slot hty hm ho (attrBase hb) hl) fun σ H Q h => ?_
  obtain ⟨F, m, σe, st, S, rs, h⟩ := h
  refine ⟨F, m, σe, st, S, rs, h.bnd.mono fun v st1 F1 m1 H1 S1 e1 h1 x rx => ?_⟩
  unfold bmV at h1
  split at h1
  · rename_i ht
    exact ⟨isTy_ok cx S1 rx ht, F1, m1, st1, v, [], S1, rx, RepL.nil, h1⟩
  · exact h1.elim
/-- a list of the store -/
theorem Sim.mlist {F : Hp} {m : Nat → Addr} {st : Store} {H : Hp} (S : Sim G F m st H) {i : Nat} {x : V} {xs : List Val} (r : Rep G F m st.length (.ref i) x) (h : st[i]? = some (.lst xs)) : ∃ vs, i < st.length ∧ x = .ref (m i) ∧ H (m i) = some (.lst vs) ∧ RepL G F m st.length xs vs := by
  unfold Rep at r
  obtain ⟨u, g1, ⟨vs, rfl, g2⟩, g3⟩ := S.obj i _ h
  exact ⟨vs, r.1, r.2, g1, g2⟩
def appendV : Val → List Val → Store → Res Val := fun o ws st => match o, ws with
  | .ref i, [y] => match st[i]? with
    | some (.lst xs) => if xs.length < lim then .ok .non (st.set i (.lst (xs ++ [y]))) else .no
    | _ => .no
  | _, _ => .no
theorem append_ok : MtR X "list.append" (rM G E appendV) := by
  intro pins s σ H x xs v us Q I rx rv h
  obtain ⟨F, m, st, o, ws, S, ro, rw', h⟩ := h
  unfold appendV at h
  split at h
  · rename_i i y
    split at h
    · rename_i ys hst
      split at h
      · rename_i hl
        obtain ⟨vs, hi, rfl, hH, rl⟩ := S.mlist ro hst
        obtain ⟨z, rfl, rz⟩ := repL1 rw'
        refine mt_append pins s σ H _ _ v us Q I rx rv ⟨m i, vs, z, rfl, rfl, hH, by rw [← rl.length]; exact lim_lt (Nat.le_of_lt hl), ?_⟩
        obtain ⟨S3, e3⟩ := S.set (i := i) (o := .lst (ys ++ [y])) (u := .lst (vs ++ [z])) hi (fun kvs e => by rw [hst] at e; cases e) ⟨_, rfl, rl.append (RepL.cons rz RepL.nil)⟩
        exact h F m _ S3 e3 _ rep_non
      · exact h.elim
    · exact h.elim
  · exact h.elim
def extendV : Val → List Val → Store → Res Val := fun o ws st => match o, ws with
  | .ref i, [w] => match st[i]?, lstJ st w with
    | some (.lst xs), some ys => if xs.length + ys.length ≤ lim then .ok .non (st.set i (.lst (xs ++ ys))) else .no
    | _, _ => .no
  | _, _ => .no
theorem extend_ok : MtR X "list.extend" (rM G E extendV) := by
  intro pins s σ H x xs v us Q I rx rv h
  obtain ⟨F, m, st, o, ws, S, ro, rw', h⟩ := h
  unfold extendV at h
  split at h
  · rename_i i w
    split at h
    · rename_i ys zs hst hz
      split at h
      · rename_i hl
        obtain ⟨vs, hi, rfl, hH, rl⟩ := S.mlist ro hst
        obtain ⟨z, rfl, rz⟩ := repL1 rw'
        obtain ⟨b, us', rfl, hb, rb⟩ := S.listJ rz hz
        refine mt_extend pins s σ H _ _ v us Q I rx rv ⟨m i, b, vs, us', rfl, rfl, hH, hb, by rw [← rl.length, ← rb.length]; exact lim_le hl, ?_⟩
        obtain ⟨S3, e3⟩ := S.set (i := i) (o := .lst (ys ++ zs)) (u := .lst (vs ++ us')) hi (fun kvs e => by rw [hst] at e; cases e) ⟨_, rfl, rl.append rb⟩
        exact h F m _ S3 e3 _ rep_non
      · exact h.elim
    · exact h.elim
  · exact h.elim
theorem RepL.dropLast {F : Hp} {m : Nat → Addr} {n : Nat} {xs : List Val} {vs : List V} (h : RepL G F m n xs vs) : RepL G F m n xs.dropLast vs.dropLast := by
  rw [List.dropLast_eq_take, List.dropLast_eq_take, h.length]
  exact h.take _
def popV : Val → List Val → Store → Res Val := fun o ws st => match o, ws with
  | .ref i, [] => match st[i]? with
    | some (.lst xs) => (match xs[xs.length - 1]? with | some y => .ok y (st.set i (.lst xs.dropLast)) | none => .no)
    | _ => .no
  | _, _ => .no
theorem pop_ok : MtR X "list.pop" (rM G E popV) := by
  intro pins s σ H x xs v us Q I rx rv h
  obtain ⟨F, m, st, o, ws, S, ro, rw', h⟩ := h
  unfold popV at h
  split at h
  · rename_i i
    split at h
    · rename_i ys hst
      split at h
      · rename_i y hy
        obtain ⟨vs, hi, rfl, hH, rl⟩ := S.mlist ro hst
        obtain ⟨z, hz, rz⟩ := rl.get hy
        have e0 : xs = [] := by unfold RepL at rw'; exact rw'
        subst e0
        refine mt_pop pins s σ H _ _ v us Q I rx rv ⟨m i, vs, z, rfl, rfl, hH, by rw [← rl.length]; exact hz, ?_⟩
        obtain ⟨S3, e3⟩ := S.set (i := i) (o := .lst ys.dropLast) (u := .lst vs.dropLast) hi (fun kvs e => by rw [hst] at e; cases e) ⟨_, rfl, rl.dropLast⟩
        exact h F m _ S3 e3 _ (rz.up e3)
      · exact h.elim
    · exact h.elim
  · exact h.elim
/-! ### texts -/
def splitV (mt : Bool) : Val → List Val → Store → Res Val := fun o ws st => match o, ws with
  | .str a, [.str b] => if (b.length == 0) = false ∧ a.length + 2 ≤ lim then newL mt ((Txt.split a b).map .str) st else .no
  | _, _ => .no
theorem split_ok {mt : Bool} : MtR X "str.split" (rM G E (splitV mt)) := by
  intro pins s σ H x xs v us Q I rx rv h
  obtain ⟨F, m, st, o, ws, S, ro, rw', h⟩ := h
  unfold splitV at h
  split at h
  · split at h
    · rename_i a b hb
      obtain ⟨z, rfl, rz⟩ := repL1 rw'
      unfold Rep at ro rz; subst ro rz
      exact mt_split pins s σ H _ _ v us Q I rx rv ⟨a, b, rfl, rfl, hb.1, lim_le hb.2, fun p hp => fin_newL S (repL_strs _) hp h⟩
    · exact h.elim
  · exact h.elim
def joinV : Val → List Val → Store → Res Val := fun o ws st => match o, ws with
  | .str a, [w] => match seqOf st w with
    | some xs => match mapO asS xs with
      | some ys => if (ys.map (·.length)).sum + ys.length * a.length ≤ 16777216 then .ok (.str (Txt.join a ys)) st else .no
      | none => .no
    | none => .no
  | _, _ => .no
theorem join_ok (cx : CxR X G d) : MtR X "str.join" (rM G E joinV) := by
  intro pins s σ H x xs v us Q I rx rv h
  obtain ⟨F, m, st, o, ws, S, ro, rw', h⟩ := h
  unfold joinV at h
  split at h
  · rename_i a w
    split at h
    · rename_i zs hz
      split at h
      · rename_i ys hy
        split at h
        · rename_i hl
          obtain ⟨z, rfl, rz⟩ := repL1 rw'
          unfold Rep at ro; subst ro
          obtain ⟨p, vs, rfl, sq, rl⟩ := S.seq rz hz
          have := mapO_rep (k := V.str) (asS_rep) rl hy
          subst this
          rw [← cx.K] at sq
          exact mt_join pins s σ H _ _ v us Q I rx rv ⟨a, p, ys, rfl, rfl, sq, hl, h.here S _ rep_str⟩
        · exact h.elim
      · exact h.elim
    · exact h.elim
  · exact h.elim
def sindexV : Val → List Val → Store → Res Val := fun o ws st => match o, ws with
  | .str a, [.str b] => match Builtin.Str.occurrences a b 0 a.length 1 with | i :: _ => .ok (.int (i : Nat)) st | [] => .no
  | _, _ => .no
theorem sindex_ok : MtR X "str.index" (rM G E sindexV) := by
  intro pins s σ H x xs v us Q I rx rv h
  obtain ⟨F, m, st, o, ws, S, ro, rw', h⟩ := h
  unfold sindexV at h
  split at h
  · rename_i a b
    split at h
    · rename_i i r hb
      obtain ⟨z, rfl, rz⟩ := repL1 rw'
      unfold Rep at ro rz; subst ro rz
      exact mt_sindex pins s σ H _ _ v us Q I rx rv ⟨a, b, i, r, rfl, rfl, hb, h.here S _ rep_int⟩
    · exact h.elim
  · exact h.elim
/-! ### f-strings -/
def fmtV : Val → Store → Res Val := fun v st => match v with
  | .str y => if y.length ≤ lim then .ok (.str y) st else .no
  | .int i => if i.natAbs.log2 < 1920 then .ok (.str (toString i)) st else .no
  | _ => .no
theorem se_fmt (he : PE X e (tE G E fo)) : PE X (.FormattedValue e (-1) none pos) (tE G E fun σ st => (fo σ st).bnd fmtV) := by
  refine PE.imp (pe_fmt he) fun σ H Q h => ?_
  obtain ⟨F, m, σe, st, S, rs, h⟩ := h
  refine ⟨F, m, σe, st, S, rs, h.bnd.mono fun v st1 F1 m1 H1 S1 e1 h1 x rx => ?_⟩
  unfold fmtV at h1
  split at h1
  · split at h1
    · rename_i hl
      unfold Rep at rx; subst rx
      exact .inl ⟨_, rfl, lim_le hl, h1.here S1 _ rep_str⟩
    · exact h1.elim
  · split at h1
    · rename_i hl
      unfold Rep at rx; subst rx
      exact .inr ⟨_, rfl, hl, h1.here S1 _ rep_str⟩
    · exact h1.elim
  · exact h1.elim
def catV (acc : Str) (f : Str → Store → Res Val) : Val → Store → Res Val := fun v st => match v with
  | .str y => if (acc ++ y).length ≤ lim then f (acc ++ y) st else .no
  | _ => .no
def jsV : List (Env → Store → Res Val) → Str → Env → Store → Res Val
  | [], acc, _, st => .ok (.str acc) st
  | f :: fs, acc, σ, st => (f σ st).bnd (catV acc fun acc st => jsV fs acc σ st)
inductive PJv (X : Cx) (G : Gm) (E : XK) : List Expr → List (Env → Store → Res Val) → Prop where
  | nil : PJv X G E [] []
  | cons {e : Expr} {f : Env → Store → Res Val} {es : List Expr} {fs : List (Env → Store → Res Val)} (h : PE X e (tE G E f)) (r : PJv X G E es fs) : PJv X G E (e :: es) (f :: fs)
theorem PJv.pj {es : List Expr} {gs : List (Env → Store → Res Val)} (h : PJv X G E es gs) : PJ X es (gs.map fun f => tE G E f) := by
  induction h with
  | nil => exact .nil
  | cons h r ih => exact .cons h ih
theorem js_t {Q : VK} : ∀ (gs : List (Env → Store → Res Val)) (acc : Str) (σ : L2.St) (H : Hp), tE G E (jsV gs acc) σ H Q → tJs (gs.map fun f => tE G E f) acc σ H fun out H1 => Q (.str out) H1
  | [], acc, σ, H, h => by
    obtain ⟨F, m, σe, st, S, rs, h⟩ := h
    exact h.here S _ rep_str
  | f :: gs, acc, σ, H, h => by
    obtain ⟨F, m, σe, st, S, rs, h⟩ := h
    refine ⟨F, m, σe, st, S, rs, h.bnd.mono fun v st1 F1 m1 H1 S1 e1 h1 x rx => ?_⟩
    unfold catV at h1
    split at h1
    · split at h1
      · rename_i y hl
        unfold Rep at rx; subst rx
        exact ⟨y, rfl, lim_le hl, js_t gs _ σ H1 ⟨F1, m1, σe, st1, S1, rs.up e1, h1⟩⟩
      · exact h1.elim
    · exact h1.elim
theorem se_joined {v1 v2 : Expr} {rest : List Expr} {gs : List (Env → Store → Res Val)} (h : PJv X G E (v1 :: v2 :: rest) gs) : PE X (.JoinedStr (v1 :: v2 :: rest) pos) (tE G E (jsV gs Str.empty)) :=
  PE.imp (pe_joined h.pj) fun σ H Q h => js_t gs _ σ H h
theorem se_joined1 (h : PE X e (tE G E fo)) : PE X (.JoinedStr [e] pos) (tE G E fo) := pe_joined1 h
end
end Mi

/-! Mi, part k8: item stores, dict displays, x += e. -/
namespace Mi
open PySem PySem.Spec PyProof.Rows L2
def setIV : Val → Val → Val → Store → Res Unit := fun o k v st => match o with
  | .ref i => match st[i]? with
    | some (.lst xs) => (match k with
      | .int j => (match ixN xs.length j with | some n => .ok () (st.set i (.lst (xs.set n v))) | none => .no)
      | _ => .no)
    | some (.dic kvs false) => if keyFits kvs false k && decide (kvs.length < lim) then .ok () (st.set i (.dic (dput kvs k v) false)) else .no
    | _ => .no
  | _ => .no
def rSt (G : Gm) (E : XK) : TSet := fun o i v H Q => ∃ F m st a b c, Sim G F m st H ∧ Rep G F m st.length a o ∧ Rep G F m st.length b i ∧ Rep G F m st.length c v ∧ After G E F m st.length H (setIV a b c st) (fun _ _ _ _ H' => Q H')
theorem RepL.set {G : Gm} {F : Hp} {m : Nat → Addr} {n : Nat} {v : Val} {x : V} (r : Rep G F m n v x) : ∀ {xs : List Val} {vs : List V} (j : Nat), RepL G F m n xs vs → RepL G F m n (xs.set j v) (vs.set j x)
  | [], _, _, h => by unfold RepL at h; subst h; exact RepL.nil
  | y :: xs, _, 0, h => by
    unfold RepL at h
    obtain ⟨z, zs, rfl, h1, h2⟩ := h
    exact RepL.cons r h2
  | y :: xs, _, j + 1, h => by
    unfold RepL at h
    obtain ⟨z, zs, rfl, h1, h2⟩ := h
    exact RepL.cons h1 (h2.set r j)
theorem upd_upd {H : Hp} {a : Addr} {o u : HO} : upd (upd H a o) a u = upd H a u := by
  funext b
  by_cases hb : b = a
  · subst hb; rw [upd_same, upd_same]
  · rw [upd_ne hb, upd_ne hb, upd_ne hb]
section
variable {X : Cx} {G : Gm} {E : XK} {d : Nat} {a b c o e : Expr} {es : List Expr} {pos p2 apos cpos : Pos} {fa fb fc fo : Env → Store → Res Val} {fs : Env → Store → Res (List Val)} {T id : String} {name : Str} {g : Val → List Val → Store → Res Val}
theorem set_ok (cx : CxR X G d) : PSet X (rSt G E) := by
  intro pins s σ H o i v ov iv u Q I ro ri rv h
  obtain ⟨F, m, st, a, b, c, S, ra, rb, rc, h⟩ := h
  have hu : X.A.units + 1 < cLine := by have := cx.u65; omega
  unfold setIV at h
  split at h
  · rename_i j
    split at h
    · rename_i xs hst
      split at h
      · split at h
        · rename_i n hn
          obtain ⟨vs, hi, rfl, hH, rl⟩ := S.mlist ra hst
          unfold Rep at rb; subst rb
          refine set_list pins s σ H _ _ _ ov iv u Q I ro ri rv ⟨m j, vs, _, n, rfl, rfl, hH, by rw [← rl.length]; exact hn, ?_⟩
          obtain ⟨S3, e3⟩ := S.set (i := j) (o := .lst (xs.set n c)) (u := .lst (vs.set n v)) hi (fun kvs e => by rw [hst] at e; cases e) ⟨_, rfl, rl.set rc n⟩
          exact h F m _ S3 e3
        · exact h.elim
      · exact h.elim
    · rename_i kvs hst
      split at h
      · rename_i hk
        rw [Bool.and_eq_true] at hk
        have hl := of_decide_eq_true hk.2
        unfold Rep at ra
        obtain ⟨hi, rfl⟩ := ra
        obtain ⟨u0, g1, g2, g3⟩ := S.obj j _ hst
        cases (show ov = Value.ref (m j) from ro)
        have nl : ∀ kvs', st[j]? ≠ some (.dic kvs' true) := fun kvs' e => by rw [hst] at e; cases e
        -- the two kinds
        have goK : ∀ (ks : List (Key × V)) (k : Key), RepDK G F m st.length kvs ks → b = kVal k → Inv X pins σ (upd H (m j) (.dK ks)) s → wpAny (model X.prog X.w) X.A (setItem (.ref (m j)) iv u) (fun _ s' => ∃ H', Inv X pins σ H' s' ∧ Q H') X.xe s := by
          intro ks k rk hb I'
          subst hb
          have hi' := rep_kVal rb
          subst hi'
          refine d_setItem hu I' (DPut.k (k := k) (v := v) upd_same (by rw [← repDK_len rk]; exact lim_lt (Nat.le_of_lt hl))) ri rv fun s' I2 => ⟨_, I2, ?_⟩
          rw [upd_upd]
          obtain ⟨S3, e3⟩ := S.set (i := j) (o := .dic (dput kvs (kVal k) c) false) (u := .dK (putK ks k v)) hi nl (.inl ⟨_, rfl, rk.put rc⟩)
          exact h F m _ S3 e3
        have goT : ∀ (ks : List (List Key × V)) (k : List Key), RepDT G F m st.length kvs ks → b = .tup (k.map kVal) → Inv X pins σ (upd H (m j) (.dT ks)) s → wpAny (model X.prog X.w) X.A (setItem (.ref (m j)) iv u) (fun _ s' => ∃ H', Inv X pins σ H' s' ∧ Q H') X.xe s := by
          intro ks k rk hb I'
          subst hb
          unfold Rep at rb
          obtain ⟨pa, ys, rfl, hp, rl⟩ := rb
          have := repL_kVal rl
          subst this
          have hne : pa ≠ m j := fun z => by rw [z, g3] at hp; cases hp
          refine d_setItem hu I' (DPut.t (k := k) (v := v) upd_same (by rw [upd_ne hne]; exact S.same _ _ hp) (by rw [← repDT_len rk]; exact lim_lt (Nat.le_of_lt hl))) ri rv fun s' I2 => ⟨_, I2, ?_⟩
          rw [upd_upd]
          obtain ⟨S3, e3⟩ := S.set (i := j) (o := .dic (dput kvs (.tup (k.map kVal)) c) false) (u := .dT (putK ks k v)) hi nl (.inr ⟨_, rfl, rk.put rc⟩)
          exact h F m _ S3 e3
        have same : upd H (m j) u0 = H := by
          funext z
          by_cases hz : z = m j
          · subst hz; rw [upd_same, g1]
          · rw [upd_ne hz]
        by_cases hs : scalarKey b = true
        · obtain ⟨k, hk'⟩ := scalar_key hs
          rcases g2 with ⟨ks, rfl, rk⟩ | ⟨ks, rfl, rk⟩
          · exact goK ks k rk hk' (by rw [same]; exact I)
          · cases kvs with
            | nil =>
              have : ks = [] := by unfold RepDT at rk; exact rk
              subst this
              exact goK [] k (by unfold RepDK; rfl) hk' (Inv.toK I g1)
            | cons kv r =>
              obtain ⟨kk, vv⟩ := kv
              unfold RepDT at rk
              obtain ⟨a', y, ys, _, rfl, _, _⟩ := rk
              have := hk.1
              unfold keyFits at this
              rw [Bool.and_eq_true] at this
              have h2 := this.2
              dsimp only at h2
              rw [hs] at h2
              cases h2
        · have hs' : scalarKey b = false := by simpa using hs
          obtain ⟨k, hk'⟩ : ∃ k : List Key, b = .tup (k.map kVal) := by
            have := hk.1
            unfold keyFits at this
            rw [Bool.and_eq_true] at this
            have h1 := this.1
            cases b <;> simp [isKey, scalarKey] at h1 hs'
            rename_i ys
            obtain ⟨a, ha⟩ := scalar_keys (ks := ys) (by rw [List.all_eq_true]; exact h1)
            exact ⟨a, by rw [ha]⟩
          rcases g2 with ⟨ks, rfl, rk⟩ | ⟨ks, rfl, rk⟩
          · cases kvs with
            | nil =>
              have : ks = [] := by unfold RepDK at rk; exact rk
              subst this
              exact goT [] k (by unfold RepDT; rfl) hk' (Inv.toT I g1)
            | cons kv r =>
              obtain ⟨kk, vv⟩ := kv
              unfold RepDK at rk
              obtain ⟨a', y, ys, _, rfl, _, _⟩ := rk
              have := hk.1
              unfold keyFits at this
              rw [Bool.and_eq_true] at this
              have h2 := this.2
              dsimp only at h2
              rw [hs'] at h2
              cases a' <;> cases h2
          · exact goT ks k rk hk' (by rw [same]; exact I)
      · exact h.elim
    · exact h.elim
  · exact h.elim
theorem s_setI (cx : CxR X G d) (ho : PE X a (tE G E fa)) (hi : PE X b (tE G E fb)) (hv : PE X c (tE G E fc)) (hn : noSlice b = true) (hs : swapsWithSole [.Subscript a b p2] c pos.line X.env = pure false) (hw : swappedStores [.Subscript a b p2] c X.env = pure none) :
    PS X (.Assign [.Subscript a b p2] c pos) (tS G E fun σ st => (fc σ st).bnd fun v st => (fa σ st).bnd fun o st => (fb σ st).bnd fun i st => (setIV o i v st).bnd fun _ st => .ok (.nx, σ) st) := by
  refine PS.imp (ps_asg hv (pg_sub ho hi (set_ok (E := E) cx) (by cases b <;> first | (intro _; rfl) | cases hn)) hs hw (by rfl)) fun D σ H h => ?_
  obtain ⟨F, m, σe, st, S, rs, h⟩ := h
  refine ⟨F, m, σe, st, S, rs, h.bnd.mono fun v st1 F1 m1 H1 S1 e1 h1 z rz => ?_⟩
  refine ⟨F1, m1, σe, st1, S1, rs.up e1, h1.bnd.mono fun o st2 F2 m2 H2 S2 e2 h2 x rx => ?_⟩
  refine ⟨F2, m2, σe, st2, S2, (rs.up e1).up e2, h2.bnd.mono fun i st3 F3 m3 H3 S3 e3 h3 y ry => ?_⟩
  refine ⟨F3, m3, st3, o, i, v, S3, rx.up e3, ry, (rz.up e2).up e3, h3.bnd.mono fun _ st4 F4 m4 H4 S4 e4 h4 => ?_⟩
  exact h4 F4 m4 H4 S4 Ext.refl _ ((((rs.up e1).up e2).up e3).up e4)
/-! ### dict displays -/
theorem se_dict0 : PE X (.Dict [] [] pos) (tE G E fun _ st => .ok (.ref st.length) (st ++ [.dic [] false])) := by
  refine PE.imp pe_dnewK fun σ H Q h p hp => ?_
  obtain ⟨F, m, σe, st, S, rs, h⟩ := h
  obtain ⟨S2, e2⟩ := S.push (o := .dic [] false) (u := .dK []) hp (.inl ⟨[], rfl, by unfold RepDK; rfl⟩)
  refine h _ _ _ S2 e2 _ ?_
  unfold Rep
  exact ⟨by simp, by rw [if_pos rfl]⟩
/-- {k: v}, k a tuple of texts and ints -/
def tDT1 (tk tv : TE) : TE := fun σ H Q => ∀ D, H D = none → tPairs [(tk, tv)] σ (upd H D (.dT [])) fun ps H2 => ∃ y z k p, ps = [(y, z)] ∧ y = .ref p ∧ H2 p = some (.tup (k.map kV)) ∧ H2 D = some (.dT []) ∧ Q (.ref D) (upd H2 D (.dT [(k, z)]))
theorem pe_dT1 {tk tv : TE} (hu : X.A.units + 1 < cLine) (hk : PE X a tk) (hv : PE X b tv) : PE X (.Dict [some a] [b] pos) (tDT1 tk tv) := by
  refine ⟨fun pins s σ H Q I h => ?_⟩
  have hn := I.hok.fresh (Nat.le_refl s.heap.objs.size)
  have I1 := I.laid (a := s.heap.objs.size) (o := .dT []) (h' := s.heap.push { cls := .type "dict", data := .dict #[] }) (t' := s.toks) (fun _ _ q => Heap.get?_push_of_some _ q) (Nat.le_refl _) (dt_empty s.heap I.big)
  refine wpAny_Dict_any rfl rfl (fun z => nomatch z) (by simp) ?_
  have hp := (pps_cons (pos := pos) hk hv pps_nil).run pins _ σ _ _ I1 (h _ hn)
  refine thn hp fun vs s1 hv => ?_
  obtain ⟨ps, H2, I2, rel, y, z, k, p, rfl, rfl, h1, h2, h3⟩ := hv
  cases rel with
  | cons r1 rel =>
    cases rel
    rename_i q
    obtain ⟨q1, q2⟩ := q
    obtain ⟨r1, r2⟩ := r1
    cases (show q1 = Value.ref p from r1)
    unfold storeAll
    simp only [List.forIn_cons, List.forIn_nil]
    refine wpAny_bind (wpAny_bind (d_putT (ks := []) hu I2 h2 (by rw [sizeLine_eq]; decide) h1 r2 fun s' I3 => ?_))
    exact wpAny_pure (wpAny_pure ⟨.ref _, _, I3, rfl, h3⟩)
def dT1V (k v : Val) (st : Store) : Res Val := match k with
  | .tup xs => if xs.all scalarKey then .ok (.ref st.length) (st ++ [.dic [(k, v)] false]) else .no
  | _ => .no
theorem se_dT1 (cx : CxR X G d) (hk : PE X a (tE G E fa)) (hv : PE X b (tE G E fb)) : PE X (.Dict [some a] [b] pos) (tE G E fun σ st => (fa σ st).bnd fun k st => (fb σ st).bnd fun v st => dT1V k v st) := by
  have hu : X.A.units + 1 < cLine := by have := cx.u65; omega
  refine PE.imp (pe_dT1 hu hk hv) fun σ H Q h D hD => ?_
  obtain ⟨F, m, σe, st, S, rs, h⟩ := h
  have S0 : Sim G F m st (upd H D (.dT [])) := S.other (S.free hD) (fun i hi => S.ne hD hi) _
  have e0 : Ext F m st.length H F m st.length (upd H D (.dT [])) := Ext.refl.other hD _
  refine ⟨F, m, σe, st, S0, rs, (After.keep e0 h).mono fun k st1 F1 m1 H1 S1 e1 h1 x rx => ?_⟩
  refine ⟨F1, m1, σe, st1, S1, rs.up e1, (After.keep (e0.trans e1) h1).mono fun v st2 F2 m2 H2 S2 e2 h2 y ry => ?_⟩
  unfold dT1V at h2
  split at h2
  · rename_i xs
    split at h2
    · rename_i hx
      obtain ⟨ks, rfl⟩ := scalar_keys hx
      have rx2 := rx.up e2
      unfold Rep at rx2
      obtain ⟨p, ys, rfl, hp, rl⟩ := rx2
      have := repL_kVal rl
      subst this
      have e12 := e1.trans e2
      obtain ⟨q1, q2, q3⟩ := e12.fr D (.dT []) upd_same (fun xs z => by cases z) (S.free hD) (fun i hi => S.ne hD hi)
      refine ⟨_, y, ks, p, rfl, rfl, S2.same _ _ hp, q1, ?_⟩
      have S3 : Sim G F2 m2 st2 (upd H2 D (.dT [(ks, y)])) := S2.other q2 q3 _
      have e3 : Ext F m st.length H F2 m2 st2.length (upd H2 D (.dT [(ks, y)])) := ⟨e12.same, e12.mp, e12.le, fun a o h1 h0 h2 h3 => by
        have ne : a ≠ D := ne_of_none h1 hD
        obtain ⟨g1, g2, g3⟩ := e12.fr a o (by rw [upd_ne ne]; exact h1) h0 h2 h3
        exact ⟨by rw [upd_ne ne]; exact g1, g2, g3⟩, fun a o u h1 => by
        have ne : a ≠ D := ne_of_none h1 hD
        rw [upd_ne ne]
        exact e12.fz a o u (by rw [upd_ne ne]; exact h1)⟩
      refine adoptD e3 S3 hD upd_same q2 q3 (.inr ⟨_, rfl, ?_⟩) h2
      unfold RepDT
      exact ⟨ks, y, [], rfl, rfl, ry, by unfold RepDT; rfl⟩
    · exact h2.elim
  · exact h2.elim
/-! ### x += e -/
def iaddV : Val → Val → Store → Res Val := fun x y st => match x, y with
  | .int i, .int j => .ok (.int (i + j)) st
  | _, _ => .no
theorem iadd_ok : PIp X .Add (rV2 G E iaddV) := by
  intro pins s σ H x y v u Q I rx ry h
  obtain ⟨F, m, st, a, b, S, ra, rb, h⟩ := h
  unfold iaddV at h
  split at h
  · rename_i i j
    unfold Rep at ra rb; subst ra rb
    exact ip_add pins s σ H _ _ v u Q I rx ry ⟨i, j, rfl, rfl, h.here S _ rep_int⟩
  · exact h.elim
end
end Mi

/-! Mi, part k9: own special methods. -/
namespace Mi
open PySem PySem.Spec PyProof.Rows L2
/-- class number c has the def named m; what a call of it does -/
def OwnOk (X : Cx) (G : Gm) (k : Nat) (c : Nat) (m : Str) (run : List Val → Store → Res Val) : Prop :=
  ∃ f fd ps, PySem.W.findIn X.K (.ref (G.cad c)) m = some (some (.ref f)) ∧ PySem.W.isFn X.K (.ref f) = true ∧ Binds X.K fd ps [] ∧ FnOk X.prog X.w X.K X.mg X.base CX0 k f fd ps (spF G run)
section
variable {X : Cx} {G : Gm} {d k : Nat} {run : List Val → Store → Res Val} {f : Addr} {fd : FuncData} {ps : List Str}
theorem run_own {A : Around} {pins : List (Addr × Obj)} {s : Shared} {σ : L2.St} {H : Hp} {vs : List V} {us : List Value} {Q : VK} (sb : Sub X k A) (F : FnOk X.prog X.w X.K X.mg X.base CX0 k f fd ps (spF G run)) (hb : Binds X.K fd ps []) (I : Inv X pins σ H s) (r : Vals vs us) (h : spF G run vs H Q E0) :
    wpAny (model X.prog X.w) A (call (.ref f) us) (EP X pins σ Q) X.xe s := by
  have e0 : Env0 X.prog X.w X.K X.mg X.base A X.stack s H := by
    have e := I.env0
    exact ⟨by rw [sb.fr]; exact e.frames, e.mod, e.bs, e.bsz, e.funs, e.frf, e.hok, e.bare⟩
  have hl := F.len _ _ _ _ h
  refine wpAny_call (codeAny_mono (F.run A X.stack s H ⟨us, []⟩ us vs _ E0 sb.room e0 (by
    have := hb s us I.kIn (by rw [List.append_nil, ← hl, r.length])
    simpa using this) r h) fun r s' hq => ?_)
  cases r with
  | error e => exact pass0 pins σ H s e s' I hq
  | ok fl =>
    cases fl with
    | ret w => exact I.after hq
    | next => exact False.elim hq
    | brk => exact False.elim hq
    | cont => exact False.elim hq
/-! ### x == y, x != y -/
theorem ne_own {A : Around} {E : Value → Shared → Prop} {s : Shared} {K : PySem.W.Frag} {x C f : Addr} {ox : Obj} {od : Option Obj} {b tb : Value} {prog : Program} {w : World} {Q : Value → Shared → Prop} (hu : A.units + 1 < cLine) (KI : K.In s.heap) (I : PySem.W.InstAt s.heap x ox C od)
    (hb : PySem.W.Looks (model prog w) s.heap (typeOf b) tb) (hn : PySem.W.notFirst K C tb = true) (hne : PySem.W.findIn K (.ref C) "__ne__" = some (some (.builtin "object.__ne__"))) (hm : PySem.W.mroIn K C (.type "object") = some true)
    (hs : PySem.W.findIn K (.ref C) "__eq__" = some (some (.ref f))) (hf : PySem.W.isFn K (.ref f) = true)
    (h : wpAny (model prog w) A.in1 (call (.ref f) [.ref x, b]) (fun v s' => ∃ r, v = .bool r ∧ Q (.bool (!r)) s') E s) : wpAny (model prog w) A (richCompare .NotEq (.ref x) b) Q E s := by
  have hu0 : A.units < cLine := Nat.lt_of_succ_lt hu
  have entry : ∀ R : Fin → Shared → Prop, (∀ r s', Q (.bool r) s' → R (.done (.ret (.bool r))) s') → wpAny (model prog w) A.in1 (Builtin.«object.__ne__» ⟨[.ref x, b], []⟩) R E s := by
    intro R hR
    unfold Builtin.«object.__ne__»
    refine wpAny_bind (m := slotArgs "__ne__" 1 _) (wpAny_of_eq rfl ?_)
    refine wpAny_bind (wpAny_cRoomFor (show A.in1.units < cLine from hu) ?_)
    refine wpAny_bind (PySem.W.ifBound_K KI I hs hf (wpAny_mono h (fun v s' hv => ?_) fun _ _ e => e))
    obtain ⟨r, rfl, hq⟩ := hv
    exact wpAny_bind (wpAny_truthy_bool (wpAny_pure (hR _ _ hq)))
  have one : wpAny (model prog w) A (tryCompare (.ref x) "__ne__" b) (fun r s' => ∃ v, r = some v ∧ Q v s') E s := by
    unfold tryCompare
    have cl : wpAny (model prog w) A (call (.builtin "object.__ne__") [.ref x, b]) (fun v s' => ∃ r, v = .bool r ∧ Q (.bool r) s') E s :=
      wpAny_call (codeAny_call_builtin F.cmp_object.ne.plain F.cmpEntry_ne (PySem.W.check_slot F.cmpKind_ne F.cmpSplit_ne (I.type.andThen (PySem.W.looks_mroIn KI hm)) (F.cmpArgs_ne _ _) (entry _ fun r s' q => ⟨r, rfl, q⟩)))
    have bd : wpAny (model prog w) A (callSpecialIfBound? (.ref x) "__ne__" [b]) (fun r s' => ∃ q, r = some (.bool q) ∧ Q (.bool q) s') E s := by
      simp only [callSpecialIfBound?, bindSpecialIfBound?]
      refine wpAny_holding (wpAny_bind (wpAny_bind (wpAny_bind (I.type.here ((PySem.W.looks_findIn KI hne).here ?_)))))
      refine wpAny_bind (wpAny_askSetting (wpAny_ite ?_))
      have fin : wpAny (model prog w) A (call (.builtin "object.__ne__") ([.ref x] ++ [b]) >>= fun v => pure (some v)) (fun r s' => ∃ q, r = some (.bool q) ∧ Q (.bool q) s') E s := wpAny_bind (wpAny_mono cl (fun v s' ⟨q, e, hq⟩ => wpAny_pure ⟨q, by rw [e], hq⟩) fun _ _ h' => h')
      split
      · exact wpAny_bind (wpAny_of_eq (F.cmp_object.ne.bind _) (wpAny_pure (by exact fin)))
      · exact wpAny_tryCatch (wpAny_bind (wpAny_of_eq (F.cmp_object.ne.bind _) (wpAny_pure (by exact fin))))
    refine wpAny_bind (wpAny_mono bd (fun r s' hr => ?_) fun _ _ e => e)
    obtain ⟨q, rfl, hq⟩ := hr
    exact wpAny_pure ⟨_, rfl, hq⟩
  unfold richCompare
  simp only [oneThing_ref]
  refine wpAny_holding (wpAny_bind (wpAny_cRoomFor hu0 ?_))
  refine wpAny_bind (I.type.here (wpAny_bind (hb.here ?_)))
  split
  · rename_i q
    have e : PySem.W.subIn K tb (.ref C) = some false := by
      rcases Bool.or_eq_true_iff.mp hn with e | e
      · rw [beq_iff_eq.mp e] at q; simp at q
      · exact beq_iff_eq.mp e
    refine wpAny_bind ((PySem.W.looks_subIn KI e).here ?_)
    simp only [Bool.false_eq_true, if_false]
    refine wpAny_bind (wpAny_mono one (fun r s' z => ?_) fun _ _ e => e)
    obtain ⟨v, rfl, hq⟩ := z
    exact wpAny_pure hq
  · refine wpAny_bind (wpAny_pure ?_)
    simp only [Bool.false_eq_true, if_false]
    refine wpAny_bind (wpAny_mono one (fun r s' z => ?_) fun _ _ e => e)
    obtain ⟨v, rfl, hq⟩ := z
    exact wpAny_pure hq
end
end Mi

/-! Mi, part l1: kinds of values, isinstance, own operators. -/
namespace Mi
open PySem PySem.Spec PyProof.Rows L2
inductive Kd where
  | non | bl | int | str | lst | tup | dic | cls (c : Nat)
deriving DecidableEq
def kdOf (oc : Nat → Bool) (st : Store) : Val → Option Kd
  | .non => some .non
  | .bl _ => some .bl
  | .int _ => some .int
  | .str _ => some .str
  | .tup _ => some .tup
  | .wt _ => some .tup
  | .wl _ => some .lst
  | .fl _ => some .lst
  | .ref i => match st[i]? with
    | some (.lst _) => some .lst
    | some (.dic _ false) => some .dic
    | some (.ins c _) => if oc c then some (.cls c) else none
    | _ => none
  | .ins c _ => if oc c then some (.cls c) else none
  | .cl _ => none
def Kd.tv (G : Gm) : Kd → Value
  | .non => .type "NoneType"
  | .bl => .type "bool"
  | .int => .type "int"
  | .str => .type "str"
  | .lst => .type "list"
  | .tup => .type "tuple"
  | .dic => .type "dict"
  | .cls c => .ref (G.cad c)
structure CI (K : PySem.W.Frag) (C : Addr) : Prop where
  cl : Cls K C
  ha : PySem.W.findIn K (.ref C) "__class__" = some (some (.builtin "object.__class__"))
  hn : PySem.W.specialIn K (.builtin "object.__class__") "__get__" = some (some (.builtin "getset_descriptor.__get__"))
  htk : PySem.W.takesIn K (.builtin "object.__class__") = some true
  hm : PySem.W.mroIn K C (.type "object") = some true
section
variable {X : Cx} {G : Gm} {E : XK} {d k : Nat} {a b c e o : Expr} {es : List Expr} {pos p p2 apos : Pos} {fa fb fc fo : Env → Store → Res Val} {fs : Env → Store → Res (List Val)} {oc : Nat → Bool}
theorem kd_ok (cx : CxR X G d) (hoc : ∀ c, oc c = true → CI X.K (G.cad c)) {F : Hp} {m : Nat → Addr} {st : Store} {H : Hp} {v : Val} {x : V} {kd : Kd} (S : Sim G F m st H) (r : Rep G F m st.length v x) (h : kdOf oc st v = some kd) : TyX X.K H x (kd.tv G) := by
  have lst : ∀ xs, lstOf st v = some xs → TyX X.K H x (.type "list") := by
    intro xs hx
    obtain ⟨p, vs, rfl, sq, rl⟩ := S.list r hx
    rcases sq with (sq | ⟨o, sq⟩) | ⟨o, its, n, q1, q2, _⟩
    · exact .base (.lst sq)
    · exact .base (.frz sq)
    · exact .kList (cx.K ▸ q1) q2
  have ins : ∀ c fs, fldsOf st v = some (c, fs) → oc c = true → TyX X.K H x (.ref (G.cad c)) := by
    intro c fs hf ho
    obtain ⟨p, dx, vs, rfl, g1, g2⟩ := S.flds r hf
    obtain ⟨h1, h2, h3, h4, h5⟩ := hoc c ho
    exact .base (.ins g1 h1 h2 h3 h4 h5)
  cases v with
  | non => cases h; unfold Rep at r; subst r; exact .base .non
  | bl y => cases h; unfold Rep at r; subst r; exact .base (.bl _)
  | int y => cases h; unfold Rep at r; subst r; exact .base (.int _)
  | str y => cases h; unfold Rep at r; subst r; exact .base (.str _)
  | tup ys =>
    cases h
    unfold Rep at r
    obtain ⟨p, vs, rfl, h1, h2⟩ := r
    exact .base (.tup (S.same _ _ h1))
  | wt ys =>
    cases h
    unfold Rep at r
    obtain ⟨p, vs, rfl, h1, h2⟩ := r
    rcases Same.sqT S.same h1 with (sq | ⟨o, sq⟩) | ⟨o, its, n, q1, q2, _⟩
    · exact .base (.tup sq)
    · exact .fTuple sq
    · exact .kTuple (cx.K ▸ q1) q2
  | wl ys => cases h; exact lst _ rfl
  | fl ys => cases h; exact lst _ rfl
  | ins c fs =>
    simp only [kdOf] at h
    split at h
    · rename_i ho; cases h; exact ins c fs rfl ho
    · cases h
  | cl c => cases h
  | ref i =>
    simp only [kdOf] at h
    cases q : st[i]? with
    | none => rw [q] at h; cases h
    | some o =>
      cases o with
      | lst xs => rw [q] at h; cases h; exact lst xs (by simp [lstOf, q])
      | dic kvs lk =>
        cases lk with
        | true => rw [q] at h; cases h
        | false =>
          rw [q] at h; cases h
          obtain ⟨j, u, _, hi, hil, rfl, g1, g2, g3⟩ := S.dict r (kvs := kvs) (lk := false) (by simp [dicOf, q])
          rcases g2 with ⟨ks, rfl, rk⟩ | ⟨ks, rfl, rk⟩
          · exact .base (.dK g1)
          · exact .base (.dT g1)
      | ins c fs =>
        rw [q] at h
        dsimp only at h
        split at h
        · rename_i ho; cases h; exact ins c fs (by simp [fldsOf, q]) ho
        · cases h
/-! ### isinstance -/
def isiV (oc : Nat → Bool) (tb : Kd → Option Bool) : Val → Store → Res Val := fun v st => match kdOf oc st v with
  | some kd => bool (tb kd) st
  | none => .no
theorem se_isi (cx : CxR X G d) (hoc : ∀ c, oc c = true → CI X.K (G.cad c)) {tb : Kd → Option Bool} {cv : V} {cu : Value} (hg : Gl X "isinstance") (hm : X.mg "isinstance" = none) (ha : PE X a (tE G E fa)) (hb : PE X b (tC cv)) (hc : ClsV cv cu) (ht : ∀ kd r, tb kd = some r → PySem.W.kitOne X.K (kd.tv G) cu = some r) (h0 : notStar a = true) (h1 : notStar b = true) :
    PE X (.Call (.Name "isinstance" p) [a, b] [] pos) (tE G E fun σ st => (fa σ st).bnd (isiV oc tb)) := by
  refine PE.imp (pe_callB call_isi hg hm (by decide +kernel) (pa_cons ha (pa_cons hb pa_nil (starEach_plain h1)) (starEach_plain h0)) (by decide) (by decide) (starEach_plain h0) (noStars_any (by unfold noStars; rw [List.all_cons, h1]; rfl))) fun σ H Q h => ?_
  obtain ⟨F, m, σe, st, S, rs, h⟩ := h
  refine ⟨F, m, σe, st, S, rs, h.bnd.mono fun v st1 F1 m1 H1 S1 e1 h1 x rx => ?_⟩
  unfold isiV at h1
  split at h1
  · rename_i kd hk
    obtain ⟨r, hr, h1⟩ := afterB h1
    exact ⟨x, cv, _, cu, r, rfl, hc, kd_ok cx hoc S1 rx hk, ht kd r hr, h1 F1 m1 H1 S1 Ext.refl⟩
  · exact h1.elim
theorem se_isiT (cx : CxR X G d) (hoc : ∀ c, oc c = true → CI X.K (G.cad c)) {tb : Kd → Option Bool} {c1 c2 : V} {u1 u2 : Value} {kt} (hg : Gl X "isinstance") (hm : X.mg "isinstance" = none) (ha : PE X a (tE G E fa)) (hb : PE X b (tC c1)) (hc : PE X c (tC c2)) (k1 : ClsV c1 u1) (k2 : ClsV c2 u2) (ht : ∀ kd r, tb kd = some r → PySem.W.kitAny X.K (kd.tv G) [u1, u2] = some r) (h0 : notStar a = true) (h1 : notStar b = true) (h2 : notStar c = true) :
    PE X (.Call (.Name "isinstance" p) [a, .Tuple [b, c] kt p2] [] pos) (tE G E fun σ st => (fa σ st).bnd (isiV oc tb)) := by
  refine PE.imp (pe_callB call_isiT hg hm (by decide +kernel) (pa_cons ha (pa_cons (pe_tup (pa_cons hb (pa_cons hc pa_nil (starEach_plain h2)) (starEach_plain h1))) pa_nil) (starEach_plain h0)) (by decide) (by decide) (starEach_plain h0) rfl) fun σ H Q h => ?_
  obtain ⟨F, m, σe, st, S, rs, h⟩ := h
  refine ⟨F, m, σe, st, S, rs, h.bnd.mono fun v st1 F1 m1 H1 S1 e1 h1 x rx => ?_⟩
  unfold isiV at h1
  split at h1
  · rename_i kd hk
    obtain ⟨r, hr, h1⟩ := afterB h1
    refine ⟨by rw [sizeLine_eq]; simp, fun p hp => ?_⟩
    obtain ⟨S2, e2⟩ := S1.frz hp (.tup [c1, c2])
    exact ⟨x, p, [c1, c2], _, [u1, u2], r, rfl, upd_same, .cons k1 (.cons k2 .nil), kd_ok cx hoc S2 (rx.up e2) hk, ht kd r hr, h1 _ _ _ S2 e2⟩
  · exact h1.elim
end
end Mi

/-! Mi, part l2: == and != by own __eq__; len, str, + by own methods; class values. -/
namespace Mi
open PySem PySem.Spec PyProof.Rows L2
abbrev OT := Nat → Option (List Val → Store → Res Val)
def onlyB (neg : Bool) : Val → Store → Res Val := fun v st => match v with
  | .bl b => .ok (.bl (if neg then !b else b)) st
  | _ => .no
def cmpO (oc : Nat → Bool) (eqr : OT) (op : CmpOp) : Val → Val → Store → Res Val := fun x y st => match op with
  | .Eq => (match fldsOf st x with
    | none => gCmp .Eq x y st
    | some (c, _) => match eqr c, kdOf oc st y with
      | some run, some _ => (run [x, y] st).bnd (onlyB false)
      | _, _ => .no)
  | .NotEq => (match fldsOf st x with
    | none => gCmp .NotEq x y st
    | some (c, _) => match eqr c, kdOf oc st y with
      | some run, some _ => (run [x, y] st).bnd (onlyB true)
      | _, _ => .no)
  | op => gCmp op x y st
structure EqC (X : Cx) (G : Gm) (oc : Nat → Bool) (k : Nat) (c : Nat) (run : List Val → Store → Res Val) : Prop where
  own : OwnOk X G k c "__eq__" run
  ne : PySem.W.findIn X.K (.ref (G.cad c)) "__ne__" = some (some (.builtin "object.__ne__"))
  hm : PySem.W.mroIn X.K (G.cad c) (.type "object") = some true
  nf : ∀ c', oc c' = true → PySem.W.notFirst X.K (G.cad c) (.ref (G.cad c')) = true
section
variable {X : Cx} {G : Gm} {d k : Nat} {a b c e o : Expr} {es : List Expr} {pos p p2 apos : Pos} {fa fb fc fo : Env → Store → Res Val} {fs : Env → Store → Res (List Val)} {oc : Nat → Bool}
theorem notFirst_ty {T : String} {C : Addr} {l : List String} (h : fastBuiltinMro T = some (l.map .type)) : PySem.W.notFirst X.K C (.type T) = true := by
  unfold PySem.W.notFirst
  rw [Bool.or_eq_true]
  refine .inr ?_
  have e : PySem.W.subIn X.K (.type T) (.ref C) = some false := by
    show (fastBuiltinMro T).map (·.contains (.ref C)) = some false
    rw [h]
    show some ((l.map Value.type).contains (.ref C)) = some false
    congr 1
    induction l with
    | nil => rfl
    | cons x r ih => rw [List.map_cons, List.contains_cons]; simp
  rw [e]
  rfl
theorem notFirst_kd {C : Addr} (h : ∀ c', oc c' = true → PySem.W.notFirst X.K C (.ref (G.cad c')) = true) {st : Store} {v : Val} {kd : Kd} (hk : kdOf oc st v = some kd) : PySem.W.notFirst X.K C (kd.tv G) = true := by
  cases kd with
  | non => exact notFirst_ty (l := ["NoneType", "object"]) (by decide +kernel)
  | bl => exact notFirst_ty (l := ["bool", "int", "object"]) (by decide +kernel)
  | int => exact notFirst_ty (l := ["int", "object"]) (by decide +kernel)
  | str => exact notFirst_ty (l := ["str", "object"]) (by decide +kernel)
  | lst => exact notFirst_ty (l := ["list", "object"]) (by decide +kernel)
  | tup => exact notFirst_ty (l := ["tuple", "object"]) (by decide +kernel)
  | dic => exact notFirst_ty (l := ["dict", "object"]) (by decide +kernel)
  | cls c =>
    refine h c ?_
    cases v with
    | ins c' fs => simp only [kdOf] at hk; split at hk <;> simp_all
    | ref i =>
      simp only [kdOf] at hk
      split at hk
      · cases hk
      · cases hk
      · split at hk <;> simp_all
      · cases hk
    | _ => simp [kdOf] at hk
theorem CxR.sub {n : Nat} (cx : CxR X G d) (h : n ≤ d) : Sub X n X.A := ⟨cx.room.mono h, rfl⟩
theorem op_cmpO (cx : CxR X G d) (hoc : ∀ c, oc c = true → CI X.K (G.cad c)) {eqr : OT} (hk : k + 1 ≤ d) (he : ∀ c run, eqr c = some run → EqC X G oc k c run) {op : CmpOp} : OpR X (compareOp op) (rV2 G E0 (cmpO oc eqr op)) := by
  intro pins s σ H x y v u Q I rx ry h
  obtain ⟨F, m, st, w1, w2, S, r1, r2, h⟩ := h
  have gen : After G E0 F m st.length H (gCmp op w1 w2 st) (KV G Q) → wpAny (model X.prog X.w) X.A (compareOp op v u) (EP X pins σ Q) X.xe s := fun h => op_cmp cx pins s σ H x y v u Q I rx ry ⟨F, m, st, w1, w2, S, r1, r2, h⟩
  have hu : X.A.units + 1 < cLine := by have := cx.u65; omega
  have own : ∀ (neg : Bool) c fl run kd, fldsOf st w1 = some (c, fl) → eqr c = some run → kdOf oc st w2 = some kd → After G E0 F m st.length H ((run [w1, w2] st).bnd (onlyB neg)) (KV G Q) →
      ∃ a ox od f, v = .ref a ∧ PySem.W.InstAt s.heap a ox (G.cad c) od ∧ PySem.W.findIn X.K (.ref (G.cad c)) "__eq__" = some (some (.ref f)) ∧ PySem.W.isFn X.K (.ref f) = true ∧ PySem.W.Looks (model X.prog X.w) s.heap (typeOf u) (kd.tv G) ∧
        ∀ A, Sub X k A → wpAny (model X.prog X.w) A (call (.ref f) [.ref a, u]) (EP X pins σ (fun z H' => ∃ r, z = .bl r ∧ Q (.bl (if neg then !r else r)) H')) X.xe s := by
    intro neg c fl run kd hf hr hk2 h
    obtain ⟨a, dx, vs, rfl, g1, g2⟩ := S.flds r1 hf
    obtain ⟨f, fd, ps, q1, q2, q3, q4⟩ := (he c run hr).own
    cases (show v = Value.ref a from rx)
    obtain ⟨mA, J, _⟩ := ins_get I.hok g1
    obtain ⟨od, J, _⟩ := J.look
    obtain ⟨P, Z, pz, _⟩ := kit_of I ry (kd_ok cx hoc S r2 hk2)
    refine ⟨a, _, _, f, rfl, J, q1, q2, Z.ty _ _ I.kIn pz, fun A sb => run_own (vs := [.ref a, y]) sb q4 q3 I (.cons rfl (.cons ry .nil)) ?_⟩
    refine ⟨F, m, st, [w1, w2], S, RepL.cons r1 (RepL.cons r2 RepL.nil), h.bnd.mono fun b st1 F1 m1 H1 S1 e1 h1 z rz => ?_⟩
    unfold onlyB at h1
    split at h1
    · unfold Rep at rz
      exact ⟨_, rz, h1.here S1 _ rep_bl⟩
    · exact h1.elim
  unfold cmpO at h
  split at h
  · split at h
    · exact gen h
    · rename_i c fl hf
      split at h
      · rename_i run kd hr hk2
        obtain ⟨a, ox, od, f, rfl, J, q1, q2, lt, go⟩ := own false c fl run kd hf hr hk2 h
        obtain ⟨mm, hF⟩ := I.fr
        refine PySem.W.cmp_K (op := .Eq) (tb := kd.tv G) (by omega) hF I.ok.mod.kin J lt (notFirst_kd (he c run hr).nf hk2) q1 q2 ?_
        refine wpAny_mono (go X.A (cx.sub (by omega))) (fun r s' z => ?_) fun _ _ x => x
        obtain ⟨y, H', I', ry', rr, rfl, q⟩ := z
        cases (show r = Value.bool rr from ry')
        exact ⟨.bl rr, H', I', rfl, q⟩
      · exact h.elim
  · split at h
    · exact gen h
    · rename_i c fl hf
      split at h
      · rename_i run kd hr hk2
        obtain ⟨a, ox, od, f, rfl, J, q1, q2, lt, go⟩ := own true c fl run kd hf hr hk2 h
        refine ne_own (f := f) hu I.kIn J lt (notFirst_kd (he c run hr).nf hk2) (he c run hr).ne (he c run hr).hm q1 q2 ?_
        refine wpAny_mono (go X.A.in1 (cx.sub (n := k + 1) hk).in1) (fun r s' z => ?_) fun _ _ x => x
        obtain ⟨y, H', I', ry', rr, rfl, q⟩ := z
        cases (show r = Value.bool rr from ry')
        exact ⟨rr, rfl, .bl (!rr), H', I', rfl, q⟩
      · exact h.elim
  · exact gen h
/-! ### len, str -/
def lenO (lr : OT) : List Val → Store → Res Val := fun vs st => match vs with
  | [v] => (match fldsOf st v with
    | none => lenV vs st
    | some (c, _) => match lr c with
      | some run => (run [v] st).bnd fun w st => match w with | .int i => if 0 ≤ i ∧ i < 2 ^ 62 then .ok (.int i) st else .no | _ => .no
      | none => .no)
  | _ => .no
theorem lenO_ok (cx : CxR X G d) {lr : OT} (hk : k + 1 ≤ d) (he : ∀ c run, lr c = some run → OwnOk X G k c "__len__" run) : CallR X (.builtin "len") (rVL G E0 (lenO lr)) := by
  intro pins s σ H xs us Q I r h
  have h' := h
  obtain ⟨F, m, st, vs, S, rv, h⟩ := h
  unfold lenO at h
  split at h
  · rename_i v
    split at h
    · exact len_ok cx pins s σ H xs us Q I r ⟨F, m, st, [v], S, rv, h⟩
    · rename_i c fl hf
      split at h
      · rename_i run hr
        obtain ⟨z, rfl, rz⟩ := repL1 rv
        obtain ⟨u, rfl, ru⟩ := r.one
        obtain ⟨a, dx, ws, rfl, g1, g2⟩ := S.flds rz hf
        obtain ⟨f, fd, ps, q1, q2, q3, q4⟩ := he c run hr
        cases (show u = Value.ref a from ru)
        obtain ⟨mA, J, _⟩ := ins_get I.hok g1
        obtain ⟨od, J, _⟩ := J.look
        obtain ⟨mm, hF⟩ := I.fr
        refine PySem.W.len_K hF I.ok.mod.kin J q1 q2 ?_
        have hsp : spF G run [.ref a] H (fun z H' => ∃ i : Int, z = .int i ∧ (0 ≤ i ∧ i < 2 ^ 62) ∧ Q (.int i) H') E0 := by
          refine ⟨F, m, st, [v], S, rv, h.bnd.mono fun w st1 F1 m1 H1 S1 e1 h1 z rz => ?_⟩
          split at h1
          · split at h1
            · rename_i i hi
              unfold Rep at rz
              exact ⟨i, rz, hi, h1.here S1 _ rep_int⟩
            · exact h1.elim
          · exact h1.elim
        refine wpAny_mono (run_own (cx.sub (n := k + 1) hk).in1 q4 q3 I r hsp) (fun r s' z => ?_) fun _ _ x => x
        obtain ⟨y, H', I', ry', i, rfl, hi, q⟩ := z
        obtain ⟨t, rfl⟩ := ry'
        exact ⟨⟨hi.1, by omega⟩, .int i, H', I'.tok _, ⟨_, rfl⟩, q⟩
      · exact h.elim
  · exact h.elim
def strO (sr : OT) : List Val → Store → Res Val := fun vs st => match vs with
  | [v] => (match fldsOf st v with
    | none => strV vs st
    | some (c, _) => match sr c with
      | some run => (run [v] st).bnd fun w st => match w with | .str x => .ok (.str x) st | _ => .no
      | none => .no)
  | _ => .no
theorem strO_ok (cx : CxR X G d) {sr : OT} (hk : k + 2 ≤ d) (he : ∀ c run, sr c = some run → OwnOk X G k c "__str__" run) : CallR X (.type "str") (rVL G E0 (strO sr)) := by
  intro pins s σ H xs us Q I r h
  obtain ⟨F, m, st, vs, S, rv, h⟩ := h
  unfold strO at h
  split at h
  · rename_i v
    split at h
    · exact str_ok pins s σ H xs us Q I r ⟨F, m, st, [v], S, rv, h⟩
    · rename_i c fl hf
      split at h
      · rename_i run hr
        obtain ⟨z, rfl, rz⟩ := repL1 rv
        obtain ⟨u, rfl, ru⟩ := r.one
        obtain ⟨a, dx, ws, rfl, g1, g2⟩ := S.flds rz hf
        obtain ⟨f, fd, ps, q1, q2, q3, q4⟩ := he c run hr
        cases (show u = Value.ref a from ru)
        obtain ⟨mA, J, _⟩ := ins_get I.hok g1
        obtain ⟨od, J, _⟩ := J.look
        have sb := (cx.sub (n := k + 2) hk).in1.in1
        refine PySem.W.kso_call sb.room.units0 I.kIn J q1 q2 ?_
        have hsp : spF G run [.ref a] H (fun z H' => ∃ i : Str, z = .str i ∧ Q (.str i) H') E0 := by
          refine ⟨F, m, st, [v], S, rv, h.bnd.mono fun w st1 F1 m1 H1 S1 e1 h1 z rz => ?_⟩
          split at h1
          · rename_i i
            unfold Rep at rz
            exact ⟨i, rz, h1.here S1 _ rep_str⟩
          · exact h1.elim
        refine wpAny_mono (run_own sb q4 q3 I r hsp) (fun r s' z => ?_) fun _ _ x => x
        obtain ⟨y, H', I', ry', i, rfl, q⟩ := z
        obtain ⟨t, rfl⟩ := ry'
        exact ⟨.str i, H', I', ⟨_, rfl⟩, q⟩
      · exact h.elim
  · exact h.elim
/-! ### x + y by own __add__ (both of one class) -/
def addO (ar : OT) (mt : Bool) (op : Operator) : Val → Val → Store → Res Val := fun x y st => match fldsOf st x, fldsOf st y with
  | some (c, _), some (c', _) => (match ar c, op with
    | some run, .Add => if c' = c then (run [x, y] st).bnd fun w st => .ok w st else .no
    | _, _ => .no)
  | _, _ => binop mt op x y st
theorem op_addO (cx : CxR X G d) {ar : OT} (hk : k ≤ d) (he : ∀ c run, ar c = some run → OwnOk X G k c "__add__" run ∧ PySem.W.selfFirst X.K (G.cad c) = true) {mt : Bool} {op : Operator} : OpR X (binaryOp op) (rV2 G E0 (addO ar mt op)) := by
  intro pins s σ H x y v u Q I rx ry h
  obtain ⟨F, m, st, w1, w2, S, r1, r2, h⟩ := h
  unfold addO at h
  split at h
  · rename_i c fl c' fl' hf1 hf2
    split at h
    · rename_i run hr
      split at h
      · rename_i hcc
        subst hcc
        obtain ⟨a, dx, vs, rfl, g1, g2⟩ := S.flds r1 hf1
        obtain ⟨b, dy, us, rfl, j1, j2⟩ := S.flds r2 hf2
        obtain ⟨⟨f, fd, ps, q1, q2, q3, q4⟩, sf⟩ := he c' run hr
        cases (show v = Value.ref a from rx)
        cases (show u = Value.ref b from ry)
        obtain ⟨mA, J, _⟩ := ins_get I.hok g1
        obtain ⟨od, J, _⟩ := J.look
        obtain ⟨mB, J', _⟩ := ins_get I.hok j1
        obtain ⟨od', J', _⟩ := J'.look
        obtain ⟨mm, hF⟩ := I.fr
        refine PySem.W.binop_K (op := .Add) hF I.ok.mod.kin J J'.type sf q1 q2 ?_
        refine wpAny_mono (run_own (cx.sub hk) q4 q3 I (.cons rx (.cons ry .nil)) ⟨F, m, st, [w1, w2], S, RepL.cons r1 (RepL.cons r2 RepL.nil), h.bnd.mono fun b st1 F1 m1 H1 S1 e1 h1 z rz => h1.here S1 z rz⟩) (fun r s' z => ?_) fun _ _ x => x
        obtain ⟨y, H', I', ry', q⟩ := z
        have : r ≠ .notImplemented := fun e => by subst e; cases y <;> simp [L2.RelV] at ry'
        cases r <;> first | exact absurd rfl this | exact ⟨y, H', I', ry', q⟩
      · exact h.elim
    · exact h.elim
  · exact op_bin cx pins s σ H x y v u Q I rx ry ⟨F, m, st, w1, w2, S, r1, r2, h⟩
end
end Mi

/-! Mi, part l3: list comprehensions with two clauses. -/
namespace Mi
open PySem PySem.Spec PyProof.Rows L2
theorem it_any {J : It} {n : Nat} {G : Hp → Prop} {Y : Nat → Hp → V → Hp → Prop} (w : Walk J n G Y) (B : (Hp → Prop) → V → Hp → Prop) {H0 : Hp} {Qd : Hp → Prop} (Pv : Nat → Hp → Prop) (h0 : Pv 0 H0) (hG : ∀ i H, i ≤ n → Pv i H → G H)
    (hs : ∀ i x H H', i < n → Pv i H → Y i H x H' → B (Pv (i + 1)) x H') (hd : ∀ H, Pv n H → Qd H) :
    ∃ W : Nat → Nat → Hp → Prop, (∃ m, W 0 m H0) ∧ ∀ i m H, W i m H → (J.stop i H ∧ Qd H) ∨ (J.go i H ∧ ∃ Nx : Hp → Prop, (∀ H', Nx H' → ∃ m', m' < m ∧ W (i + 1) m' H') ∧ ∀ x H', J.yld i H x H' → B Nx x H') := by
  refine ⟨fun i m H => m = n - i ∧ i ≤ n ∧ Pv i H, ⟨n, by simp, Nat.zero_le _, h0⟩, ?_⟩
  rintro i m H ⟨rfl, hi, p⟩
  have q := hG i H hi p
  by_cases hlt : i < n
  · exact .inr ⟨w.goes i H hlt q, Pv (i + 1), fun H' p' => ⟨n - (i + 1), by omega, rfl, hlt, p'⟩, fun x H' y => hs i x H H' hlt p (w.yields i H x H' hlt q y)⟩
  · have e : i = n := by omega
    subst e
    exact .inl ⟨w.stops H q, hd H p⟩
section
variable {X : Cx} {G : Gm} {E E' : XK} {d : Nat} {pos : Pos} {gd : Gd} {g g1 : Tg} {gc gc1 : Env → Store → Res Bool} {fe : Env → Store → Res Val} {fs1 : Env → Store → Res (List Val)}
/-- the inner loop, onto what the list at D has already -/
theorem lcL_okA {J : It} {items : List Val} {σ : L2.St} {σe : Env} {own : List Nat} {F0 : Hp} {m0 : Nat → Addr} {n0 : Nat} {H0 F : Hp} {m : Nat → Addr} {st : Store} {H : Hp} {D : Addr} {Qd : Hp → Prop} {accV0 : List Val} {acc0 : List V}
    (hgd : gd.ok st = true) (W : WOk G J items gd F m st.length H) (S : Sim G F m st H) (e0 : Ext F0 m0 n0 H0 F m st.length H) (rs : RepS G F m st.length σe σ) (hD0 : H0 D = none) (hD : H D = some (.lst acc0)) (fD : F D = none) (mD : ∀ i, i < st.length → m i ≠ D) (ra0 : RepL G F m st.length accV0 acc0)
    (hsl : ∀ j ∈ g.slots, j ∈ own) (hlen : acc0.length + items.length ≤ sizeLine)
    (h : After G E0 F0 m0 n0 H0 (lcL gd g gc fe (wipeE σe own) items st) (fun vs => KD G D Qd (accV0 ++ vs))) :
    ∃ W : Nat → Nat → Hp → Prop, (∃ k, W 0 k H) ∧ ∀ i k H, W i k H →
      (J.stop i H ∧ Qd H) ∨ (J.go i H ∧ ∃ Nx : Hp → Prop, (∀ H', Nx H' → ∃ k', k' < k ∧ W (i + 1) k' H') ∧ ∀ x H', J.yld i H x H' → tG G g x (wipe σ own) H' fun σ2 H2 => wipe σ2 own = wipe σ own ∧ tT G E0 gc σ2 H2 fun b H3 =>
        if b = true then tE G E0 fe σ2 H3 fun y H4 => ∃ acc, H4 D = some (.lst acc) ∧ acc.length < sizeLine ∧ Nx (upd H4 D (.lst (acc ++ [y]))) else Nx H3) := by
  obtain ⟨Gd, Y, w, hG, hY⟩ := W.ex
  refine it_any w (fun Nx x H' => tG G g x (wipe σ own) H' fun σ2 H2 => wipe σ2 own = wipe σ own ∧ tT G E0 gc σ2 H2 fun b H3 => if b = true then tE G E0 fe σ2 H3 fun y H4 => ∃ acc, H4 D = some (.lst acc) ∧ acc.length < sizeLine ∧ Nx (upd H4 D (.lst (acc ++ [y]))) else Nx H3) (fun i H' => ∃ F' m' st' accV acc, Sim G F' m' st' H' ∧ Ext F0 m0 n0 H0 F' m' st'.length H' ∧ ExtW F m st.length H F' m' st'.length H' ∧ gd.ok st' = true ∧ H' D = some (.lst acc) ∧ F' D = none ∧ (∀ i, i < st'.length → m' i ≠ D) ∧ RepL G F' m' st'.length accV acc ∧ acc.length ≤ acc0.length + i ∧
      After G E0 F0 m0 n0 H0 (lcL gd g gc fe (wipeE σe own) (items.drop i) st') (fun vs => KD G D Qd (accV ++ vs))) ?_ ?_ ?_ ?_
  · exact ⟨F, m, st, accV0, acc0, S, e0, Ext.refl.w, hgd, hD, fD, mD, ra0, Nat.le_refl _, h⟩
  · rintro i H' _ ⟨F', m', st', accV, acc, S', e', w', g', _⟩
    exact hG F' m' st' H' S' w' g'
  · rintro i x H1 H2 hi ⟨F1, m1, st1, accV, acc, S1, e1, w1, g1, hD1, fD1, mD1, ra, hal, h1⟩ y
    rw [List.drop_eq_getElem_cons hi] at h1
    obtain ⟨F2, S2, e2, r2⟩ := hY i x items[i] F1 m1 st1 H1 H2 S1 w1 (by simp [hi]) g1 y
    have e12 := e1.trans e2
    have w12 : ExtW F m st.length H F2 m1 st1.length H2 := ⟨w1.same.trans e2.same, fun i hi => (e2.mp i (Nat.lt_of_lt_of_le hi w1.le)).trans (w1.mp i hi), Nat.le_trans w1.le e2.le, fun a o u q => e2.fz a o u (w1.fz a o u q)⟩
    obtain ⟨hD2, fD2, mD2⟩ := e2.fr D _ hD1 (fun _ z => by cases z) fD1 mD1
    unfold lcL at h1
    cases ha : asg g items[i] (wipeE σe own) st1 with
    | none => simp only [ha] at h1; exact h1.elim
    | some σ' =>
      simp only [ha] at h1
      have rsu : RepS G F2 m1 st1.length σe σ := ⟨rs.1, fun i v q => let ⟨x, q1, q2⟩ := rs.2 i v q; ⟨x, q1, q2.upW w12⟩⟩
      refine ⟨F2, m1, st1, wipeE σe own, items[i], σ', S2, rsu.wipe own, r2, ha, fun σ2 rs2 on => ⟨wipe_same on hsl, ?_⟩⟩
      refine ⟨F2, m1, σ', st1, S2, rs2, (After.keep e12 h1).mono fun b st3 F3 m3 H3 S3 e3 h3 => ?_⟩
      have e13 := e12.trans e3
      have w13 : ExtW F m st.length H F3 m3 st3.length H3 := ⟨w12.same.trans e3.same, fun i hi => (e3.mp i (Nat.lt_of_lt_of_le hi w12.le)).trans (w12.mp i hi), Nat.le_trans w12.le e3.le, fun a o u q => e3.fz a o u (w12.fz a o u q)⟩
      obtain ⟨hD3, fD3, mD3⟩ := e3.fr D _ hD2 (fun _ z => by cases z) fD2 mD2
      cases b with
      | false =>
        show if false = true then _ else _
        rw [if_neg (by simp)]
        have h3 : After G E0 F0 m0 n0 H0 (if gd.ok st3 = true then lcL gd g gc fe (wipeE σe own) (items.drop (i + 1)) st3 else .no) (fun vs => KD G D Qd (accV ++ vs)) := h3
        split at h3
        · rename_i hg3
          exact ⟨F3, m3, st3, accV, acc, S3, e13, w13, hg3, hD3, fD3, mD3, (ra.up e2).up e3, by omega, h3⟩
        · exact h3.elim
      | true =>
        show if true = true then _ else _
        rw [if_pos rfl]
        have h3 : After G E0 F0 m0 n0 H0 ((fe σ' st3).bnd fun v st => if gd.ok st = true then (lcL gd g gc fe (wipeE σe own) (items.drop (i + 1)) st).bnd fun vs st => .ok (v :: vs) st else .no) (fun vs => KD G D Qd (accV ++ vs)) := h3
        refine ⟨F3, m3, σ', st3, S3, rs2.up e3, (After.keep e13 h3).mono fun v st4 F4 m4 H4 S4 e4 h4 z rz => ?_⟩
        obtain ⟨hD4, fD4, mD4⟩ := e4.fr D _ hD3 (fun _ z => by cases z) fD3 mD3
        split at h4
        · rename_i hg4
          refine ⟨acc, hD4, by omega, F4, m4, st4, accV ++ [v], acc ++ [z], S4.other fD4 mD4 _, (e13.trans e4).other hD0 _, ⟨w13.same.trans e4.same, fun i hi => (e4.mp i (Nat.lt_of_lt_of_le hi w13.le)).trans (w13.mp i hi), Nat.le_trans w13.le e4.le, fun a o u q => ?_⟩, hg4, upd_same, fD4, mD4, (((ra.up e2).up e3).up e4).append (RepL.cons rz RepL.nil), by simp; omega, ?_⟩
          · have q4 := e4.fz a o u (w13.fz a o u q)
            rw [upd_ne (fun z => by rw [z, hD4] at q4; cases q4)]
            exact q4
          · refine (After.keep Ext.refl h4).mono fun vs st5 F5 m5 H5 S5 e5 h5 => ?_
            have := h5 F5 m5 H5 S5 e5
            rw [List.append_assoc]
            exact this
        · exact h4.elim
  · rintro H' ⟨F', m', st', accV, acc, S', e', w', g', hD', fD', mD', ra, hal, h'⟩
    rw [List.drop_length] at h'
    have h' : KD G D Qd (accV ++ []) st' F' m' H' := h' F' m' H' S' e'
    rw [List.append_nil] at h'
    exact h' acc ra hD' fD' mD'
/-- two clauses; n: how many items at most so far -/
def lc2L (gd : Gd) (tg : Tg) (c : Env → Store → Res Bool) (own1 : List Nat) (k1 : ItK) (fs1 : Env → Store → Res (List Val)) (g1 : Tg) (c1 : Env → Store → Res Bool) (f : Env → Store → Res Val) (σ : Env) : Nat → List Val → Store → Res (List Val)
  | _, [], st => .ok [] st
  | n, x :: xs, st => match asg tg x σ st with
    | none => .no
    | some σ' => (c σ' st).bnd fun b st =>
      if b then (fs1 σ' st).bnd fun vs st => (iterV k1 vs st).bnd fun p st =>
        if p.2.ok st && decide (n + p.1.length ≤ lim) then (lcL p.2 g1 c1 f (wipeE σ' own1) p.1 st).bnd fun ys st => if gd.ok st then (lc2L gd tg c own1 k1 fs1 g1 c1 f σ (n + p.1.length) xs st).bnd fun zs st => .ok (ys ++ zs) st else .no
        else .no
      else if gd.ok st then lc2L gd tg c own1 k1 fs1 g1 c1 f σ n xs st else .no
theorem lcL_len (gd : Gd) (tg : Tg) (c : Env → Store → Res Bool) (f : Env → Store → Res Val) (σ : Env) : ∀ (items : List Val) (st : Store) (ys : List Val) (st' : Store), lcL gd tg c f σ items st = .ok ys st' → ys.length ≤ items.length
  | [], st, ys, st', h => by unfold lcL at h; cases h; exact Nat.le_refl _
  | x :: xs, st, ys, st', h => by
    unfold lcL at h
    cases ha : asg tg x σ st with
    | none => simp [ha] at h
    | some σ' =>
      simp only [ha] at h
      cases hc : c σ' st with
      | no => rw [hc] at h; cases h
      | exc e s1 => rw [hc] at h; cases h
      | ok b s1 =>
        rw [hc, Res.bnd_ok] at h
        cases b with
        | false =>
          simp only [Bool.false_eq_true, if_false] at h
          split at h
          · have := lcL_len gd tg c f σ xs s1 ys st' h
            rw [List.length_cons]; omega
          · cases h
        | true =>
          simp only [if_true] at h
          cases hf : f σ' s1 with
          | no => rw [hf] at h; cases h
          | exc e s2 => rw [hf] at h; cases h
          | ok v s2 =>
            rw [hf, Res.bnd_ok] at h
            split at h
            · cases hr : lcL gd tg c f σ xs s2 with
              | no => rw [hr] at h; cases h
              | exc e s3 => rw [hr] at h; cases h
              | ok vs s3 =>
                rw [hr, Res.bnd_ok] at h
                have := lcL_len gd tg c f σ xs s2 vs s3 hr
                cases h
                rw [List.length_cons, List.length_cons]; omega
            · cases h
theorem lc2L_ok {k1 : ItK} {J : It} {items : List Val} {σ : L2.St} {σe : Env} {own own1 : List Nat} {F : Hp} {m : Nat → Addr} {st : Store} {H : Hp} {D : Addr} {Qd : Hp → Prop}
    (hgd : gd.ok st = true) (W : WOk G J items gd F m st.length H) (S : Sim G F m st H) (rs : RepS G F m st.length σe σ) (hD : H D = none) (hsl : ∀ j ∈ g.slots, j ∈ own) (hsl1 : ∀ j ∈ g1.slots, j ∈ own1)
    (h : After G E F m st.length H (noX (lc2L gd g gc own1 k1 fs1 g1 gc1 fe (wipeE σe own) 0 items st)) (KD G D Qd)) :
    ∃ W : Nat → Nat → Hp → Prop, (∃ k, W 0 k (upd H D (.lst []))) ∧ ∀ i k H, W i k H →
      (J.stop i H ∧ Qd H) ∨ (J.go i H ∧ ∃ Nx : Hp → Prop, (∀ H', Nx H' → ∃ k', k' < k ∧ W (i + 1) k' H') ∧ ∀ x H', J.yld i H x H' → tG G g x (wipe σ own) H' fun σ2 H2 => wipe σ2 own = wipe σ own ∧ tT G E0 gc σ2 H2 fun b H3 =>
        if b = true then tI G E0 k1 fs1 σ2 H3 fun J1 H4 => ∃ W1 : Nat → Nat → Hp → Prop, (∃ m, W1 0 m H4) ∧ ∀ j k H, W1 j k H →
          (J1.stop j H ∧ Nx H) ∨ (J1.go j H ∧ ∃ Nx1 : Hp → Prop, (∀ H', Nx1 H' → ∃ k', k' < k ∧ W1 (j + 1) k' H') ∧ ∀ x H', J1.yld j H x H' → tG G g1 x (wipe σ2 own1) H' fun σ3 H5 => wipe σ3 own1 = wipe σ2 own1 ∧ tT G E0 gc1 σ3 H5 fun b H6 =>
            if b = true then tE G E0 fe σ3 H6 fun y H7 => ∃ acc, H7 D = some (.lst acc) ∧ acc.length < sizeLine ∧ Nx1 (upd H7 D (.lst (acc ++ [y]))) else Nx1 H6)
        else Nx H3) := by
  have h : After G E0 F m st.length H (lc2L gd g gc own1 k1 fs1 g1 gc1 fe (wipeE σe own) 0 items st) (KD G D Qd) := by
    cases q : lc2L gd g gc own1 k1 fs1 g1 gc1 fe (wipeE σe own) 0 items st with
    | ok a st' => rw [q] at h; exact h
    | exc e st' => rw [q] at h; exact h.elim
    | no => rw [q] at h; exact h
  obtain ⟨Gd, Y, w, hG, hY⟩ := W.ex
  have fD := S.free hD
  have mD : ∀ i, i < st.length → m i ≠ D := fun i hi => S.ne hD hi
  refine it_any w (fun Nx x H' => tG G g x (wipe σ own) H' fun σ2 H2 => wipe σ2 own = wipe σ own ∧ tT G E0 gc σ2 H2 fun b H3 =>
        if b = true then tI G E0 k1 fs1 σ2 H3 fun J1 H4 => ∃ W1 : Nat → Nat → Hp → Prop, (∃ m, W1 0 m H4) ∧ ∀ j k H, W1 j k H →
          (J1.stop j H ∧ Nx H) ∨ (J1.go j H ∧ ∃ Nx1 : Hp → Prop, (∀ H', Nx1 H' → ∃ k', k' < k ∧ W1 (j + 1) k' H') ∧ ∀ x H', J1.yld j H x H' → tG G g1 x (wipe σ2 own1) H' fun σ3 H5 => wipe σ3 own1 = wipe σ2 own1 ∧ tT G E0 gc1 σ3 H5 fun b H6 =>
            if b = true then tE G E0 fe σ3 H6 fun y H7 => ∃ acc, H7 D = some (.lst acc) ∧ acc.length < sizeLine ∧ Nx1 (upd H7 D (.lst (acc ++ [y]))) else Nx1 H6)
        else Nx H3)
    (fun i H' => ∃ F' m' st' accV acc nn, Sim G F' m' st' H' ∧ Ext F m st.length H F' m' st'.length H' ∧ gd.ok st' = true ∧ H' D = some (.lst acc) ∧ F' D = none ∧ (∀ i, i < st'.length → m' i ≠ D) ∧ RepL G F' m' st'.length accV acc ∧ acc.length ≤ nn ∧
      After G E0 F m st.length H (lc2L gd g gc own1 k1 fs1 g1 gc1 fe (wipeE σe own) nn (items.drop i) st') (fun vs => KD G D Qd (accV ++ vs))) ?_ ?_ ?_ ?_
  · exact ⟨F, m, st, [], [], 0, S.other fD mD _, Ext.refl.other hD _, hgd, upd_same, fD, mD, RepL.nil, Nat.le_refl _, h⟩
  · rintro i H' _ ⟨F', m', st', accV, acc, nn, S', e', g', _⟩
    exact hG F' m' st' H' S' e'.w g'
  · rintro i x H1 H2 hi ⟨F1, m1, st1, accV, acc, nn, S1, e1, gk1, hD1, fD1, mD1, ra, hal, h1⟩ y
    rw [List.drop_eq_getElem_cons hi] at h1
    obtain ⟨F2, S2, e2, r2⟩ := hY i x items[i] F1 m1 st1 H1 H2 S1 e1.w (by simp [hi]) gk1 y
    have e12 := e1.trans e2
    obtain ⟨hD2, fD2, mD2⟩ := e2.fr D _ hD1 (fun _ z => by cases z) fD1 mD1
    unfold lc2L at h1
    cases ha : asg g items[i] (wipeE σe own) st1 with
    | none => simp only [ha] at h1; exact h1.elim
    | some σ' =>
      simp only [ha] at h1
      refine ⟨F2, m1, st1, wipeE σe own, items[i], σ', S2, (rs.up e12).wipe own, r2, ha, fun σ2 rs2 on => ⟨wipe_same on hsl, ?_⟩⟩
      refine ⟨F2, m1, σ', st1, S2, rs2, (After.keep e12 h1).mono fun b st3 F3 m3 H3 S3 e3 h3 => ?_⟩
      have e13 := e12.trans e3
      obtain ⟨hD3, fD3, mD3⟩ := e3.fr D _ hD2 (fun _ z => by cases z) fD2 mD2
      cases b with
      | false =>
        show if false = true then _ else _
        rw [if_neg (by simp)]
        have h3 : After G E0 F m st.length H (if gd.ok st3 = true then lc2L gd g gc own1 k1 fs1 g1 gc1 fe (wipeE σe own) nn (items.drop (i + 1)) st3 else .no) (fun vs => KD G D Qd (accV ++ vs)) := h3
        split at h3
        · rename_i hg3
          exact ⟨F3, m3, st3, accV, acc, nn, S3, e13, hg3, hD3, fD3, mD3, (ra.up e2).up e3, hal, h3⟩
        · exact h3.elim
      | true =>
        show if true = true then _ else _
        rw [if_pos rfl]
        have h3 : After G E0 F m st.length H ((fs1 σ' st3).bnd fun vs st => (iterV k1 vs st).bnd fun p st => if (p.2.ok st && decide (nn + p.1.length ≤ lim)) = true then (lcL p.2 g1 gc1 fe (wipeE σ' own1) p.1 st).bnd fun ys st => if gd.ok st = true then (lc2L gd g gc own1 k1 fs1 g1 gc1 fe (wipeE σe own) (nn + p.1.length) (items.drop (i + 1)) st).bnd fun zs st => .ok (ys ++ zs) st else .no else .no) (fun vs => KD G D Qd (accV ++ vs)) := h3
        refine ⟨F3, m3, σ', st3, S3, rs2.up e3, (After.keep e13 h3).mono fun vs st4 F4 m4 H4 S4 e4 h4 => ?_⟩
        have e14 := e13.trans e4
        obtain ⟨hD4, fD4, mD4⟩ := e4.fr D _ hD3 (fun _ z => by cases z) fD3 mD3
        unfold iterV at h4
        cases hw : walk k1 vs st4 with
        | none => rw [hw] at h4; exact h4.elim
        | some p =>
          obtain ⟨items1, gd1, st5⟩ := p
          rw [hw] at h4
          refine ⟨items1, gd1, st5, rfl, fun J1 F5 m5 H5 S5 e5 hgd5 W1 => ?_⟩
          have h4 : After G E0 F m st.length H (if (gd1.ok st5 && decide (nn + items1.length ≤ lim)) = true then (lcL gd1 g1 gc1 fe (wipeE σ' own1) items1 st5).bnd fun ys st => if gd.ok st = true then (lc2L gd g gc own1 k1 fs1 g1 gc1 fe (wipeE σe own) (nn + items1.length) (items.drop (i + 1)) st).bnd fun zs st => .ok (ys ++ zs) st else .no else .no) (fun vs => KD G D Qd (accV ++ vs)) := h4
          split at h4
          · rename_i hb
            rw [Bool.and_eq_true] at hb
            have hln := of_decide_eq_true hb.2
            obtain ⟨hD5, fD5, mD5⟩ := e5.fr D _ hD4 (fun _ z => by cases z) fD4 mD4
            have ra5 := (((ra.up e2).up e3).up e4).up e5
            refine lcL_okA (accV0 := accV) hgd5 W1 S5 (e14.trans e5) (((rs2.up e3).up e4).up e5) hD hD5 fD5 mD5 ra5 hsl1 (Nat.le_trans (Nat.add_le_add_right hal _) (lim_le hln)) ?_
            cases q : lcL gd1 g1 gc1 fe (wipeE σ' own1) items1 st5 with
            | no => rw [q] at h4; exact h4.elim
            | exc x stx => rw [q] at h4; exact h4
            | ok ys st6 =>
              rw [q] at h4
              have h4 : After G E0 F m st.length H (if gd.ok st6 = true then (lc2L gd g gc own1 k1 fs1 g1 gc1 fe (wipeE σe own) (nn + items1.length) (items.drop (i + 1)) st6).bnd fun zs st => .ok (ys ++ zs) st else .no) (fun vs => KD G D Qd (accV ++ vs)) := h4
              split at h4
              · rename_i hg6
                intro F6 m6 H6 S6 e6 us ru hD6 fD6 mD6
                refine ⟨F6, m6, st6, accV ++ ys, us, nn + items1.length, S6, e6, hg6, hD6, fD6, mD6, ru, ?_, ?_⟩
                · have l1 := ru.length
                  have l2 := lcL_len gd1 g1 gc1 fe (wipeE σ' own1) items1 st5 ys st6 q
                  have l3 := ra.length
                  rw [List.length_append] at l1
                  omega
                · refine (After.keep Ext.refl h4).mono fun zs st7 F7 m7 H7 S7 e7 h7 => ?_
                  have := h7 F7 m7 H7 S7 e7
                  rw [List.append_assoc]
                  exact this
              · exact h4.elim
          · exact h4.elim
  · rintro H' ⟨F', m', st', accV, acc, nn, S', e', g', hD', fD', mD', ra, hal, h'⟩
    rw [List.drop_length] at h'
    have h' : KD G D Qd (accV ++ []) st' F' m' H' := h' F' m' H' S' e'
    rw [List.append_nil] at h'
    exact h' acc ra hD' fD' mD'
def lc2V (mt : Bool) (k : ItK) (own own1 : List Nat) (g : Tg) (gc : Env → Store → Res Bool) (k1 : ItK) (fs1 : Env → Store → Res (List Val)) (g1 : Tg) (gc1 : Env → Store → Res Bool) (fe : Env → Store → Res Val) (σ : Env) (vs : List Val) (st : Store) : Res Val :=
  (iterV k vs st).bnd fun p st => if p.2.ok st then (noX (lc2L p.2 g gc own1 k1 fs1 g1 gc1 fe (wipeE σ own) 0 p.1 st)).bnd fun xs st => newL mt xs st else .no
theorem lc2_t {k k1 : ItK} {fs : Env → Store → Res (List Val)} {own own1 : List Nat} {mt : Bool} (hsl : ∀ j ∈ g.slots, j ∈ own) (hsl1 : ∀ j ∈ g1.slots, j ∈ own1) {σ : L2.St} {H : Hp} {Q : VK} (h : tE G E (fun σ st => (fs σ st).bnd (lc2V mt k own own1 g gc k1 fs1 g1 gc1 fe σ)) σ H Q) :
    tLc2 (tI G E k fs) (tG G g) (tT G E0 gc) (tI G E0 k1 fs1) (tG G g1) (tT G E0 gc1) (tE G E0 fe) own own1 σ H Q := by
  obtain ⟨F, m, σe, st, S, rs, h⟩ := h
  refine ⟨F, m, σe, st, S, rs, h.bnd.mono fun vs st1 F1 m1 H1 S1 e1 h1 => ?_⟩
  unfold lc2V iterV at h1
  cases hw : walk k vs st1 with
  | none => rw [hw] at h1; exact h1.elim
  | some p =>
    obtain ⟨items, gd, st2⟩ := p
    rw [hw] at h1
    refine ⟨items, gd, st2, rfl, fun J F2 m2 H2 S2 e2 hgd W D hD => ?_⟩
    have h2 := h1.pull (st := st2) e2
    have h2 : After G E F2 m2 st2.length H2 (if gd.ok st2 = true then (noX (lc2L gd g gc own1 k1 fs1 g1 gc1 fe (wipeE σe own) 0 items st2)).bnd fun xs st => newL mt xs st else .no) (KV G Q) := h2
    rw [if_pos hgd] at h2
    refine lc2L_ok (E := E) hgd W S2 (rs.up (e1.trans e2)) hD hsl hsl1 ?_
    refine (After.keep Ext.refl h2).mono fun xs st3 F3 m3 H3 S3 e3 h3 us ru hD3 fD3 mD3 => ?_
    exact adopt e3 S3 hD hD3 fD3 mD3 ru h3
theorem se_lc2 {k k1 : ItK} {fs : Env → Store → Res (List Val)} {mt : Bool} {elt tg iter tg1 iter1 : Expr} {ifs ifs1 : List Expr} {scope : Scope} {own : List (Str × Nat)} {own1 : List Nat} (hc : X.calm = true) (hN : X.N.Nodup) (hi : PI X tg iter (tI G E k fs)) (ok : BlkOk X.N X.env.scope scope own) (hv : ∀ i ∈ own1, i ∈ own.map (·.2)) (hsl : ∀ j ∈ g.slots, j ∈ own.map (·.2)) (hsl1 : ∀ j ∈ g1.slots, j ∈ own1)
    (hg : ∀ (s : Shared) (H : Hp) (C : Addr) (cl : List (Str × Addr)) (fp : List Addr), PG (X.blk s H scope (compEnvC scope cl C X.env) fp) tg (tG G g)) (ht : ∀ (s : Shared) (H : Hp) (C : Addr) (cl : List (Str × Addr)) (fp : List Addr), PTs (X.blk s H scope (compEnvC scope cl C X.env) fp) ifs (tT G E0 gc))
    (hi1 : ∀ (s : Shared) (H : Hp) (C : Addr) (cl : List (Str × Addr)) (fp : List Addr), PI (X.blk s H scope (compEnvC scope cl C X.env) fp) tg1 iter1 (tI G E0 k1 fs1))
    (hg1 : ∀ (s : Shared) (H : Hp) (C : Addr) (cl : List (Str × Addr)) (fp : List Addr), PG (X.blk s H scope (compEnvC scope cl C X.env) fp) tg1 (tG G g1)) (ht1 : ∀ (s : Shared) (H : Hp) (C : Addr) (cl : List (Str × Addr)) (fp : List Addr), PTs (X.blk s H scope (compEnvC scope cl C X.env) fp) ifs1 (tT G E0 gc1))
    (he : ∀ (s : Shared) (H : Hp) (C : Addr) (cl : List (Str × Addr)) (fp : List Addr), PE (X.blk s H scope (compEnvC scope cl C X.env) fp) elt (tE G E0 fe)) (hs : ∀ x, foldedSetIterable iter X.env x = pure x) (hs1 : ∀ env x, foldedSetIterable iter1 env x = pure x) :
    PE X (.ListComp elt [⟨tg, iter, ifs, 0⟩, ⟨tg1, iter1, ifs1, 0⟩] scope pos) (tE G E fun σ st => (fs σ st).bnd (lc2V mt k (own.map (·.2)) own1 g gc k1 fs1 g1 gc1 fe σ)) :=
  PE.imp (pe_lc2 hc hN hi ok hv hg ht hi1 hg1 ht1 he hs hs1) fun σ H Q h => lc2_t hsl hsl1 h
end
end Mi

/-! Mi, part l4: sorted(..) of tuples of texts. -/
namespace Mi
open PySem PySem.Spec PyProof.Rows L2
def ltSS : List Str → List Str → Bool
  | [], [] => false
  | [], _ :: _ => true
  | _ :: _, [] => false
  | x :: xs, y :: ys => if x = y then ltSS xs ys else ltS x y
theorem ltS_irrefl (a : Str) : ltS a a = false := by
  cases h : ltS a a with
  | false => rfl
  | true => exact (ltS_asymm a a h).symm.trans h ▸ rfl
theorem ltSS_asymm : ∀ a b : List Str, ltSS a b = true → ltSS b a = false
  | [], [], h => by cases h
  | [], _ :: _, _ => rfl
  | _ :: _, [], h => by cases h
  | x :: xs, y :: ys, h => by
    unfold ltSS at h ⊢
    by_cases e : x = y
    · rw [if_pos e] at h
      rw [if_pos e.symm]
      exact ltSS_asymm xs ys h
    · rw [if_neg e] at h
      rw [if_neg (Ne.symm e)]
      exact ltS_asymm x y h
theorem ltS_total {a b : Str} (h : a ≠ b) (g : ltS a b = false) : ltS b a = true := by
  cases q : ltS b a with
  | true => rfl
  | false => exact absurd (ltS_antisymm a b q g) h
theorem ltSS_trans : ∀ a b c : List Str, ltSS b a = false → ltSS c b = false → ltSS c a = false
  | [], _, [], _, _ => rfl
  | [], _, _ :: _, _, _ => rfl
  | _ :: _, [], _, h, _ => by cases h
  | x :: xs, y :: ys, [], _, g => by cases g
  | x :: xs, y :: ys, z :: zs, h, g => by
    unfold ltSS at h g ⊢
    by_cases e1 : y = x
    · subst e1
      rw [if_pos rfl] at h
      by_cases e2 : z = y
      · subst e2
        rw [if_pos rfl] at g ⊢
        exact ltSS_trans xs ys zs h g
      · rw [if_neg e2] at g ⊢
        exact g
    · rw [if_neg e1] at h
      by_cases e2 : z = y
      · subst e2
        rw [if_neg e1]
        exact h
      · rw [if_neg e2] at g
        have hz : ltS z x = false := ltS_trans x y z h g
        by_cases e3 : z = x
        · subst e3
          have := ltS_antisymm z y h g
          exact absurd this e2
        · rw [if_neg e3]
          exact hz
theorem ltSS_antisymm : ∀ a b : List Str, ltSS b a = false → ltSS a b = false → a = b
  | [], [], _, _ => rfl
  | [], _ :: _, _, g => by cases g
  | _ :: _, [], h, _ => by cases h
  | x :: xs, y :: ys, h, g => by
    unfold ltSS at h g
    by_cases e : x = y
    · rw [if_pos e.symm] at h
      rw [if_pos e] at g
      rw [e, ltSS_antisymm xs ys h g]
    · rw [if_neg (Ne.symm e)] at h
      rw [if_neg e] at g
      exact absurd (ltS_antisymm x y h g) e
theorem sortedSS_unique {ys xs : List (List Str)} (hp : ys.Perm xs) (hs : ys.Pairwise (fun a b => ltSS b a = false)) : ys = isort ltSS xs :=
  List.Perm.eq_of_pairwise (fun a b _ _ h g => ltSS_antisymm a b h g) hs (isort_pw ltSS_asymm ltSS_trans xs) (hp.trans (isort_perm xs).symm)
/-- v is a tuple of these texts -/
def IsTS (h : Heap) (v : Value) (ss : List Str) : Prop := ∃ a o items n, v = .ref a ∧ h.get? a = some o ∧ o.cls = .type "tuple" ∧ o.data = .seq items n ∧ StrsAre items.toList ss
theorem IsTS.keeps {h h' : Heap} {v : Value} {ss : List Str} (x : IsTS h v ss) (k : ∀ b o, h.get? b = some o → o.cls = .type "tuple" → h'.get? b = some o) : IsTS h' v ss := by
  obtain ⟨a, o, items, n, e, g, c, d, i⟩ := x
  exact ⟨a, o, items, n, e, k _ _ g c, c, d, i⟩
theorem strsAre_get {vs : List Value} {ss : List Str} (h : StrsAre vs ss) : ∀ {j : Nat} {v : Value}, vs[j]? = some v → ∃ x t, ss[j]? = some x ∧ v = .str x t := by
  induction h with
  | nil => intro j v e; simp at e
  | cons y t r ih =>
    intro j v e
    cases j with
    | zero => cases e; exact ⟨y, t, rfl, rfl⟩
    | succ j => exact ih (j := j) e
theorem strsAre_len {vs : List Value} {ss : List Str} (h : StrsAre vs ss) : vs.length = ss.length := by
  induction h with
  | nil => rfl
  | cons y t r ih => rw [List.length_cons, List.length_cons, ih]
/-- the kit's lexAt, by texts -/
theorem lexAt_ss (xs ys : List Str) : ∀ (k i : Nat), i + k = min xs.length ys.length →
    Ob.lexAt (fun j => decide (xs[j]? = ys[j]?)) (fun j => match xs[j]?, ys[j]? with | some a, some b => ltS a b | _, _ => false) (decide (xs.length < ys.length)) i k = ltSS (xs.drop i) (ys.drop i) := by
  intro k
  induction k with
  | zero =>
    intro i hi
    rw [Ob.lexAt_zero]
    by_cases h : xs.length ≤ i
    · by_cases g : ys.length ≤ i
      · rw [List.drop_of_length_le h, List.drop_of_length_le g]
        exact decide_eq_false (by omega)
      · rw [List.drop_of_length_le h, List.drop_eq_getElem_cons (by omega : i < ys.length)]
        exact decide_eq_true (by omega)
    · have g : ys.length ≤ i := by omega
      rw [List.drop_of_length_le g, List.drop_eq_getElem_cons (by omega : i < xs.length)]
      exact decide_eq_false (by omega)
  | succ k ih =>
    intro i hi
    have h1 : i < xs.length := by omega
    have h2 : i < ys.length := by omega
    rw [Ob.lexAt_succ, List.drop_eq_getElem_cons h1, List.drop_eq_getElem_cons h2]
    unfold ltSS
    by_cases e : xs[i] = ys[i]
    · rw [if_pos (decide_eq_true (by simp [h1, h2, e])), if_pos e]
      exact ih (i + 1) (by omega)
    · rw [if_neg (by simp [h1, h2, e]), if_neg e]
      simp [h1, h2]
section
variable {prog : Program} {w : World} {A : Around} {E : Value → Shared → Prop} {s : Shared}
theorem ss_eqAt {items items2 : Array Value} {xs ys : List Str} (h : StrsAre items.toList xs) (g : StrsAre items2.toList ys) (A : Around) (s : Shared) (j : Nat) (h1 : j < items.size) (h2 : j < items2.size) : SeqAt.EqAt A s items[j] items2[j] (decide (xs[j]? = ys[j]?)) := by
  obtain ⟨a, t, e1, e2⟩ := strsAre_get h (j := j) (v := items[j]) (by simp [h1])
  obtain ⟨b, u, e3, e4⟩ := strsAre_get g (j := j) (v := items2[j]) (by simp [h2])
  rw [e2, e4, e1, e3]
  have := SeqAt.EqAt.str_str (A := A) (s := s) a t b u
  have e : (a == b) = decide (some a = some b) := by
    by_cases q : a = b
    · subst q; simp
    · simp [q]
  rw [← e]
  exact this
theorem ss_lt {items items2 : Array Value} {xs ys : List Str} (h : StrsAre items.toList xs) (g : StrsAre items2.toList ys) (A : Around) (s : Shared) (j : Nat) (h1 : j < items.size) (h2 : j < items2.size) : Ob.RcOp .Lt A s items[j] items2[j] (match xs[j]?, ys[j]? with | some a, some b => ltS a b | _, _ => false) := by
  obtain ⟨a, t, e1, e2⟩ := strsAre_get h (j := j) (v := items[j]) (by simp [h1])
  obtain ⟨b, u, e3, e4⟩ := strsAre_get g (j := j) (v := items2[j]) (by simp [h2])
  rw [e2, e4, e1, e3]
  intro prog w E Q q
  dsimp only at q
  rw [ltS_eq] at q
  exact PyProof.Rows.lt_str q
/-- x < y, one way or the other -/
theorem ss_general {x y : Value} {xs ys : List Str} {Q : Bool → Shared → Prop} (hu : A.units < cLine) (hx : IsTS s.heap x xs) (hy : IsTS s.heap y ys) (h : Q (ltSS xs ys) s) : wpAny (model prog w) A (keyLt' general' x y) Q E s := by
  obtain ⟨a, o, items, n, rfl, g1, c1, d1, i1⟩ := hx
  obtain ⟨b, o', items2, n', rfl, g2, c2, d2, i2⟩ := hy
  show wpAny (model prog w) A (oneLt' false (.ref a) (.ref b)) Q E s
  refine PySem.W.kat_one _ _ ?_
  have l1 := strsAre_len i1
  have l2 := strsAre_len i2
  rw [Array.length_toList] at l1 l2
  have := Ob.RcOp.tuples_lt (A := A) (s := s) (l := a) (b := b) (items := items) (items2 := items2) ⟨o, g1, c1, n, d1⟩ ⟨o', g2, c2, n', d2⟩ hu (fun j h1 h2 => ss_eqAt i1 i2 _ _ j h1 h2) (fun j h1 h2 _ => ss_lt i1 i2 _ _ j h1 h2)
  refine this prog w E _ ?_
  rw [l1, l2, lexAt_ss xs ys _ 0 (by omega)]
  exact h
theorem ss_oneType {x y : Value} {xs ys : List Str} {Q : Bool → Shared → Prop} (hu : A.units < cLine) (hx : IsTS s.heap x xs) (hy : IsTS s.heap y ys) (h : Q (ltSS xs ys) s) : wpAny (model prog w) A (keyLt' oneType' x y) Q E s := by
  obtain ⟨a, o, items, n, rfl, g1, c1, d1, i1⟩ := hx
  obtain ⟨b, o', items2, n', rfl, g2, c2, d2, i2⟩ := hy
  rw [keyLt'_oneType, oneLt'_eq]
  simp only [if_true]
  refine wpAny_bind (wpAny_cRoomFor hu ?_)
  obtain ⟨cls, dd, data, sl⟩ := o
  obtain ⟨cls2, dd2, data2, sl2⟩ := o'
  simp only at c1 d1 c2 d2
  subst c1 d1 c2 d2
  have l1 := strsAre_len i1
  have l2 := strsAre_len i2
  rw [Array.length_toList] at l1 l2
  refine wpAny_bind (wpAny_callSpecialIfBound?_slot (T := "tuple") ⟨_, g1, rfl⟩ PySem.F.slot_tuple_lt (call_meets PySem.F.slot_tuple_lt ⟨_, g1, rfl⟩ PySem.F.entry_tuple_lt (PySem.F.args_tuple_lt_2 _ _) (Ob.tuple_ltAt a b items items2 n n' dd dd2 sl sl2 _ _) ⟨g1, g2, fun j h1 h2 => ss_eqAt i1 i2 _ _ j h1 h2, fun j h1 h2 _ => ss_lt i1 i2 _ _ j h1 h2, ?_⟩))
  rw [l1, l2, lexAt_ss xs ys _ 0 (by omega)]
  exact wpAny_truthy_bool h
end
end Mi

/-! Mi, part l5: sorted(..) of tuples of texts, the call. -/
namespace Mi
open PySem PySem.Spec PyProof.Rows L2
section
variable {prog : Program} {w : World} {A : Around} {E : Value → Shared → Prop} {s : Shared}
theorem ss_lex {Q : Bool → Shared → Prop} : ∀ {l1 l2 : List Value} {xs ys : List Str} (i : Nat), StrsAre l1 xs → StrsAre l2 ys → Q (ltSS xs ys) s → PySem.W.KatLex prog w A true (decide (xs.length < ys.length)) Q (l1.zip l2) i s
  | [], _, _, ys, i, .nil, g, h => by
    cases g with
    | nil => exact PySem.W.kat_nil h
    | cons y t r => exact PySem.W.kat_nil (by rw [decide_eq_true (by simp)]; exact h)
  | _ :: _, [], _, _, i, .cons y t r, .nil, h => PySem.W.kat_nil (by rw [decide_eq_false (by simp)]; exact h)
  | _ :: l1, _ :: l2, _ :: xs, _ :: ys, i, .cons x t r, .cons y u q, h => by
    rw [List.zip_cons_cons]
    refine PySem.W.kat_cons (SeqAt.EqAt.str_str x t y u prog w _ _ ?_)
    unfold ltSS at h
    refine PySem.W.kat_go (fun e => ?_) (fun e => ?_)
    · have e : x = y := by simpa using e
      rw [if_pos e] at h
      refine PySem.W.kat_yes ?_
      have := ss_lex (i + 1) r q h
      have e2 : decide ((x :: xs).length < (y :: ys).length) = decide (xs.length < ys.length) := by
        rw [List.length_cons, List.length_cons]
        by_cases z : xs.length < ys.length
        · rw [decide_eq_true z, decide_eq_true (by omega)]
        · rw [decide_eq_false z, decide_eq_false (by omega)]
      rw [e2]
      exact this
    · have e : ¬ x = y := by simpa using e
      rw [if_neg e, ltS_eq] at h
      refine PySem.W.kat_no ?_
      cases i with
      | zero => exact oneLt_str h
      | succ i =>
        have e0 : (true && (i + 1 == 0)) = false := by simp
        rw [e0]
        exact PySem.W.kat_one _ _ (PyProof.Rows.lt_str h)
theorem ss_tuples {x y : Value} {xs ys : List Str} {Q : Bool → Shared → Prop} (hx : IsTS s.heap x xs) (hy : IsTS s.heap y ys) (h : Q (ltSS xs ys) s) : wpAny (model prog w) A (keyLt' (tuples' true) x y) Q E s := by
  obtain ⟨a, o, items, n, rfl, g1, c1, d1, i1⟩ := hx
  obtain ⟨b, o', items2, n', rfl, g2, c2, d2, i2⟩ := hy
  refine PySem.W.kat_lt g1 d1 g2 d2 ?_
  have l1 := strsAre_len i1
  have l2 := strsAre_len i2
  rw [Array.length_toList] at l1 l2
  rw [l1, l2]
  exact ss_lex 0 i1 i2 h
theorem ss_type {h : Heap} {M : Model} {v : Value} {ss : List Str} (x : IsTS h v ss) : PySem.W.Looks M h (typeOf v) (.type "tuple") := by
  obtain ⟨a, o, items, n, rfl, g, c, d, i⟩ := x
  have : PySem.W.Looks M h (typeOf (.ref a)) o.cls := (PySem.W.Looks.ld g).andThen .now
  rw [c] at this
  exact this
theorem ss_firsts {M : Model} {k : Value → List Str} : ∀ (vs : List Value) {Q : List (Option Value) → Shared → Prop}, (∀ v ∈ vs, IsTS s.heap v (k v)) → (∀ fs : List (Option Value), fs.length = vs.length → (∀ (j : Nat) (f : Option Value), fs[j]? = some f → ∃ v, vs[j]? = some v ∧ (match f with | none => k v = [] | some u => k v ≠ [] ∧ ∃ x t, u = Value.str x t)) → Q fs s) → wpAny M A (vs.mapM firstOfTuple') Q E s
  | [], Q, _, h => by
    rw [List.mapM_nil]
    exact wpAny_pure (h [] rfl fun j f e => by simp at e)
  | v :: vs, Q, hv, h => by
    rw [List.mapM_cons]
    have h0 := hv v List.mem_cons_self
    have ty := ss_type (M := M) h0
    obtain ⟨a, o, items, n, e, g, c, d, i⟩ := h0
    refine wpAny_bind ?_
    rw [PySem.W.kas_first_eq]
    refine wpAny_bind (ty.here ?_)
    rw [if_neg (by first | decide | simp), e]
    refine wpAny_bind (listItems_at g d (wpAny_pure ?_))
    refine wpAny_bind (ss_firsts vs (Q := fun bs s' => wpAny M A (pure (items[0]? :: bs)) Q E s') (fun u hu => hv u (List.mem_cons_of_mem _ hu)) fun fs hl hf => wpAny_pure (h _ (by rw [List.length_cons, List.length_cons, hl]) fun j f ej => ?_))
    cases j with
    | zero =>
      simp at ej
      refine ⟨v, rfl, ?_⟩
      have ej' : items.toList[0]? = f := by simpa using ej
      cases hi : items.toList with
      | nil =>
        rw [hi] at i ej'
        have hk : k v = [] := by cases hq : k v with | nil => rfl | cons => rw [hq] at i; cases i
        subst ej'
        exact hk
      | cons u us =>
        rw [hi] at i ej'
        subst ej'
        show k v ≠ [] ∧ ∃ x t, u = .str x t
        cases hq : k v with
        | nil => rw [hq] at i; cases i
        | cons y ys =>
          rw [hq] at i
          cases i with
          | cons y t r => exact ⟨by simp, y, t, rfl⟩
    | succ j => exact hf j f (by simpa using ej)
def headNe (k : Value → List Str) : List Value → Bool
  | [] => false
  | v :: _ => !(k v).isEmpty
theorem ss_sortable {a : Addr} {vs : List Value} {k : Value → List Str} (hu : A.units < cLine) (h2 : 2 ≤ vs.length) (hp : ∀ v ∈ vs, IsTS s.heap v (k v)) (ha : ∀ o, s.heap.get? a = some o → o.cls ≠ .type "tuple") : SrtO.SortableO prog w A s a vs fun v u => ltSS (k v) (k u) := by
  intro h' keep
  have hp' : ∀ v ∈ vs, IsTS h' v (k v) := fun v hm => (hp v hm).keeps fun b o e c => keep b o (fun z => by subst z; exact ha o e c) e
  have cT : SrtO.Cmp prog w A { s with heap := h' } (tuples' true) (fun p => p.1 ∈ vs) (SrtO.lt2 fun v u => ltSS (k v) (k u)) := fun p q h1 h2 => ss_tuples (s := { s with heap := h' }) (Q := fun r s' => s' = { s with heap := h' } ∧ r = ltSS (k p.1) (k q.1)) (hp' _ h1) (hp' _ h2) ⟨rfl, rfl⟩
  have cG : SrtO.Cmp prog w A { s with heap := h' } general' (fun p => p.1 ∈ vs) (SrtO.lt2 fun v u => ltSS (k v) (k u)) := fun p q h1 h2 => ss_general (s := { s with heap := h' }) (Q := fun r s' => s' = { s with heap := h' } ∧ r = ltSS (k p.1) (k q.1)) hu (hp' _ h1) (hp' _ h2) ⟨rfl, rfl⟩
  have cO : SrtO.Cmp prog w A { s with heap := h' } oneType' (fun p => p.1 ∈ vs) (SrtO.lt2 fun v u => ltSS (k v) (k u)) := fun p q h1 h2 => ss_oneType (s := { s with heap := h' }) (Q := fun r s' => s' = { s with heap := h' } ∧ r = ltSS (k p.1) (k q.1)) hu (hp' _ h1) (hp' _ h2) ⟨rfl, rfl⟩
  by_cases hall : ∀ v ∈ vs, k v ≠ []
  · refine ⟨tuples' true, fun Q E hq => ?_, cT⟩
    have mk : ∀ us : List Value, (∀ v ∈ us, v ∈ vs) → ∃ fs, PySem.W.KatTups h' us fs ∧ fs.length = us.length ∧ ∀ f ∈ fs, ∃ x t, f = Value.str x t := by
      intro us
      induction us with
      | nil => intro _; exact ⟨[], PySem.W.KatTups.nil, rfl, fun f h => by simp at h⟩
      | cons v us ih =>
        intro hm
        obtain ⟨fs, t1, t2, t3⟩ := ih fun u hu => hm u (List.mem_cons_of_mem _ hu)
        have hv := hm v List.mem_cons_self
        obtain ⟨a', o, items, n, e, g, c, d, i⟩ := hp' v hv
        cases hk : k v with
        | nil => exact absurd hk (hall v hv)
        | cons y ys =>
          rw [hk] at i
          cases hi : items.toList with
          | nil => rw [hi] at i; cases i
          | cons u0 us0 =>
            rw [hi] at i
            cases i with
            | cons y t r =>
              subst e
              refine ⟨_ :: fs, PySem.W.KatTups.cons g c d (f := .str y t) ?_ t1, by rw [List.length_cons, List.length_cons, t2], fun f hf => ?_⟩
              · rw [← Array.getElem?_toList, hi]; rfl
              · rcases List.mem_cons.mp hf with rfl | hf
                · exact ⟨y, t, rfl⟩
                · exact t3 f hf
    obtain ⟨fs, t1, t2, t3⟩ := mk vs fun v h => h
    refine PySem.W.kat_kind (s := { s with heap := h' }) (T := .type "str") t1 (by omega) (fun f hm => ?_) (by rfl) ?_
    · obtain ⟨x, t, rfl⟩ := t3 f hm
      exact PySem.W.Looks.now
    · have e : (Value.type "str" != Value.type "tuple") = true := by first | decide +kernel | rfl | decide
      rw [e]
      exact hq
  · obtain ⟨v0, hv0, hk0⟩ : ∃ v ∈ vs, k v = [] := by
      apply Classical.byContradiction
      intro hn
      exact hall fun v hv e => hn ⟨v, hv, e⟩
    have h1 : ∃ κ, (κ = general' ∨ κ = oneType') ∧ ∀ (Q : SortKind → Shared → Prop) (E : Value → Shared → Prop), Q κ { s with heap := h' } → wpAny (model prog w) A (keyKind' vs.toArray) Q E { s with heap := h' } := by
      have key : ∀ (κ : SortKind), κ = (if headNe k vs = true then general' else oneType') → ∀ (Q : SortKind → Shared → Prop) (E : Value → Shared → Prop), Q κ { s with heap := h' } → wpAny (model prog w) A (keyKind' vs.toArray) Q E { s with heap := h' } := by
        intro κ hκ Q E hq
        rw [kat_kind_eq, List.mapM_toArray, map_eq_pure_bind]
        refine wpAny_bind (wpAny_bind (ss_firsts (s := { s with heap := h' }) vs hp' fun fs hl hf => wpAny_pure ?_))
        have hno : ¬ (fs.toArray.all fun x => x.isSome) = true := by
          rw [List.all_toArray, List.all_eq_true]
          intro hs
          obtain ⟨j, hj⟩ := List.mem_iff_getElem?.mp hv0
          have hjl := (List.getElem?_eq_some_iff.mp hj).1
          obtain ⟨v, hv, hm⟩ := hf j fs[j] (by simp [show j < fs.length by omega])
          have hsm := hs fs[j] (List.getElem_mem _)
          rw [hj] at hv
          cases hv
          cases hfj : fs[j] with
          | none => rw [hfj] at hsm; cases hsm
          | some u => rw [hfj] at hm; exact hm.1 hk0
        rw [if_neg hno]
        cases vs with
        | nil => simp at h2
        | cons v vs =>
          cases fs with
          | nil => simp at hl
          | cons f fs =>
            obtain ⟨v', hv', hm⟩ := hf 0 f rfl
            cases hv'
            have e0 : ((f :: fs).toArray[0]?.bind id).isSome = f.isSome := by cases f <;> rfl
            rw [e0]
            cases f with
            | some u =>
              rw [if_pos (show (some u).isSome = true from rfl)]
              have : (!(k v).isEmpty) = true := by cases hkv : k v with | nil => exact absurd hkv hm.1 | cons => rfl
              simp only [headNe, this, if_true] at hκ
              subst hκ
              exact wpAny_pure hq
            | none =>
              rw [if_neg (by simp)]
              have : (!(k v).isEmpty) = false := by rw [show k v = [] from hm]; rfl
              simp only [headNe, this, Bool.false_eq_true, if_false] at hκ
              subst hκ
              rw [oneTypeOnly'_eq, List.mapM_toArray, map_eq_pure_bind]
              refine wpAny_bind (wpAny_bind (wpAny_bind (PySem.W.kas_mapM (r := Value.type "tuple") _ (fun u hu Q' hq => (ss_type (hp' u hu)).here hq) (wpAny_pure ?_))))
              have hall2 : ((List.map (fun _ => Value.type "tuple") (v :: vs)).toArray.all fun x => x == Value.type "tuple") = true := by
                simp only [List.all_toArray, List.all_map, List.all_eq_true]
                intro _ _
                rfl
              have h0 : (List.map (fun _ => Value.type "tuple") (v :: vs)).toArray[0]? = some (Value.type "tuple") := by simp
              rw [h0]
              simp only [hall2, if_true]
              exact wpAny_pure (wpAny_pure hq)
      by_cases hb : headNe k vs = true
      · exact ⟨general', .inl rfl, key general' (by rw [if_pos hb])⟩
      · exact ⟨oneType', .inr rfl, key oneType' (by rw [if_neg hb])⟩
    obtain ⟨κ, hk, h3⟩ := h1
    rcases hk with rfl | rfl
    · exact ⟨general', h3, cG⟩
    · exact ⟨oneType', h3, cO⟩
theorem swo_ss (k : Value → List Str) : SrtO.Swo fun v u => ltSS (k v) (k u) := ⟨fun x y => ltSS_asymm (k x) (k y), fun x y z => ltSS_trans (k x) (k y) (k z)⟩
end
def asSS : Val → Option (List Str)
  | .tup xs => mapO asS xs
  | _ => none
def sortTV (mt : Bool) : List Val → Store → Res Val := fun vs st => match vs with
  | [v] => match lstOf st v with
    | some xs => match mapO asSS xs with
      | some ss => newL mt ((isort ltSS ss).map fun q => .tup (q.map .str)) st
      | none => .no
    | none => .no
  | _ => .no
def kOf (h : Heap) : Value → List Str
  | .ref a => match h.get? a with
    | some o => match o.data with
      | .seq items _ => items.toList.filterMap fun v => match v with | .str x _ => some x | _ => none
      | _ => []
    | none => []
  | _ => []
theorem strs_filter {vs : List Value} {ss : List Str} (h : StrsAre vs ss) : (vs.filterMap fun v => match v with | .str x _ => some x | _ => none) = ss := by
  induction h with
  | nil => rfl
  | cons y t r ih => rw [List.filterMap_cons]; simp only [ih]
theorem kOf_is {h : Heap} {v : Value} {ss : List Str} (x : IsTS h v ss) : kOf h v = ss := by
  obtain ⟨a, o, items, n, rfl, g, c, d, i⟩ := x
  simp only [kOf, g, d]
  exact strs_filter i
theorem asS_map : ∀ {xs : List Val} {ss : List Str}, mapO asS xs = some ss → xs = ss.map .str
  | [], ss, h => by cases h; rfl
  | x :: xs, ss, h => by
    unfold mapO at h
    cases q1 : asS x with
    | none => simp [q1] at h
    | some a =>
      cases q2 : mapO asS xs with
      | none => simp [q1, q2] at h
      | some bs =>
        simp [q1, q2] at h
        subst h
        rw [List.map_cons, ← asS_map q2]
        cases x <;> simp [asS] at q1
        rw [q1]
theorem asSS_map : ∀ {xs : List Val} {ss : List (List Str)}, mapO asSS xs = some ss → xs = ss.map fun q => .tup (q.map .str)
  | [], ss, h => by cases h; rfl
  | x :: xs, ss, h => by
    unfold mapO at h
    cases q1 : asSS x with
    | none => simp [q1] at h
    | some a =>
      cases q2 : mapO asSS xs with
      | none => simp [q1, q2] at h
      | some bs =>
        simp [q1, q2] at h
        subst h
        rw [List.map_cons, ← asSS_map q2]
        cases x <;> simp [asSS] at q1
        rw [asS_map q1]
theorem strsAre_vals : ∀ {ss : List Str} {us : List Value}, Vals (ss.map V.str) us → StrsAre us ss
  | [], us, r => by cases r; exact .nil
  | x :: ss, us, r => by
    cases r with
    | cons h q =>
      obtain ⟨t, rfl⟩ := h
      exact .cons x t (strsAre_vals q)
section
variable {X : Cx} {G : Gm} {E : XK} {d : Nat}
theorem repL_strs_eq {F : Hp} {m : Nat → Addr} {n : Nat} : ∀ {ss : List Str} {ys : List V}, RepL G F m n (ss.map .str) ys → ys = ss.map V.str
  | [], ys, r => by unfold RepL at r; exact r
  | x :: ss, ys, r => by
    rw [List.map_cons] at r
    unfold RepL at r
    obtain ⟨y, zs, rfl, r1, r2⟩ := r
    unfold Rep at r1
    rw [r1, repL_strs_eq r2]
    rfl
theorem sortT_ok (cx : CxR X G d) {mt : Bool} : CallR X (.builtin "sorted") (rVL G E (sortTV mt)) := by
  intro pins s σ H xs us Q I r h
  obtain ⟨F, m, st, vs, S, rv, h⟩ := h
  unfold sortTV at h
  split at h
  · rename_i v
    split at h
    · rename_i ys hy
      split at h
      · rename_i ss hs
        have e0 := asSS_map hs
        subst e0
        obtain ⟨z, rfl, rz⟩ := repL1 rv
        obtain ⟨p, zs, rfl, sq, rl⟩ := S.list rz hy
        rw [← cx.K] at sq
        obtain ⟨its, rvs, hl, hz⟩ := I.list sq
        rw [Vals.ref1 r]
        have each : ∀ u ∈ its, ∃ a, u = .ref a ∧ IsTS s.heap u (kOf s.heap u) ∧ Rep G F m st.length (.tup ((kOf s.heap u).map .str)) (.ref a) ∧ ∃ j : Nat, its[j]? = some u ∧ ss[j]? = some (kOf s.heap u) := by
          intro u hu
          obtain ⟨j, hj⟩ := List.mem_iff_getElem?.mp hu
          have hjl := (List.getElem?_eq_some_iff.mp hj).1
          have l1 : zs.length = its.length := rvs.length
          have l2 := rl.length
          rw [List.length_map] at l2
          have hjs : j < ss.length := by omega
          obtain ⟨y, hy1, ry⟩ := rl.get (i := j) (v := .tup (ss[j].map .str)) (by simp [hjs])
          obtain ⟨u', hu', ru⟩ := rvs.get hy1
          rw [hj] at hu'
          cases hu'
          have ry' := ry
          unfold Rep at ry
          obtain ⟨a, ws, rfl, ha, rw'⟩ := ry
          have e1 := repL_strs_eq rw'
          subst e1
          cases (show u = Value.ref a from ru)
          obtain ⟨ts, rt, ht, _⟩ := I.tuple (show SqT X.K H a (ss[j].map V.str) from .inl (.inl (S.same _ _ ha)))
          obtain ⟨o, g1, c1, n1, d1⟩ := ht
          have is : IsTS s.heap (.ref a) ss[j] := ⟨a, o, ts.toArray, n1, rfl, g1, c1, d1, strsAre_vals rt⟩
          have ek := kOf_is is
          rw [ek]
          exact ⟨a, rfl, is, ry', j, hj, by simp [hjs]⟩
        have hu2 : X.A.in1.in1.units < cLine := by have := cx.u65; show X.A.units + 1 + 1 < cLine; omega
        refine SrtO.sorted_ord (swo_ss (kOf s.heap)) hl.isList (by rw [← rvs.length]; exact hz) (fun h2 h₁ a' ha' kk => ?_) fun out h1 h2 => ?_
        · refine ss_sortable (s := { s with heap := h₁ }) hu2 h2 (fun u hm => ?_) fun o e => ?_
          · obtain ⟨a, _, is, _⟩ := each u hm
            exact is.keeps fun b o e _ => (kk b o e).2
          · have e' : some o = some (seqObj "list" its.toArray 0) := e.symm.trans ha'
            cases e'
            intro c
            exact absurd (Value.type.inj c) (by decide)
        · obtain ⟨ep, he'⟩ := PyProof.Rows.sortedAll_at s.heap its out.toArray
          have hout : ∀ u ∈ out, ∃ a, u = .ref a ∧ Rep G F m st.length (.tup ((kOf s.heap u).map .str)) (.ref a) := fun u hu => by
            obtain ⟨a, e, _, ra, _⟩ := each u (h2.perm.mem_iff.mp hu)
            exact ⟨a, e, ra⟩
          have mk : ∀ l : List Value, (∀ u ∈ l, ∃ a, u = .ref a ∧ Rep G F m st.length (.tup ((kOf s.heap u).map .str)) (.ref a)) → ∃ zs : List V, Vals zs l ∧ RepL G F m st.length ((l.map (kOf s.heap)).map fun q => .tup (q.map .str)) zs := by
            intro l
            induction l with
            | nil => intro _; exact ⟨[], .nil, RepL.nil⟩
            | cons u l ih =>
              intro hh
              obtain ⟨zs, q1, q2⟩ := ih fun u hu => hh u (List.mem_cons_of_mem _ hu)
              obtain ⟨a, e, ra⟩ := hh u List.mem_cons_self
              refine ⟨.ref a :: zs, .cons (by rw [e]; rfl) q1, RepL.cons ra q2⟩
          obtain ⟨os, v1, v2⟩ := mk out hout
          have ekeys : its.map (kOf s.heap) = ss := by
            apply List.ext_getElem?
            intro j
            rw [List.getElem?_map]
            cases hj : its[j]? with
            | none =>
              have l1 : zs.length = its.length := rvs.length
              have l2 := rl.length
              rw [List.length_map] at l2
              have := List.getElem?_eq_none_iff.mp hj
              exact (List.getElem?_eq_none (by omega)).symm
            | some u =>
              have hjl := (List.getElem?_eq_some_iff.mp hj).1
              have l1 : zs.length = its.length := rvs.length
              have l2 := rl.length
              rw [List.length_map] at l2
              have hjs : j < ss.length := by omega
              obtain ⟨y, hy1, ry⟩ := rl.get (i := j) (v := .tup (ss[j].map .str)) (by simp [hjs])
              obtain ⟨u', hu', ru⟩ := rvs.get hy1
              rw [hj] at hu'
              cases hu'
              unfold Rep at ry
              obtain ⟨a, ws, rfl, ha, rw'⟩ := ry
              have e1 := repL_strs_eq rw'
              subst e1
              cases (show u = Value.ref a from ru)
              obtain ⟨ts, rt, ht, _⟩ := I.tuple (show SqT X.K H a (ss[j].map V.str) from .inl (.inl (S.same _ _ ha)))
              obtain ⟨o, g1, c1, n1, d1⟩ := ht
              have is : IsTS s.heap (.ref a) ss[j] := ⟨a, o, ts.toArray, n1, rfl, g1, c1, d1, strsAre_vals rt⟩
              show some (kOf s.heap (.ref a)) = _
              rw [kOf_is is]
              simp [hjs]
          have esort : out.map (kOf s.heap) = isort ltSS ss := by
            refine sortedSS_unique ?_ (List.pairwise_map.mpr h1)
            rw [← ekeys]
            exact h2.perm.map _
          rw [esort] at v2
          have hlen : os.length ≤ sizeLine := by
            have := v1.length
            rw [this, h2.perm.length_eq, ← rvs.length]
            exact hz
          refine ⟨.ref _, upd H (s.heap.objs.size + 1) (.lst os), I.laid (t' := s.toks) (fun _ _ => PyProof.Rows.sortedAll_old) (Nat.le_succ _) ⟨hlen, out, ep, v1, he'⟩, rfl, ?_⟩
          exact fin_newL S v2 (I.hok.fresh (Nat.le_succ _)) h
      · exact h.elim
    · exact h.elim
  · exact h.elim
end
end Mi

/-! Mi, part l6: classes as values, classmethods, sorted. -/
namespace Mi
open PySem PySem.Spec PyProof.Rows L2
section
variable {X : Cx} {G : Gm} {E : XK} {d k : Nat} {f C : Addr} {fd : FuncData} {ps : List Str} {run : List Val → Store → Res Val} {dfl : List Val} {dvs : List V} {ds : List Value} {x mth : Str} {p pos apos : Pos} {e o : Expr} {es : List Expr} {fs : Env → Store → Res (List Val)} {fo : Env → Store → Res Val}
/-- a class, by its global name -/
theorem se_cls {c : Nat} (hg : Gl X x) (hm : X.mg x = some (.ref (G.cad c))) (hd : (x == ("__debug__" : Str)) = false) : PE X (.Name x pos) (tE G E fun _ st => .ok (.cl c) st) :=
  se_cst (pe_glob (v := .ref (G.cad c)) hg hm rfl hd) fun F m n => by unfold Rep; rfl
/-- a constant of the module -/
theorem se_glob {v : Val} {y : V} {u : Value} (hg : Gl X x) (hm : X.mg x = some u) (r : L2.RelV y u) (hd : (x == ("__debug__" : Str)) = false) (hr : ∀ F m n, Rep G F m n v y) : PE X (.Name x pos) (tE G E fun _ st => .ok v st) :=
  se_cst (pe_glob hg hm r hd) hr
def clsV (c : Nat) (f : Store → Res Val) : Val → Store → Res Val := fun v st => match v with
  | .cl c' => if c' = c then f st else .no
  | _ => .no
/-- x(e, ..), x a name that holds a class -/
theorem se_makeL {frz : Bool} {c : Nat} (M : Mk X.K (G.cad c) f) (F : FnOk X.prog X.w X.K X.mg X.base CX0 k f fd ps (spF G run)) (hr : Room (k + 1) X.A) (hf : PE X (.Name x p) (tE G E0 fo)) (hb : Binds X.K fd ps ds) (hd : Vals dvs ds) (hrep : ∀ F m n, RepL G F m n dfl dvs)
    (ha : PA X (e :: es) (tA G E0 fs)) (h0 : notStar e = true) (h1 : noStars es = true) : PE X (.Call (.Name x p) (e :: es) [] pos) (tE G E0 fun σ st => (fo σ st).bnd (clsV c fun st => (fs σ st).bnd fun ws st => makeV frz c run (ws ++ dfl) st)) := by
  refine ⟨fun pins s σ H Q I h => ?_⟩
  obtain ⟨F0, m0, σe, st, S, rs, h⟩ := h
  have hh : tE G E0 fo σ H fun c' H1 => c' = .ref (G.cad c) ∧ tA G E0 fs σ H1 fun vs H2 => ∀ x dx, H2 x = none → H2 dx = none → dx ≠ x → spF G run (.ref x :: (vs ++ dvs)) (upd (upd H2 dx (.own x)) x (.ins (G.cad c) dx [])) (fun v H3 => v = .non ∧ Q (.ref x) H3) E0 := by
    refine ⟨F0, m0, σe, st, S, rs, h.bnd.mono fun v st1 F1 m1 H1 S1 e1 h1 y ry => ?_⟩
    unfold clsV at h1
    split at h1
    · split at h1
      · rename_i hc
        subst hc
        unfold Rep at ry
        refine ⟨ry, F1, m1, σe, st1, S1, rs.up e1, h1.bnd.mono fun ws st2 F2 m2 H2 S2 e2 h2 zs rz => ?_⟩
        exact make_t S2 (rz.append (hrep F2 m2 _)) h2
      · exact h1.elim
    · exact h1.elim
  refine wpAny_Call_Name_kw (thn (hf.run pins s σ H _ I hh) fun u s1 ⟨c', H1, I1, rc, ec, q1⟩ => ?_)
  subst ec
  obtain rfl : u = Value.ref (G.cad c) := rc
  refine PySem.W.callWith_K (h₀ := X.base) I.ok.mod.kin M.kp (thn (ha.run pos pins s1 σ H1 _ I1 q1) fun us s2 ⟨vs, H2, I2, r, q⟩ => ⟨I2.kIn, ?_⟩) (starEach_plain h0) (noStars_any h1)
  exact run_make M F hr hb hd pass0 I2 r q
/-- C.m(e, ..), m a classmethod -/
theorem se_cmeth {c : Nat} {mc : Value} {pr g : Addr} (he : PE X o (tE G E0 fo)) (r : ClX.CRead X.K (G.cad c) mc) (cm : ClX.CMet X.K (G.cad c) mc mth pr g) (F : FnOk X.prog X.w X.K X.mg X.base CX0 k g fd ps (spF G run)) (hr : Room k X.A) (hb : Binds X.K fd ps ds) (hd : Vals dvs ds) (hrep : ∀ F m n, RepL G F m n dfl dvs)
    (ha : PA X (e :: es) (tA G E0 fs)) (h0 : notStar e = true) (h1 : noStars es = true) (hn : es.length < 28) (hp : plainBase o = true) (hl : (apos.endLine == pos.line) = true) :
    PE X (.Call (.Attribute o mth apos) (e :: es) [] pos) (tE G E0 fun σ st => (fo σ st).bnd (clsV c fun st => (fs σ st).bnd fun ws st => run (.cl c :: (ws ++ dfl)) st)) := by
  obtain ⟨pl, ht⟩ := methEval (env := X.env) (m := mth) (es := e :: es) hp (by unfold noStars; rw [List.all_cons, h0]; exact h1) (by rw [List.length_cons]; omega) hl
  refine PE.imp (ClX.pe_cmeth (pl := pl) (E := E0) he r cm (FnOk.raw F hb hd) hr pass0 ha (starEach_plain h0) (noStars_any h1) ht) fun σ H Q h => ?_
  obtain ⟨F0, m0, σe, st, S, rs, h⟩ := h
  refine ⟨F0, m0, σe, st, S, rs, h.bnd.mono fun v st1 F1 m1 H1 S1 e1 h1 y ry => ?_⟩
  unfold clsV at h1
  split at h1
  · split at h1
    · rename_i hc
      subst hc
      have ry' := ry
      unfold Rep at ry
      refine ⟨ry, F1, m1, σe, st1, S1, rs.up e1, h1.bnd.mono fun ws st2 F2 m2 H2 S2 e2 h2 zs rz => ?_⟩
      refine ⟨F2, m2, st2, _, S2, RepL.cons ?_ (rz.append (hrep F2 m2 _)), h2⟩
      unfold Rep; rfl
    · exact h1.elim
  · exact h1.elim
/-! ### sorted -/
def sortIV (mt : Bool) : List Val → Store → Res Val := onL asI fun xs st => newL mt ((isort (fun a b => decide (a < b)) xs).map .int) st
theorem sortI_ok (cx : CxR X G d) {mt : Bool} : CallR X (.builtin "sorted") (rVL G E (sortIV mt)) := by
  intro pins s σ H xs us Q I r h
  obtain ⟨F, m, st, vs, S, rv, h⟩ := h
  obtain ⟨a, as, _, rfl, sq, _, _, h⟩ := onL_ok (k := V.int) (fun n => asI_rep) S rv h
  rw [← cx.K] at sq
  refine cr_sortedI pins s σ H _ us Q I r ⟨a, as, rfl, sq, fun ys p hp hs hn => ?_⟩
  have : ys = isort (fun a b => decide (a < b)) as := by
    refine List.Perm.eq_of_pairwise (le := fun a b => decide (b < a) = false) (fun a b _ _ h g => ?_) (hs.imp fun {x y} h => decide_eq_false (by omega)) (isort_pw (fun a b h => ?_) (fun a b c h g => ?_) as) (hp.trans (isort_perm as).symm)
    · have h := of_decide_eq_false h
      have g := of_decide_eq_false g
      omega
    · have h := of_decide_eq_true h
      exact decide_eq_false (by omega)
    · have h := of_decide_eq_false h
      have g := of_decide_eq_false g
      exact decide_eq_false (by omega)
  rw [this]
  exact fin_newL S (repL_ints _) hn h
def sortAV (mt : Bool) : List Val → Store → Res Val := fun vs st => match vs with
  | [v] => match lstOf st v with
    | some (.str _ :: _) => sortSV mt vs st
    | some (.int _ :: _) => sortIV mt vs st
    | some (.tup _ :: _) => sortTV mt vs st
    | some [] => sortSV mt vs st
    | _ => .no
  | _ => .no
theorem sortA_ok (cx : CxR X G d) {mt : Bool} : CallR X (.builtin "sorted") (rVL G E (sortAV mt)) := by
  intro pins s σ H xs us Q I r h
  obtain ⟨F, m, st, vs, S, rv, h⟩ := h
  unfold sortAV at h
  split at h
  · split at h
    · exact sortS_ok cx pins s σ H xs us Q I r ⟨F, m, st, _, S, rv, h⟩
    · exact sortI_ok cx pins s σ H xs us Q I r ⟨F, m, st, _, S, rv, h⟩
    · exact sortT_ok cx pins s σ H xs us Q I r ⟨F, m, st, _, S, rv, h⟩
    · exact sortS_ok cx pins s σ H xs us Q I r ⟨F, m, st, _, S, rv, h⟩
    · exact h.elim
  · exact h.elim
end
end Mi

/-! Mi, part l7: short words for printed proofs. -/
namespace Mi
open PySem PySem.Spec PyProof.Rows L2
theorem CxR.blk {X : Cx} {G : Gm} {d : Nat} (cx : CxR X G d) {s : Shared} {H : Hp} {scope : Scope} {en : PySem.Env} {fp : List Addr} : CxR (X.blk s H scope en fp) G d := ⟨cx.K, cx.room, cx.calm⟩
section
variable {X : Cx} {G : Gm} {E : XK} {d k : Nat} {a b c o e : Expr} {es : List Expr} {pos p p2 apos cpos : Pos} {fa fb fc fo : Env → Store → Res Val} {fs : Env → Store → Res (List Val)} {ga : Env → Store → Res Bool}
theorem g_int {i j} : PE X (.Constant (.int i) j pos) (tE G E fun _ st => .ok (.int i) st) := se_cst pe_int fun _ _ _ => rep_int
theorem g_str {i j} : PE X (.Constant (.str i) j pos) (tE G E fun _ st => .ok (.str i) st) := se_cst pe_str fun _ _ _ => rep_str
theorem g_bl {i j} : PE X (.Constant (.bool i) j pos) (tE G E fun _ st => .ok (.bl i) st) := se_cst pe_bl fun _ _ _ => rep_bl
theorem g_non {j} : PE X (.Constant .none j pos) (tE G E fun _ st => .ok .non st) := se_cst pe_non fun _ _ _ => rep_non
theorem gv (i : Nat) {x : Str} (hN : X.N[i]? = some x := by rfl) (hv : Vis X.env.scope x := by first | exact Or.inl rfl | exact Or.inr (Or.inl rfl) | exact Or.inr (Or.inr rfl)) (hd : (x == ("__debug__" : Str)) = false := by decide)
    (hcd : (x == ("__classdict__" : Str)) = false := by decide) : PE X (.Name x pos) (tE G E fun σ st => match σ[i]? with | some (some v) => .ok v st | _ => .no) := se_var hN hv hd hcd
theorem sts_nil : PTs X [] (tT G E fun _ st => .ok true st) := by
  refine ⟨fun pins s σ H Q I h => ?_⟩
  obtain ⟨F, m, σe, st, S, rs, h⟩ := h
  exact pts_nil.run pins s σ H Q I (h.here S)
theorem sts_one (h : PT X c (tT G E ga)) : PTs X [c] (tT G E ga) := pts_one h
/-- a test by a comparison that may be an own one -/
theorem st_cmpR {op : CmpOp} {g : Val → Val → Store → Res Val} (ho : OpR X (compareOp op) (rV2 G E g)) (ha : PE X a (tE G E fa)) (hb : PE X b (tE G E fb)) (hm : behindInMarks op b = false) :
    PT X (.Compare a [op] [b] pos) (tT G E fun σ st => (fa σ st).bnd fun x st => (fb σ st).bnd fun y st => (g x y st).bnd fun v st => match v with | .bl k => .ok k st | _ => .no) := by
  refine PT.imp (pt_cmpR ho ha hb hm) fun σ H Q h => ?_
  obtain ⟨F, m, σe, st, S, rs, h⟩ := h
  refine ⟨F, m, σe, st, S, rs, h.bnd.mono fun v st1 F1 m1 H1 S1 e1 h1 x rx => ?_⟩
  refine ⟨F1, m1, σe, st1, S1, rs.up e1, h1.bnd.mono fun u st2 F2 m2 H2 S2 e2 h2 y ry => ?_⟩
  refine ⟨F2, m2, st2, v, u, S2, rx.up e2, ry, h2.bnd.mono fun w st3 F3 m3 H3 S3 e3 h3 z rz => ?_⟩
  split at h3
  · unfold Rep at rz
    subst rz
    exact ⟨_, rfl, h3.here S3⟩
  · exact h3.elim
end
end Mi

/-! Mi, part l8: more short words. -/
namespace Mi
open PySem PySem.Spec PyProof.Rows L2
section
variable {X : Cx} {G : Gm} {E : XK} {d k : Nat} {x : Str} {pos : Pos}
theorem se_gcS {y : Str} (hg : Gl X x) (h : ∃ u, X.mg x = some u ∧ L2.RelV (.str y) u) (hd : (x == ("__debug__" : Str)) = false) : PE X (.Name x pos) (tE G E fun _ st => .ok (.str y) st) := by
  obtain ⟨u, h1, h2⟩ := h
  exact se_glob hg h1 h2 hd fun _ _ _ => rep_str
theorem se_gcI {y : Int} (hg : Gl X x) (h : ∃ u, X.mg x = some u ∧ L2.RelV (.int y) u) (hd : (x == ("__debug__" : Str)) = false) : PE X (.Name x pos) (tE G E fun _ st => .ok (.int y) st) := by
  obtain ⟨u, h1, h2⟩ := h
  exact se_glob hg h1 h2 hd fun _ _ _ => rep_int
end
theorem rng_len1 {fa : Env → Store → Res Val} (σ : Env) (st : Store) (vs : List Val) (st1 : Store) (h : ((fa σ st).bnd fun v st => (Res.ok [] st : Res (List Val)).bnd fun vs st => .ok (v :: vs) st) = .ok vs st1) : vs.length = 1 := by
  cases q : fa σ st with
  | no => rw [q] at h; cases h
  | exc e s => rw [q] at h; cases h
  | ok v s => rw [q] at h; cases h; rfl
theorem rng_len2 {fa fb : Env → Store → Res Val} (σ : Env) (st : Store) (vs : List Val) (st1 : Store) (h : ((fa σ st).bnd fun v st => ((fb σ st).bnd fun v st => (Res.ok [] st : Res (List Val)).bnd fun vs st => .ok (v :: vs) st).bnd fun vs st => .ok (v :: vs) st) = .ok vs st1) : vs.length = 2 := by
  cases q : fa σ st with
  | no => rw [q] at h; cases h
  | exc e s => rw [q] at h; cases h
  | ok v s =>
    rw [q, Res.bnd_ok] at h
    cases q2 : fb σ s with
    | no => rw [q2] at h; cases h
    | exc e s => rw [q2] at h; cases h
    | ok v s => rw [q2] at h; cases h; rfl
theorem fnOk_mono {P : Program} {w : World} {K : PySem.W.Frag} {mg : Str → Option Value} {base : Heap} {CX : CXT} {j k : Nat} {f : Addr} {fd : FuncData} {ps : List Str} {sp : Sp} (F : FnOk P w K mg base CX j f fd ps sp) (h : j ≤ k) : FnOk P w K mg base CX k f fd ps sp :=
  ⟨F.len, fun A outer s H args us vs Q E hr => F.run A outer s H args us vs Q E (hr.mono h)⟩
end Mi

/-! Mi, part m1: pop at a place. -/
namespace Mi
open PySem PySem.Spec PyProof.Rows L2
section
variable {X : Cx} {G : Gm} {E : XK}
theorem RepL.eraseIdx {F : Hp} {m : Nat → Addr} {n : Nat} : ∀ {xs : List Val} {vs : List V} {k : Nat}, RepL G F m n xs vs → RepL G F m n (xs.eraseIdx k) (vs.eraseIdx k)
  | [], _, _, h => by unfold RepL at h; subst h; exact RepL.nil
  | x :: xs, _, 0, h => by
    unfold RepL at h
    obtain ⟨y, ys, rfl, h1, h2⟩ := h
    exact h2
  | x :: xs, _, k + 1, h => by
    unfold RepL at h
    obtain ⟨y, ys, rfl, h1, h2⟩ := h
    exact RepL.cons h1 h2.eraseIdx
def popAtV : Val → List Val → Store → Res Val := fun o ws st => match o, ws with
  | .ref i, [.int k] => match st[i]? with
    | some (.lst xs) => if 0 ≤ k ∧ k < (xs.length : Int) ∧ xs.length ≤ lim then (match xs[k.toNat]? with | some y => .ok y (st.set i (.lst (xs.eraseIdx k.toNat))) | none => .no) else .no
    | _ => .no
  | _, _ => .no
theorem popAt_ok : MtR X "list.pop" (rM G E popAtV) := by
  intro pins s σ H x xs v us Q I rx rv h
  obtain ⟨F, m, st, o, ws, S, ro, rw', h⟩ := h
  unfold popAtV at h
  split at h
  · rename_i i k
    split at h
    · rename_i ys hst
      split at h
      · rename_i hk
        split at h
        · rename_i y hy
          obtain ⟨vs, hi, rfl, hH, rl⟩ := S.mlist ro hst
          obtain ⟨z, hz, rz⟩ := rl.get hy
          obtain ⟨w, rfl, rk⟩ := repL1 rw'
          unfold Rep at rk
          subst rk
          have hlim : (ys.length : Int) ≤ 1000000 := by have h3 := hk.2.2; unfold lim at h3; omega
          refine mt_popAt pins s σ H _ _ v us Q I rx rv ⟨m i, vs, k, k.toNat, z, rfl, rfl, hH, by omega, by omega, ?_, hz, ?_⟩
          · rw [← rl.length]
            exact seqIndex_of hk.1 hk.2.1
          · obtain ⟨S3, e3⟩ := S.set (i := i) (o := .lst (ys.eraseIdx k.toNat)) (u := .lst (vs.eraseIdx k.toNat)) hi (fun kvs e => by rw [hst] at e; cases e) ⟨_, rfl, rl.eraseIdx⟩
            exact h F m _ S3 e3 _ (rz.up e3)
        · exact h.elim
      · exact h.elim
    · exact h.elim
  · exact h.elim
end
end Mi

namespace Mi
open PySem L2
def reprV : List Val → Store → Res Val := fun vs st => match vs with
  | [.bl b] => .ok (.str (if b then Str.ofString "True" else Str.ofString "False")) st
  | _ => .no
section
variable {X : Cx} {G : Gm} {E : XK}
theorem repr_ok : CallR X (.builtin "repr") (rVL G E reprV) := by
  intro pins s σ H xs us Q I r h
  obtain ⟨F, m, st, vs, S, rv, h⟩ := h
  unfold reprV at h
  split at h
  · rename_i b
    obtain ⟨z, rfl, rz⟩ := repL1 rv
    unfold Rep at rz; subst rz
    obtain ⟨u, rfl, e⟩ := vals1 r
    cases e
    exact PySem.P.repr_of_bool ⟨.str _, H, I.tok _, ⟨_, by cases b <;> rfl⟩, h.here S _ rep_str⟩
  · exact h.elim
end
end Mi

/-! Mi, part m3: tuples of texts compared, lists times a number. -/
namespace Mi
open PySem PySem.Spec PyProof.Rows L2
def ltTV : Val → Val → Store → Res Val := fun x y st => match asSS x, asSS y with
  | some a, some b => .ok (.bl (ltSS a b)) st
  | _, _ => .no
def mulLV (mt : Bool) : Val → Val → Store → Res Val := fun x y st => match y with
  | .int k => match lstJ st x with
    | some xs => if 0 ≤ k ∧ k ≤ 1000 ∧ xs.length * k.toNat ≤ lim then newL mt (List.replicate k.toNat xs).flatten st else .no
    | none => .no
  | _ => .no
section
variable {X : Cx} {G : Gm} {E : XK} {d : Nat}
theorem asSS_is {F : Hp} {m : Nat → Addr} {st : Store} {H : Hp} {pins : List (Addr × Obj)} {s : Shared} {σ : L2.St} (S : Sim G F m st H) (I : Inv X pins σ H s) {a : Val} {x : V} {v : Value} {ss : List Str} (ra : Rep G F m st.length a x) (rx : L2.RelV x v) (h : asSS a = some ss) : IsTS s.heap v ss := by
  cases a with
  | tup xs =>
    have e := asS_map h
    subst e
    unfold Rep at ra
    obtain ⟨p, ws, rfl, ha, rw'⟩ := ra
    have e1 := repL_strs_eq rw'
    subst e1
    cases rx
    obtain ⟨ts, rt, ht, _⟩ := I.tuple (show SqT X.K H p (ss.map V.str) from .inl (.inl (S.same _ _ ha)))
    obtain ⟨o, g1, c1, n1, d1⟩ := ht
    exact ⟨p, o, ts.toArray, n1, rfl, g1, c1, d1, strsAre_vals rt⟩
  | _ => simp [asSS] at h
theorem op_ltSS (cx : CxR X G d) : OpR X (compareOp .Lt) (rV2 G E ltTV) := by
  intro pins s σ H x y v u Q I rx ry h
  obtain ⟨F, m, st, a, b, S, ra, rb, h⟩ := h
  have hu : X.A.units < cLine := by have := cx.u65; omega
  unfold ltTV at h
  split at h
  · rename_i xs ys hx hy
    obtain ⟨a, o, items, n, rfl, g1, c1, d1, i1⟩ := asSS_is S I ra rx hx
    obtain ⟨b, o', items2, n', rfl, g2, c2, d2, i2⟩ := asSS_is S I rb ry hy
    have l1 := strsAre_len i1
    have l2 := strsAre_len i2
    rw [Array.length_toList] at l1 l2
    have := Ob.RcOp.tuples_lt (A := X.A) (s := s) (l := a) (b := b) (items := items) (items2 := items2) ⟨o, g1, c1, n, d1⟩ ⟨o', g2, c2, n', d2⟩ hu (fun j h1 h2 => ss_eqAt i1 i2 _ _ j h1 h2) (fun j h1 h2 _ => ss_lt i1 i2 _ _ j h1 h2)
    rw [l1, l2, lexAt_ss xs ys _ 0 (by omega)] at this
    exact this X.prog X.w X.xe (EP X pins σ Q) ⟨.bl _, H, I, rfl, h.here S _ rep_bl⟩
  · exact h.elim
theorem RepL.rep {F : Hp} {m : Nat → Addr} {n : Nat} {xs : List Val} {vs : List V} (r : RepL G F m n xs vs) : ∀ k : Nat, RepL G F m n (List.replicate k xs).flatten (List.replicate k vs).flatten
  | 0 => RepL.nil
  | k + 1 => by rw [List.replicate_succ, List.replicate_succ, List.flatten_cons, List.flatten_cons]; exact r.append (RepL.rep r k)
theorem op_mulL {mt : Bool} : OpR X (binaryOp .Mult) (rV2 G E (mulLV mt)) := by
  intro pins s σ H x y v u Q I rx ry h
  obtain ⟨F, m, st, a, b, S, ra, rb, h⟩ := h
  unfold mulLV at h
  split at h
  · rename_i k
    split at h
    · rename_i xs hx
      split at h
      · rename_i hk
        unfold Rep at rb; subst rb
        obtain ⟨p, vs, rfl, h1, h2⟩ := S.listJ ra hx
        have hl' : vs.length * k.toNat ≤ sizeLine := by rw [← h2.length]; exact lim_le hk.2.2
        exact op_rep pins s σ H _ _ v u Q I rx ry ⟨p, k, vs, rfl, rfl, h1, by omega, by omega, hl', fun p hp => fin_newL S (h2.rep _) hp h⟩
      · exact h.elim
    · exact h.elim
  · exact h.elim
end
end Mi

/-! Mi, part m4: t[::-1] of a tuple. -/
namespace Mi
section
open PySem PyProof.Rows HT
variable {prog : Program} {w : World} {A : Around} {E : Value → Shared → Prop} {s : Shared}
theorem places_rev (n : Nat) : Builtin.Slice.slicePlaces ((n:Int) - 1) (-1) (-1) = n := by
  unfold Builtin.Slice.slicePlaces
  have h1 : ¬ ((-1 : Int) > 0) := by decide
  rw [if_neg h1]
  split
  · rw [show (-(-1) : Int) = 1 from rfl, Int.ediv_one]; omega
  · omega
theorem sliceApplied_rev {sl : Addr} {vl vu vs : Value} {n : Nat} {Q : Int × Int × Nat → Shared → Prop} (hs : s.heap.IsSliceOf sl vl vu vs) (pl : IsPart vl none) (pu : IsPart vu none) (ps : IsPart vs (some (-1)))
    (h : Q ((n : Int) - 1, -1, n) s) : wpAny (model prog w) A (Builtin.Slice.sliceApplied (.ref sl) (pure (n : Int))) Q E s := by
  obtain ⟨os, hos, hcs, hds⟩ := id hs
  unfold Builtin.Slice.sliceApplied Builtin.Slice.sliceFields
  refine wpAny_bind (wpAny_bind (wpAny_field hos hds (x := vl) rfl (wpAny_bind (wpAny_field hos hds (x := vu) rfl (wpAny_bind (wpAny_field hos hds (x := vs) rfl (wpAny_pure ?_)))))))
  refine wpAny_bind (slicePart_ ps ?_)
  show wpAny _ _ (if ((-1 : Int) == 0) = true then _ else _) _ _ s
  rw [if_neg (by decide)]
  refine wpAny_bind (slicePart_ pl (wpAny_bind (slicePart_ pu (wpAny_bind (wpAny_pure ?_)))))
  show wpAny _ _ (pure (((n:Int) - 1), (-1 : Int), Builtin.Slice.slicePlaces ((n : Int) - 1) (-1) (-1))) _ _ s
  rw [places_rev]
  exact wpAny_pure h
theorem pick_rev (xs : Array Value) : ((List.range xs.size).filterMap fun (m : Nat) => xs[((xs.size : Int) - 1 + (m : Int) * (-1)).toNat]?).toArray = xs.toList.reverse.toArray := by
  have e : (fun (m : Nat) => xs[((xs.size : Int) - 1 + (m : Int) * (-1)).toNat]?) = (fun m => xs[m]?) ∘ (fun m => xs.size - 1 - m) := by
    funext m
    have : ((xs.size : Int) - 1 + (m : Int) * (-1)).toNat = xs.size - 1 - m := by omega
    rw [this]; rfl
  rw [e, ← List.filterMap_map, PySem.W.krv_range, List.filterMap_reverse, PySem.W.krv_all]
theorem getItem_tuple_rev {t sl : Addr} {items : Array Value} {vl vu vs : Value} {Q : Value → Shared → Prop} (ht : IsTup s.heap t items) (hs : s.heap.IsSliceOf sl vl vu vs) (pl : IsPart vl none) (pu : IsPart vu none) (ps : IsPart vs (some (-1)))
    (h : Q (.ref s.heap.objs.size) { s with heap := s.heap.push { cls := .type "tuple", data := .seq items.toList.reverse.toArray } })
    (hsz : items.size ≤ sizeLine) : wpAny (model prog w) A (getItem (.ref t) (.ref sl)) Q E s := by
  have htake : sizeOk (.seq items.toList.reverse.toArray) := by
    show items.toList.reverse.toArray.size ≤ sizeLine
    rw [List.size_toArray, List.length_reverse, Array.length_toList]
    omega
  obtain ⟨os, hos, hcs, hds⟩ := id hs
  have hTs : s.TypeIs (.ref sl) "slice" := ⟨os, hos, hcs⟩
  unfold getItem
  try with_reducible refine wpAny_holding ?_
  first | refine wpAny_bind (wpAny_pure ?_) | skip
  refine wpAny_bind (wpAny_sequenceKey ht.typeIs (by decide) ?_)
  refine wpAny_bind (wpAny_callSpecial?_slot (name := Str.ofString "__getitem__") ht.typeIs PyProof.Rows.slot_tuple_getitem
    (wpAny_call_entry PyProof.Rows.slot_tuple_getitem ht.typeIs entry_tuple_getitem ?_ (args_tuple_getitem _ _)))
  show wpAny _ _ (Builtin.Tuple.tupleItemsOf (.ref t) >>= _) _ _ s
  refine wpAny_bind (tupleItemsOf_ ht ?_)
  refine wpAny_bind (wpAny_typeOf hTs ?_)
  rw [if_pos (by decide)]
  refine wpAny_bind (sliceApplied_rev hs pl pu ps ?_)
  have hno : ¬ ((((items.size : Int) - 1) == 0 && (-1 : Int) == 1 && items.size == items.size) = true) := by
    intro q
    rw [Bool.and_eq_true, Bool.and_eq_true] at q
    exact absurd q.1.2 (by decide)
  show wpAny _ _ (if (((items.size : Int) - 1) == 0 && (-1 : Int) == 1 && items.size == items.size) = true then _ else _) _ _ s
  rw [if_neg hno, pick_rev]
  first
    | exact wpAny_bind (m := Builtin.Tuple.tupleExact _) (wpAny_newObj_type (wpAny_pure ⟨_, rfl, wpAny_pure h⟩) htake)
    | exact wpAny_bind (m := Builtin.Tuple.tupleExact _) (wpAny_newObj_type (wpAny_bind (wpAny_pure (wpAny_pure ⟨_, rfl, wpAny_pure h⟩))) htake)
    | exact wpAny_bind (wpAny_bind (m := Builtin.Tuple.tupleExact _) (wpAny_newObj_type (wpAny_pure (wpAny_pure ⟨_, rfl, wpAny_pure h⟩)) htake))
    | exact wpAny_bind (wpAny_bind (m := Builtin.Tuple.tupleExact _) (wpAny_newObj_type (wpAny_pure ⟨_, rfl, wpAny_pure h⟩) htake))
end
open PySem PySem.Spec PyProof.Rows L2
def tRevT (K : PySem.W.Frag) (te : TE) : TE := fun σ H Q => te σ H fun x H1 => ∃ a xs, x = .ref a ∧ SqT K H1 a xs ∧ ∀ p, H1 p = none → Q (.ref p) (upd H1 p (.tup xs.reverse))
theorem pe_revT {X : Cx} {e : Expr} {te : TE} {k : Nat} {p1 p2 p3 pos : Pos} (he : PE X e te) : PE X (.Subscript e (.Slice none none (some (.UnaryOp .USub (.Constant (.int 1) k p1) p2)) p3) pos) (tRevT X.K te) := by
  refine ⟨fun pins s σ H Q I h => ?_⟩
  refine Subscript_ (thn (he.run pins s σ H _ I h) fun v s1 ⟨x, H1, I1, r1, q1⟩ => ?_)
  obtain ⟨a, xs, ex, hx, q⟩ := q1
  subst ex
  cases r1
  have hst : PO X (some (.UnaryOp .USub (.Constant (.int 1) k p1) p2)) (tPart (tUn (rU fun i => .int (-i)) (tC (.int 1)))) := po_some (pe_un un_neg pe_int)
  refine wpAny_Slice (thn (po_none.run pins s1 σ H1 (fun o H2 => o = none ∧ H2 = H1) I1 ⟨rfl, rfl⟩) fun vl s2 ⟨l, H2, I2, pl, el, e2⟩ => ?_)
  subst el e2
  refine thn (po_none.run pins s2 σ H2 (fun o H3 => o = none ∧ H3 = H2) I2 ⟨rfl, rfl⟩) fun vu s3 ⟨u, H3, I3, pu, eu, e3⟩ => ?_
  subst eu e3
  refine thn (hst.run pins s3 σ H3 (fun o H4 => o = some (-1) ∧ H4 = H3) I3 ⟨1, rfl, -1, rfl, rfl, rfl⟩) fun vs s4 ⟨o, H4, I4, ps, eo, e4⟩ => ?_
  subst eo e4
  have I5 : Inv X pins σ H4 { s4 with heap := s4.heap.push { cls := .type "slice", data := .fields #[vl, vu, vs] } } := I4.kept (t' := s4.toks) fun b ob q => Heap.get?_push_of_some _ q
  obtain ⟨its, r, ht, hz⟩ := I5.tuple hx
  have hlen := r.length
  show wpAny (model X.prog X.w) X.A (subscriptTail e (.Slice none none (some (.UnaryOp .USub (.Constant (.int 1) k p1) p2)) p3) (.ref a) (.ref s4.heap.objs.size)) (EP X pins σ Q) X.xe { s4 with heap := s4.heap.push { cls := .type "slice", data := .fields #[vl, vu, vs] } }
  refine tail_any (ops := [.ref a, .ref s4.heap.objs.size]) ht.typeIs (PyProof.Rows.slot_tuple_getitem.lookup) ?_ (by with_unfolding_all rfl)
  refine getItem_tuple_rev ht (Heap.IsSliceOf.new _ vl vu vs) pl pu ps ?_ (by rw [List.size_toArray]; omega)
  refine ⟨.ref _, _, I5.laid (t' := s4.toks) (o := .tup xs.reverse) (fun b ob q => Heap.get?_push_of_some _ q) (Nat.le_refl _) ?_, rfl, q _ (I5.hok.fresh (Nat.le_refl _))⟩
  exact ⟨by rw [List.length_reverse]; exact hz, _, r.reverse, IsTup.new _ _⟩
def revTV : Val → Store → Res Val := fun o st => match o with | .tup xs => .ok (.tup xs.reverse) st | _ => .no
theorem RepL.snoc {G : Gm} {F : Hp} {m : Nat → Addr} {n : Nat} {x : Val} {y : V} (h1 : Rep G F m n x y) : ∀ {xs : List Val} {vs : List V}, RepL G F m n xs vs → RepL G F m n (xs ++ [x]) (vs ++ [y])
  | [], _, h => by unfold RepL at h; subst h; exact RepL.cons h1 RepL.nil
  | z :: xs, _, h => by
    unfold RepL at h
    obtain ⟨y', ys, rfl, h2, h3⟩ := h
    exact RepL.cons h2 (RepL.snoc h1 h3)
theorem RepL.rev {G : Gm} {F : Hp} {m : Nat → Addr} {n : Nat} : ∀ {xs : List Val} {vs : List V}, RepL G F m n xs vs → RepL G F m n xs.reverse vs.reverse
  | [], _, h => by unfold RepL at h; subst h; exact RepL.nil
  | z :: xs, _, h => by
    unfold RepL at h
    obtain ⟨y', ys, rfl, h2, h3⟩ := h
    rw [List.reverse_cons, List.reverse_cons]
    exact RepL.snoc h2 (RepL.rev h3)
theorem se_revT {X : Cx} {G : Gm} {E : XK} {d : Nat} {a : Expr} {fa : Env → Store → Res Val} {k : Nat} {p1 p2 p3 pos : Pos} (cx : CxR X G d) (ha : PE X a (tE G E fa)) :
    PE X (.Subscript a (.Slice none none (some (.UnaryOp .USub (.Constant (.int 1) k p1) p2)) p3) pos) (tE G E fun σ st => (fa σ st).bnd revTV) := by
  refine PE.imp (pe_revT ha) fun σ H Q q => ?_
  obtain ⟨F, m, σe, st, S, rs, q⟩ := q
  refine ⟨F, m, σe, st, S, rs, q.bnd.mono fun v st1 F1 m1 H1 S1 e1 h1 x rx => ?_⟩
  unfold revTV at h1
  split at h1
  · unfold Rep at rx
    obtain ⟨a, vs, rfl, h2, h3⟩ := rx
    exact ⟨a, vs, rfl, .inl (.inl (S1.same _ _ h2)), fun p hp => fin_tup S1 h3.rev hp h1⟩
  · exact h1.elim
end Mi

/-! Mi, part m5: calls on the caller's store that keep all they made; xs[::-1] of a list; a text times a number. -/
namespace Mi
open PySem PySem.Spec PyProof.Rows L2
def callU (np : Nat) (N : Nat) (body : Env → Store → Res (Fw × Env)) (ws : List Val) (st : Store) : Res Val :=
  if ws.length = np then match body (startE N ws) st with
    | .ok r st1 => (match retOf r.1 with | some v => .ok v st1 | none => .no)
    | _ => .no
  else .no
theorem fn_okU {P : Program} {w : World} {base : Heap} {G : Gm} {mg : Str → Option Value} {x qual : Str} {dV : Value} {st : Stmt} {f : Addr} {fd : FuncData} {N ps : List Str} {k : Nat} {body : Env → Store → Res (Fw × Env)} (Fn : MFun G.K x qual st dV f fd) (S : FnScope N ps (defScope st))
    (hb : ∀ (cdv : Value) (A : Around) (outer : List PySem.Env) (s : Shared) (H : Hp) (E : XK), Room k (A.deeper (envOfC qual (defScope st) s.heap.objs.size f cdv)) → PSs (cxOf CX0 P w G.K mg base N qual (defScope st) f cdv A outer s H E).nox (defBody st) (tS G E0 body)) :
    FnOk P w G.K mg base CX0 (k + 1) f fd ps (spF G (callU ps.length N.length body)) := by
  refine Fn.ok S (fun vs H Q E h => ?_) (fun cdv A outer s H vs Q E hr h => ⟨_, hb cdv A outer s H E hr, ?_⟩)
  · obtain ⟨F, m, st, ws, _, r, h⟩ := h
    rw [← r.length]
    unfold callU at h
    split at h
    · assumption
    · exact h.elim
  · obtain ⟨F, m, st, ws, Si, r, h⟩ := h
    unfold callU at h
    split at h
    case isFalse => exact h.elim
    refine ⟨F, m, startE N.length ws, st, Si, repS_start r, ?_⟩
    cases q : body (startE N.length ws) st with
    | no => rw [q] at h; exact h.elim
    | exc e st1 => rw [q] at h; exact h.elim
    | ok rr st1 =>
      rw [q] at h
      dsimp only at h
      obtain ⟨fw, σ1⟩ := rr
      intro F1 m1 H1 S1 e1
      have fin : ∀ v x, retOf fw = some v → Rep G F1 m1 st1.length v x → Q x H1 := by
        intro v x hv rx
        rw [hv] at h
        exact h F1 m1 H1 S1 e1 x rx
      cases fw with
      | nx => exact fun σ' _ => fin .non .non rfl rep_non
      | ret v => exact fun x rx => fin v x rfl rx
      | brk => exact h.elim
      | ct => exact h.elim
def revLV (mt : Bool) : Val → Store → Res Val := fun o st => match lstOf st o with | some xs => newL mt xs.reverse st | none => .no
theorem se_revL {X : Cx} {G : Gm} {E : XK} {d : Nat} {mt : Bool} {a : Expr} {fa : Env → Store → Res Val} {k : Nat} {p1 p2 p3 pos : Pos} (cx : CxR X G d) (ha : PE X a (tE G E fa)) :
    PE X (.Subscript a (.Slice none none (some (.UnaryOp .USub (.Constant (.int 1) k p1) p2)) p3) pos) (tE G E fun σ st => (fa σ st).bnd (revLV mt)) := by
  refine PE.imp (pe_revL ha) fun σ H Q q => ?_
  obtain ⟨F, m, σe, st, S, rs, q⟩ := q
  refine ⟨F, m, σe, st, S, rs, q.bnd.mono fun v st1 F1 m1 H1 S1 e1 h1 x rx => ?_⟩
  unfold revLV at h1
  split at h1
  · rename_i xs hx
    obtain ⟨a, vs, rfl, h2, h3⟩ := S1.list rx hx
    rw [← cx.K] at h2
    exact ⟨a, vs, rfl, h2, fun p hp => fin_newL S1 h3.rev hp h1⟩
  · exact h1.elim
def mulSV : Val → Val → Store → Res Val := fun x y st => match x, y with
  | .str a, .int n => if a.length ≤ 10 ∧ 0 ≤ n ∧ n ≤ 10 then .ok (.str (Txt.mul a n)) st else .no
  | _, _ => .no
theorem mulOk_small {a : Str} {n : Int} (h : a.length ≤ 10 ∧ 0 ≤ n ∧ n ≤ 10) : MulOk a n := by
  obtain ⟨h1, h2, h3⟩ := h
  refine ⟨?_, fun h4 _ => ?_, fun h4 _ => ?_⟩
  · rw [decide_eq_false (by omega), decide_eq_false (by omega)]; rfl
  · obtain ⟨k, rfl⟩ : ∃ k : Nat, n = (k : Int) := ⟨n.toNat, by omega⟩
    have h5 : (10 : Int) ≤ (2 ^ 63 - 1) / (k : Int) := by
      rw [Int.le_ediv_iff_mul_le (by omega)]
      omega
    omega
  · have h5 : a.length * n.toNat ≤ 10 * 10 := Nat.mul_le_mul h1 (by omega)
    unfold Builtin.Str.tooLong
    have : ¬ (a.length * n.toNat > sizeLine) := by
      have : (100 : Nat) ≤ sizeLine := by decide
      omega
    simpa using this
theorem op_mulS {X : Cx} {G : Gm} {E : XK} : OpR X (binaryOp .Mult) (rV2 G E mulSV) := by
  intro pins s σ H x y v u Q I rx ry h
  obtain ⟨F, m, st, a, b, S, ra, rb, h⟩ := h
  unfold mulSV at h
  split at h
  · rename_i a n
    split at h
    · rename_i hk
      unfold Rep at ra rb; subst ra rb
      obtain ⟨t1, rfl⟩ := rx
      obtain ⟨t2, rfl⟩ := ry
      exact SB.mul (mulOk_small hk) fun t' k => ⟨.str _, H, I.tok _, ⟨_, rfl⟩, h.here S _ rep_str⟩
    · exact h.elim
  · exact h.elim
end Mi

/-! Mi, part m6: o[i] by an own __getitem__. -/
namespace Mi
open PySem PySem.Spec PyProof.Rows L2
def idxO (ir : OT) : Val → Val → Store → Res Val := fun o i st => match fldsOf st o with
  | none => .no
  | some (c, _) => match ir c with
    | some run => run [o, i] st
    | none => .no
theorem MFun.fnIn {K : PySem.W.Frag} {x qual : Str} {st : Stmt} {dV : Value} {f : Addr} {fd : FuncData} (F : MFun K x qual st dV f fd) : PySem.W.fnIn K f = true := by
  obtain ⟨oc, od, kV, doc, pm, an, cdv, ct, osl, rfl, lk, _⟩ := F.ex
  unfold PySem.W.fnIn
  rw [lk]
theorem CxR.sub1 {X : Cx} {G : Gm} {d n : Nat} (cx : CxR X G d) (h : n + 1 ≤ d) : Sub X n X.A.in1 := ⟨(cx.room.mono h).in1, rfl⟩
theorem se_idxO {X : Cx} {G : Gm} {d k : Nat} {a b : Expr} {fa fb : Env → Store → Res Val} {pos : Pos} {ir : OT} (cx : CxR X G d) (hk : k + 1 ≤ d) (he : ∀ c run, ir c = some run → OwnOk X G k c "__getitem__" run)
    (hfn : ∀ c run f, ir c = some run → PySem.W.findIn X.K (.ref (G.cad c)) "__getitem__" = some (some (.ref f)) → PySem.W.fnIn X.K f = true) (ha : PE X a (tE G E0 fa)) (hb : PE X b (tE G E0 fb))
    (hsl : ∀ o i, subscripted b true (.ref o) i = runValue (.builtin "lifetime.subscript" ⟨[.ref o, i], []⟩)) :
    PE X (.Subscript a b pos) (tE G E0 fun σ st => (fa σ st).bnd fun o st => (fb σ st).bnd fun i st => idxO ir o i st) := by
  have key : PE X (.Subscript a b pos) (tOp (rV2 G E0 (idxO ir)) (tE G E0 fa) (tE G E0 fb)) := by
    refine ⟨fun pins s σ H Q I h => ?_⟩
    refine Subscript_ (binT ha hb I h fun v u s2 x y H2 I2 rx ry q => ?_)
    obtain ⟨F, m, st, w1, w2, S, r1, r2, h⟩ := q
    unfold idxO at h
    split at h
    · exact h.elim
    · rename_i c fl hf1
      split at h
      · rename_i run hr
        obtain ⟨p, dx, vs, rfl, g1, g2⟩ := S.flds r1 hf1
        obtain ⟨f, fd, ps, q1, q2, q3, q4⟩ := he c run hr
        cases (show v = Value.ref p from rx)
        obtain ⟨mA, J, _⟩ := ins_get I2.hok g1
        obtain ⟨od, J, _⟩ := J.look
        obtain ⟨mm, hF⟩ := I2.fr
        refine PySem.W.sub_K hF I2.ok.mod.kin J q1 (hfn c run f hr q1) q2 ?_ (hsl _ _)
        exact run_own (cx.sub1 hk) q4 q3 I2 (.cons rx (.cons ry .nil)) ⟨F, m, st, [w1, w2], S, RepL.cons r1 (RepL.cons r2 RepL.nil), h⟩
      · exact h.elim
  refine PE.imp key fun σ H Q h => ?_
  obtain ⟨F, m, σe, st, S, rs, h⟩ := h
  refine ⟨F, m, σe, st, S, rs, h.bnd.mono fun v st1 F1 m1 H1 S1 e1 h1 x rx => ?_⟩
  refine ⟨F1, m1, σe, st1, S1, rs.up e1, h1.bnd.mono fun u st2 F2 m2 H2 S2 e2 h2 y ry => ?_⟩
  exact ⟨F2, m2, st2, v, u, S2, rx.up e2, ry, h2⟩
end Mi

/-! Mi, part m7: errors of the program's own classes: made, raised, let out of a def. -/
namespace Mi
open PySem PySem.Spec PyProof.Rows L2
section
variable {X : Cx} {e : Expr} {es : List Expr} {ta : TA} {p1 p2 pos : Pos}
/-- B.__init__(self, ..), B a class of the program over ValueError without an __init__ of its own -/
theorem pe_baseinit {pl : Sem Bool} {x : Str} {B : Addr} (hg : Gl X x) (hm : X.mg x = some (.ref B)) (r : ClX.CRead X.K B (.type "type")) (vV : PySem.W.findCls X.K (.ref B) (.type "type") "__init__" = some (.val (.builtin "ValueError.__init__")))
    (ha : PA X (e :: es) ta)
    (hc : eval (.Call (.Attribute (.Name x p1) "__init__" p2) (e :: es) [] pos) X.env = (do
      let ov ← eval (.Name x p1) X.env
      standAt p2.atName
      let (f, first) ← holding [ov] (getMethod ov "__init__" pl)
      callWith pos f first (backTo pos (starEach (e :: es) X.env)) (backToKw pos (keywordEach [] X.env))) := by rfl)
    (hdb : (x == ("__debug__" : Str)) = false := by decide) (he : starEach (e :: es) X.env = (false, eval e X.env) :: starEach es X.env := by rfl) (hpl : (backTo pos (starEach es X.env)).any (·.1) = false := by rfl) :
    PE X (.Call (.Attribute (.Name x p1) "__init__" p2) (e :: es) [] pos) (tVeI X.K ta) := by
  refine ⟨fun pins s σ H Q I h => ?_⟩
  refine PySem.W.methodCall_KW (ld_glob I hg hm ?_ hdb) hc
  refine PySem.W.method_cls I.kIn r.ga (PySem.W.cls_value I.kIn r.rd vV (by decide +kernel) ?_)
  refine PyProof.Rows.callWith_method1 (thn (ha.run pos pins _ σ H _ (I.tok _) h) fun us s1 hs => ?_) he hpl
  obtain ⟨vs, H1, I1, r1, a, C, ws, rfl, hl, T, ea, q⟩ := hs
  cases r1 with
  | cons ra rw' =>
    cases ra
    refine oinit_ok T I1 ea ?_ fun s' J => ⟨.non, H1, J, rfl, q⟩
    have := Paired.length rw'
    rw [← this, sizeLine_eq]
    omega
end
/-- what the __init__ of such an error does: its argument stands under a name -/
def spIni (C : Addr) (fld : Str) : Sp := fun vs H Q _ => ∃ (a : Addr) (v : V), vs = [.ref a, v] ∧ H a = some (exo a C none) ∧ ∀ dx, H dx = none → dx ≠ a → Q .non (upd (upd H dx (exd dx [(fld, v)])) a (exo a C (some dx)))
end Mi

/-! Mi, part m8: raise, defs that let an error of the program out. -/
namespace Mi
open PySem PySem.Spec PyProof.Rows L2
/-- errors are not looked for -/
def qX {α : Type} : Res α → Res α
  | .ok a st => .ok a st
  | _ => .no
@[simp] theorem qX_ok {α : Type} (a : α) (st : Store) : qX (.ok a st) = .ok a st := rfl
theorem After.qX {α : Type} {G : Gm} {E E' : XK} {F : Hp} {m : Nat → Addr} {n : Nat} {H : Hp} {r : Res α} {K : α → Store → Hp → (Nat → Addr) → Hp → Prop} (h : After G E F m n H (qX r) K) : After G E' F m n H r K := by
  cases r with
  | ok a st => exact h
  | exc e st => exact h.elim
  | no => exact h.elim
section
variable {X : Cx} {G : Gm} {E : XK} {e : Expr} {es : List Expr}
theorem PE.lift {f : Env → Store → Res Val} (h : PE X.nox e (tE G E0 f)) : PE X e (tE G E fun σ st => qX (f σ st)) :=
  PE.imp h.nox fun σ H Q ⟨F, m, σe, st, S, rs, q⟩ => ⟨F, m, σe, st, S, rs, q.qX⟩
theorem PT.lift {f : Env → Store → Res Bool} (h : PT X.nox e (tT G E0 f)) : PT X e (tT G E fun σ st => qX (f σ st)) :=
  PT.imp h.nox fun σ H Q ⟨F, m, σe, st, S, rs, q⟩ => ⟨F, m, σe, st, S, rs, q.qX⟩
theorem PSs.lift {ss : List Stmt} {f : Env → Store → Res (Fw × Env)} (h : PSs X.nox ss (tS G E0 f)) : PSs X ss (tS G E fun σ st => qX (f σ st)) :=
  PSs.imp h.nox fun D σ H ⟨F, m, σe, st, S, rs, q⟩ => ⟨F, m, σe, st, S, rs, q.qX⟩
/-- what stands about an error class of the program -/
structure Err (K : PySem.W.Frag) (mg : Str → Option Value) (P : Program) (w : World) (base : Heap) (C : Addr) (x fld : Str) (k : Nat) : Prop where
  T : OexC K C
  m : mg x = some (.ref C)
  ini : ∃ fI fd ps, PySem.W.findIn K (.ref C) "__init__" = some (some (.ref fI)) ∧ PySem.W.typeIn K (.ref fI) = some (.type "function") ∧ FnOk P w K mg base CX0 k fI fd ps (spIni C fld) ∧ Binds K fd ps []
theorem s_raise {c k : Nat} {x fld : Str} {f : Env → Store → Res Val} {p pos pos' : Pos} (hc : X.calm = true) (tk : Takes X (fun cls d _ H => E cls d H)) (R : Err X.K X.mg X.prog X.w X.base (G.cad c) x fld k) (hr : Room (k + 1) X.A) (hg : Gl X x)
    (ha : PE X e (tE G E f)) (h0 : notStar e = true) (hdb : (x == ("__debug__" : Str)) = false := by decide) :
    PS X (.Raise (some (.Call (.Name x p) [e] [] pos)) none pos') (tS G E fun σ st => (f σ st).bnd fun v st => .exc ⟨c, [(fld, v)]⟩ st) := by
  obtain ⟨fI, fd, ps, i1, i2, i3, i4⟩ := R.ini
  refine PS.imp (ps_raise hc tk (pmk_oex (es := []) R.T i1 i2 i3 hr i4 .nil pass0 hg R.m (pa_cons ha pa_nil (starEach_plain h0)) hdb (starEach_plain h0) rfl)) fun D σ H h => ?_
  obtain ⟨F, m, σe, st, S, rs, h⟩ := h
  refine ⟨F, m, σe, st, S, rs, h.bnd.mono fun v st1 F1 m1 H1 S1 e1 h1 y ry => ?_⟩
  refine ⟨by simp, fun a ha => ⟨a, y, rfl, upd_same, fun dx hd hne => ⟨rfl, dx, [(fld, y)], upd_same, ?_, ?_, ?_⟩⟩⟩
  · rw [upd_ne hne, upd_same]
  · rw [upd_ne hne] at hd; exact hd
  · rw [upd_ne hne] at hd
    have eH : upd (del (upd (upd (upd H1 a (exo a (G.cad c) none)) dx (exd dx [(fld, y)])) a (exo a (G.cad c) (some dx))) a) dx (.xd [(fld, y)]) = upd H1 dx (.xd [(fld, y)]) := by
      funext b
      by_cases hb : b = dx
      · subst hb; rw [upd_same, upd_same]
      · rw [upd_ne hb, upd_ne hb]
        by_cases hba : b = a
        · subst hba; rw [del_same, ha]
        · rw [del_ne hba, upd_ne hba, upd_ne hb, upd_ne hba]
    rw [eH]
    obtain ⟨S', e'⟩ := S1.frz hd (.xd [(fld, y)])
    refine h1 _ _ _ dx [(fld, y)] S' e' upd_same ?_
    unfold RepF
    exact ⟨y, [], rfl, ry.up e', by unfold RepF; rfl⟩
end
/-- a call on the caller's store that may let an error out -/
def callX (np : Nat) (N : Nat) (body : Env → Store → Res (Fw × Env)) (ws : List Val) (st : Store) : Res Val :=
  if ws.length = np then match body (startE N ws) st with
    | .ok r st1 => (match retOf r.1 with | some v => .ok v st1 | none => .no)
    | .exc e st1 => .exc e st1
    | .no => .no
  else .no
theorem MFun.okX {P : Program} {w : World} {mg : Str → Option Value} {base : Heap} {K : PySem.W.Frag} {x qual : Str} {st : Stmt} {dV : Value} {f : Addr} {fd : FuncData} {N ps : List Str} {k : Nat} {sp : Sp} (F : MFun K x qual st dV f fd) (S : FnScope N ps (defScope st)) (len : ∀ vs H Q E, sp vs H Q E → vs.length = ps.length)
    (hbody : ∀ (cdv : Value) (A : Around) (outer : List PySem.Env) (s : Shared) (H : Hp) (vs : List V) (Q : VK) (E : XK), Room k (A.deeper (envOfC qual (defScope st) s.heap.objs.size f cdv)) → sp vs H Q E →
      ∃ t, PSs (cxOf (L2.CX P w) P w K mg base N qual (defScope st) f cdv A outer s H E) (defBody st) t ∧ t { nx := fun _ H' => Q .non H', rt := Q } (start N vs) H) : FnOk P w K mg base (L2.CX P w) (k + 1) f fd ps sp := by
  obtain ⟨oc, od, kV, doc, pm, an, cdv, ct, osl, rfl, lk, hcd⟩ := F.ex
  exact fn_of lk hcd S len fun A outer s H vs Q E hr hsp => hbody cdv A outer s H vs Q E hr hsp
theorem fn_okX {P : Program} {w : World} {base : Heap} {G : Gm} {mg : Str → Option Value} {x qual : Str} {dV : Value} {st : Stmt} {f : Addr} {fd : FuncData} {N ps : List Str} {k : Nat} {body : Env → Store → Res (Fw × Env)} (Fn : MFun G.K x qual st dV f fd) (S : FnScope N ps (defScope st))
    (hb : ∀ (cdv : Value) (A : Around) (outer : List PySem.Env) (s : Shared) (H : Hp) (E : XK), Room k (A.deeper (envOfC qual (defScope st) s.heap.objs.size f cdv)) → PSs (cxOf (L2.CX P w) P w G.K mg base N qual (defScope st) f cdv A outer s H E) (defBody st) (tS G E body)) :
    FnOk P w G.K mg base (L2.CX P w) (k + 1) f fd ps (spF G (callX ps.length N.length body)) := by
  refine Fn.okX S (fun vs H Q E h => ?_) (fun cdv A outer s H vs Q E hr h => ⟨_, hb cdv A outer s H E hr, ?_⟩)
  · obtain ⟨F, m, st, ws, _, r, h⟩ := h
    rw [← r.length]
    unfold callX at h
    split at h
    · assumption
    · exact h.elim
  · obtain ⟨F, m, st, ws, Si, r, h⟩ := h
    unfold callX at h
    split at h
    case isFalse => exact h.elim
    refine ⟨F, m, startE N.length ws, st, Si, repS_start r, ?_⟩
    cases q : body (startE N.length ws) st with
    | no => rw [q] at h; exact h.elim
    | exc e st1 => rw [q] at h; exact h
    | ok rr st1 =>
      rw [q] at h
      dsimp only at h
      obtain ⟨fw, σ1⟩ := rr
      intro F1 m1 H1 S1 e1
      have fin : ∀ v x, retOf fw = some v → Rep G F1 m1 st1.length v x → Q x H1 := by
        intro v x hv rx
        rw [hv] at h
        exact h F1 m1 H1 S1 e1 x rx
      cases fw with
      | nx => exact fun σ' _ => fin .non .non rfl rep_non
      | ret v => exact fun x rx => fin v x rfl rx
      | brk => exact h.elim
      | ct => exact h.elim
end Mi

/-! Mi, part m9: try .. except C as e. -/
namespace Mi
open PySem PySem.Spec PyProof.Rows L2
abbrev Fl := List (Str × Val)
/-- an expression of an except suite: slot i holds the error at a, whose dict is at dd -/
def tEX (G : Gm) (i : Nat) (a dd : Addr) (f : Fl → Env → Store → Res Val) : TE := fun σ H Q => ∃ F m σe st fs vs, Sim G F m st H ∧ RepS G F m st.length σe σ ∧ σ[i]? = some (some (.ref a)) ∧ H dd = some (.xd vs) ∧ RepF G F m st.length fs vs ∧ After G E0 F m st.length H (f fs σe st) (KV G Q)
def tTX (G : Gm) (i : Nat) (a dd : Addr) (f : Fl → Env → Store → Res Bool) : TT := fun σ H Q => ∃ F m σe st fs vs, Sim G F m st H ∧ RepS G F m st.length σe σ ∧ σ[i]? = some (some (.ref a)) ∧ H dd = some (.xd vs) ∧ RepF G F m st.length fs vs ∧ After G E0 F m st.length H (f fs σe st) (KB Q)
def tSX (G : Gm) (i : Nat) (a dd : Addr) (f : Fl → Env → Store → Res (Fw × Env)) : TS := fun D σ H => ∃ F m σe st fs vs, Sim G F m st H ∧ RepS G F m st.length σe σ ∧ σ[i]? = some (some (.ref a)) ∧ H dd = some (.xd vs) ∧ RepF G F m st.length fs vs ∧ After G E0 F m st.length H (f fs σe st) (KF G D)
theorem RepF.up {G : Gm} {F F' : Hp} {m m' : Nat → Addr} {n n' : Nat} {H H' : Hp} (e : Ext F m n H F' m' n' H') {fs : Fl} {vs : List (Str × V)} (h : RepF G F m n fs vs) : RepF G F' m' n' fs vs := h.ext e.same e.mp e.le
theorem RepO.notXd {G : Gm} {F : Hp} {m : Nat → Addr} {n : Nat} {o : Ob} {u : HO} (h : RepO G F m n o u) : ∀ xs, u ≠ .xd xs := fun xs e => by
  subst e
  cases o with
  | lst ys => obtain ⟨_, e, _⟩ := h; cases e
  | ins c fs => obtain ⟨_, _, e, _⟩ := h; cases e
  | dic kvs lk =>
    cases lk with
    | true => obtain ⟨_, _, e, _⟩ := h; cases e
    | false => rcases h with ⟨_, e, _⟩ | ⟨_, e, _⟩ <;> cases e
theorem Ext.xd {G : Gm} {F F' : Hp} {m m' : Nat → Addr} {st st' : Store} {H H' : Hp} {dd : Addr} {vs : List (Str × V)} (S : Sim G F m st H) (S' : Sim G F' m' st' H') (e : Ext F m st.length H F' m' st'.length H') (h : H dd = some (.xd vs)) : H' dd = some (.xd vs) := by
  cases q : F dd with
  | some o =>
    have := S.same _ _ q
    rw [h] at this
    cases this
    exact S'.same _ _ (e.same _ _ q)
  | none =>
    refine (e.fr dd _ h (fun xs z => by cases z) q fun i hi z => ?_).1
    obtain ⟨u, h1, h2, h3⟩ := S.obj i st[i] (by simp [hi])
    rw [z, h] at h1
    cases h1
    exact h2.notXd _ rfl
section
variable {X : Cx} {G : Gm} {i : Nat} {a dd : Addr} {e e1 e2 c : Expr} {pos p2 : Pos} {f g : Fl → Env → Store → Res Val} {gc gd : Fl → Env → Store → Res Bool}
theorem PE.toX {f : Env → Store → Res Val} (h : PE X e (tE G E0 f)) : PE X e (tEX G i a dd fun _ => f) :=
  PE.imp h fun σ H Q ⟨F, m, σe, st, fs, vs, S, rs, _, _, _, q⟩ => ⟨F, m, σe, st, S, rs, q⟩
theorem x_if (hc : PT X c (tTX G i a dd gc)) (ha : PE X e1 (tEX G i a dd f)) (hb : PE X e2 (tEX G i a dd g)) : PE X (.IfExp c e1 e2 pos) (tEX G i a dd fun fs σ st => (gc fs σ st).bnd fun k st => if k then f fs σ st else g fs σ st) := by
  refine PE.imp (pe_ifExp hc ha hb) fun σ H Q h => ?_
  obtain ⟨F, m, σe, st, fs, vs, S, rs, hi, hd, rf, h⟩ := h
  refine ⟨F, m, σe, st, fs, vs, S, rs, hi, hd, rf, h.bnd.mono fun k st1 F1 m1 H1 S1 e1 h1 => ?_⟩
  cases k with
  | true => show if true = true then _ else _; rw [if_pos rfl]; exact ⟨F1, m1, σe, st1, fs, vs, S1, rs.up e1, hi, e1.xd S S1 hd, rf.up e1, h1⟩
  | false => show if false = true then _ else _; rw [if_neg (by simp)]; exact ⟨F1, m1, σe, st1, fs, vs, S1, rs.up e1, hi, e1.xd S S1 hd, rf.up e1, h1⟩
theorem x_not (ha : PT X e (tTX G i a dd gc)) : PT X (.UnaryOp .Not e pos) (tTX G i a dd fun fs σ st => (gc fs σ st).bnd fun k st => .ok (!k) st) := by
  refine PT.imp (pt_not ha) fun σ H Q q => ?_
  obtain ⟨F, m, σe, st, fs, vs, S, rs, hi, hd, rf, q⟩ := q
  exact ⟨F, m, σe, st, fs, vs, S, rs, hi, hd, rf, q.bnd.mono fun k st1 F1 m1 H1 S1 e1 h1 => h1 F1 m1 H1 S1 Ext.refl⟩
theorem x_and {rest : List Expr} (ha : PT X e1 (tTX G i a dd gc)) (hb : PW X (.BoolOp .And (e2 :: rest) pos) (tTX G i a dd gd)) : PW X (.BoolOp .And (e1 :: e2 :: rest) pos) (tTX G i a dd fun fs σ st => (gc fs σ st).bnd fun k st => if k then gd fs σ st else .ok false st) := by
  refine ⟨fun wh pins s σ H Q I q => (pw_and ha hb).run wh pins s σ H Q I ?_⟩
  obtain ⟨F, m, σe, st, fs, vs, S, rs, hi, hd, rf, q⟩ := q
  refine ⟨F, m, σe, st, fs, vs, S, rs, hi, hd, rf, q.bnd.mono fun k st1 F1 m1 H1 S1 e1 h1 => ?_⟩
  cases k with
  | true => show if true = true then _ else _; rw [if_pos rfl]; exact ⟨F1, m1, σe, st1, fs, vs, S1, rs.up e1, hi, e1.xd S S1 hd, rf.up e1, h1⟩
  | false => show if false = true then _ else _; rw [if_neg (by simp)]; exact h1 F1 m1 H1 S1 Ext.refl
/-- x = e in the suite -/
theorem x_set {j : Nat} {x : Str} (hN : X.N.Nodup) (hi : X.N[j]? = some x) (hx : Loc X.env.scope x) (hf : X.fn x = true ∨ X.env.scope.names.lookup x = some .local) (ha : PE X e (tEX G i a dd f)) (hs : swapsWith e (some (.Name x p2)) pos.line X.env = pure false) :
    PS X (.Assign [.Name x p2] e pos) (tSX G i a dd fun fs σ st => (f fs σ st).bnd (asgS (.nm j) σ)) := by
  refine PS.imp (ps_set hN hi hx ha hs hf) fun D σ H h => ?_
  obtain ⟨F, m, σe, st, fs, vs, S, rs, hi, hd, rf, h⟩ := h
  refine ⟨F, m, σe, st, fs, vs, S, rs, hi, hd, rf, h.bnd.mono fun v st1 F1 m1 H1 S1 e1 h1 y ry => ?_⟩
  unfold asgS at h1
  unfold asg at h1
  split at h1
  · rename_i σ' ha
    split at ha
    · cases ha
      exact h1 F1 m1 H1 S1 Ext.refl _ ((rs.up e1).set ry)
    · cases ha
  · exact h1.elim
end
/-! ### the error's fields, isinstance of it -/
section
variable {X : Cx} {G : Gm} {i c : Nat} {a dd : Addr} {oe : Obj} {pn : List (Addr × Obj)} {n fld : Str} {p p3 pos : Pos}
theorem x_fld (hi : X.N[i]? = some n) (hv : Vis X.env.scope n) (T : XfC X.K (G.cad c)) (hno : PySem.W.findIn X.K (.ref (G.cad c)) fld = some none) (hz : Zc (.ref (G.cad c)) (some dd) oe) (hf : ∃ vs, oe.data = .fields vs)
    (hdb : (n == ("__debug__" : Str)) = false := by decide) (hcd : (n == ("__classdict__" : Str)) = false := by decide) :
    PE (X.suite a ((a, oe) :: pn)) (.Attribute (.Name n p) fld pos) (tEX G i a dd fun fs _ st => match fs.lookup fld with | some v => .ok v st | none => .no) := by
  refine PE.imp (pe_xf T hno hz hf (pe_var (X := X.suite a ((a, oe) :: pn)) hi hv hdb hcd)) fun σ H Q h => ?_
  obtain ⟨F, m, σe, st, fs, vs, S, rs, hi, hd, rf, h⟩ := h
  refine ⟨_, hi, rfl, rfl, dd, vs, ?_⟩
  dsimp only at h
  cases q : fs.lookup fld with
  | none => rw [q] at h; exact h.elim
  | some v =>
    rw [q] at h
    rcases rf.look fld with ⟨z, _⟩ | ⟨v', y, l', l, ry⟩
    · rw [q] at z; cases z
    · rw [q] at l'; cases l'
      exact ⟨y, rfl, hd, l, h F m H S Ext.refl y ry⟩
/-- isinstance(e, D), e with its dict -/
def rIsX (K : PySem.W.Frag) (D a dd : Addr) : List V → Hp → VK → Prop := fun xs H Q => ∃ (c : V) (cv : Value) (b : Bool) (vs : List (Str × V)), xs = [.ref a, c] ∧ (∀ u, RelV c u → u = cv) ∧ H dd = some (.xd vs) ∧ PySem.W.kitOne K (.ref D) cv = some b ∧ Q (.bl b) H
theorem call_isX {D : Addr} (C : ExcC X.K D) (hz : Zc (.ref D) (some dd) oe) (hf : ∃ vs, oe.data = .fields vs) : CallR (X.suite a ((a, oe) :: pn)) (.builtin "isinstance") (rIsX X.K D a dd) := by
  intro pins s σ H xs us Q I r h
  obtain ⟨c, cv, b, vs0, rfl, hcv, hdd, e, q⟩ := h
  cases r with
  | cons rx rr =>
    cases rr with
    | cons rt rr =>
      cases rr
      cases rx
      have ec := hcv _ rt
      subst ec
      obtain ⟨hget, _⟩ := I.pin (a, oe) (List.mem_append.mpr (.inl List.mem_cons_self))
      obtain ⟨vs, hv⟩ := hf
      have hx : ObjOk X.prog X.w H s.heap dd (.xd vs0) := I.hok dd _ hdd
      obtain ⟨mA, hns, hr⟩ := hx
      obtain ⟨od, ho, hl⟩ := lookIn_ns hns
      have J : PySem.W.InstAt s.heap a oe D (some od) := ⟨hget, hz.1, by unfold PySem.W.notCls; rw [hv] <;> rfl, by rw [hz.2]; exact ho⟩
      obtain ⟨cd, hc, _⟩ := PySem.W.any_some C.hd
      exact PySem.W.kia_one (PySem.W.kitx_exc (by rw [hc]; rfl) C.hg C.hk C.hs C.ha C.hn C.ht C.hm) I.kIn J e (fun z => nomatch z) fun tk => ⟨.bl b, H, I.kept (t' := tk) fun _ _ z => z, rfl, q⟩
theorem x_isi {D : Addr} {x : Str} {p4 : Pos} {b : Bool} (hi : X.N[i]? = some n) (hv : Vis X.env.scope n) (C : ExcC X.K (G.cad c)) (hz : Zc (.ref (G.cad c)) (some dd) oe) (hf : ∃ vs, oe.data = .fields vs) (hg0 : Gl X "isinstance") (hm0 : X.mg "isinstance" = none)
    (hg : Gl X x) (hm : X.mg x = some (.ref D)) (hk : PySem.W.kitOne X.K (.ref (G.cad c)) (.ref D) = some b)
    (hdb : (n == ("__debug__" : Str)) = false := by decide) (hcd : (n == ("__classdict__" : Str)) = false := by decide) (hdx : (x == ("__debug__" : Str)) = false := by decide) :
    PE (X.suite a ((a, oe) :: pn)) (.Call (.Name "isinstance" p) [.Name n p3, .Name x p4] [] pos) (tEX G i a dd fun _ _ st => .ok (.bl b) st) := by
  refine PE.imp (pe_callB (X := X.suite a ((a, oe) :: pn)) (call_isX C hz hf) hg0 hm0 (by decide +kernel) (pa_cons (pe_var (X := X.suite a ((a, oe) :: pn)) hi hv hdb hcd) (pa_cons (pe_glob (X := X.suite a ((a, oe) :: pn)) (v := .ref D) hg hm rfl hdx) pa_nil))) fun σ H Q h => ?_
  obtain ⟨F, m, σe, st, fs, vs, S, rs, hi, hd, rf, h⟩ := h
  refine ⟨_, hi, ?_⟩
  exact ⟨.ref D, .ref D, b, vs, rfl, fun u z => z, hd, hk, h F m H S Ext.refl _ rep_bl⟩
theorem x_isiT {D : Addr} {x : Str} {p4 : Pos} {b : Bool} (hi : X.N[i]? = some n) (hv : Vis X.env.scope n) (C : ExcC X.K (G.cad c)) (hz : Zc (.ref (G.cad c)) (some dd) oe) (hf : ∃ vs, oe.data = .fields vs) (hg0 : Gl X "isinstance") (hm0 : X.mg "isinstance" = none)
    (hg : Gl X x) (hm : X.mg x = some (.ref D)) (hk : PySem.W.kitOne X.K (.ref (G.cad c)) (.ref D) = some b)
    (hdb : (n == ("__debug__" : Str)) = false := by decide) (hcd : (n == ("__classdict__" : Str)) = false := by decide) (hdx : (x == ("__debug__" : Str)) = false := by decide) :
    PT (X.suite a ((a, oe) :: pn)) (.Call (.Name "isinstance" p) [.Name n p3, .Name x p4] [] pos) (tTX G i a dd fun _ _ st => .ok b st) := by
  refine PT.imp (pt_val (x_isi hi hv C hz hf hg0 hm0 hg hm hk hdb hcd hdx)) fun σ H Q h => ?_
  obtain ⟨F, m, σe, st, fs, vs, S, rs, hi, hd, rf, h⟩ := h
  refine ⟨F, m, σe, st, fs, vs, S, rs, hi, hd, rf, fun F1 m1 H1 S1 e1 z rz => ?_⟩
  unfold Rep at rz
  subst rz
  exact ⟨b, rfl, h F1 m1 H1 S1 e1⟩
end
/-! ### try: f(..) / except C as e: suite -/
theorem RepS.clr {G : Gm} {F : Hp} {m : Nat → Addr} {n : Nat} {σe : Env} {σ : L2.St} {i : Nat} {o : Option V} (rs : RepS G F m n σe σ) : RepS G F m n (σe.set i none) (σ.set i o) := by
  refine ⟨by simp [rs.1], fun j u e => ?_⟩
  by_cases hj : i = j
  · subst hj
    by_cases hi : i < σe.length
    · rw [List.getElem?_set_self hi] at e
      cases e
    · rw [List.getElem?_eq_none (by simpa using hi)] at e
      cases e
  · rw [List.getElem?_set_ne hj] at e ⊢
    exact rs.2 j u e
/-- the name goes -/
def clrF (i : Nat) : Fw × Env → Fw × Env := fun r => (r.1, r.2.set i none)
def tryF (i c : Nat) (fs : Env → Store → Res (List Val)) (run : List Val → Store → Res Val) (fsu : Fl → Env → Store → Res (Fw × Env)) : Env → Store → Res (Fw × Env) := fun σ st => (fs σ st).bnd fun ws st => match run ws st with
  | .ok _ st1 => .ok (.nx, σ) st1
  | .exc e st1 => if e.c = c ∧ i < σ.length then (fsu e.fs (σ.set i none) st1).bnd fun r st => .ok (clrF i r) st else .no
  | .no => .no
section
variable {X : Cx} {G : Gm} {i c k : Nat} {x cn n : Str} {f : Addr} {fd : FuncData} {ps : List Str} {run : List Val → Store → Res Val} {e : Expr} {es : List Expr} {fs : Env → Store → Res (List Val)} {fsu : Fl → Env → Store → Res (Fw × Env)} {b₀ : Stmt} {suite : List Stmt} {p pc pos1 np pos' pos : Pos}
theorem s_try (hs : X.stack = X.env :: X.outer) (hf : X.env.frame = some X.env.locals) (hN : X.N.Nodup) (hi : X.N[i]? = some n) (hln : X.env.kindOf n = some .local) (hc : Names X cn (.ref (G.cad c))) (hcc : PySem.W.exmOne X.K (.ref (G.cad c)) (.ref (G.cad c)) = some true)
    (F : FnOk X.prog X.w X.K X.mg X.base (L2.CX X.prog X.w) k f fd ps (spF G run)) (hr : Room k X.A) (hg : Gl X x) (hm : X.mg x = some (.ref f)) (hk : PySem.W.keepIn X.K (.ref f) = true) (hb : Binds X.K fd ps [])
    (ha : ∀ pn xe, PA (X.tr pn xe) (e :: es) (tA G E0 fs)) (h0 : notStar e = true) (h1 : noStars es = true)
    (hsw : swapsWith (.Call (.Name x p) (e :: es) [] pc) none pos1.line X.env = pure false)
    (hsu : ∀ (a dd : Addr) (oe : Obj) (pn : List (Addr × Obj)), Zc (.ref (G.cad c)) (some dd) oe → (∃ vs, oe.data = .fields vs) → PSs (X.suite a ((a, oe) :: pn)) (b₀ :: suite) (tSX G i a dd fsu))
    (hdb : (x == ("__debug__" : Str)) = false := by decide) :
    PS X (.Try [.Expr (.Call (.Name x p) (e :: es) [] pc) pos1] [.ExceptHandler (some (.Name cn np)) (some n) (b₀ :: suite) pos'] [] [] pos) (tS G E0 (tryF i c fs run fsu)) := by
  refine PS.imp (ps_try_as (Wout := fun _ _ _ _ => False) (tb := fun W => fun D σ H => tCallS (spF G run) (WE W) (tA G E0 fs) σ H fun _ H' => D.nx σ H') (ts := fun a cls d => fun D σ H => ∃ dd, cls = .ref (G.cad c) ∧ d = some dd ∧ tSX G i a dd fsu D σ H) hs hf hN hi hln hc
    (fun u s' ⟨_, _, _, _, _, _, _, _, _, _, _, _, _, _, _, _, w⟩ => w.elim) (fun W pn xe tk hp => ?_) (fun a oe cls d pn hz hfl => ?_)) fun D σ H h => ?_
  · exact pss_one (ps_expr (pe_callS (X := X.tr pn xe) F hr hg hm hk hb (fun σ => passAt tk σ) (ha pn xe) hdb (starEach_plain h0) (noStars_any h1)) hsw)
  · exact ⟨fun pins s σ H D I h => by
      obtain ⟨dd, rfl, rfl, h⟩ := h
      exact (hsu a dd oe pn hz hfl).run pins s σ H D I h⟩
  · obtain ⟨F, m, σe, st, S, rs, h⟩ := h
    refine ⟨F, m, σe, st, S, rs, h.bnd.mono fun ws st1 F1 m1 H1 S1 e1 h1 zs rz => ⟨F1, m1, st1, ws, S1, rz, ?_⟩⟩
    cases q : run ws st1 with
    | no => rw [q] at h1; exact h1.elim
    | ok v st2 =>
      rw [q] at h1
      exact fun F2 m2 H2 S2 e2 y ry => h1 F2 m2 H2 S2 e2 σ ((rs.up e1).up e2)
    | exc ex st2 =>
      rw [q] at h1
      dsimp only at h1
      split at h1
      case isFalse => exact h1.elim
      rename_i hcx
      obtain ⟨hcx, hil⟩ := hcx
      intro F2 m2 H2 d vs S2 e2 hd rf
      rw [hcx]
      refine ⟨true, hcc, fun _ a na => ⟨d, rfl, rfl, F2, m2, σe.set i none, st2, ex.fs, vs, S2, ((rs.up e1).up e2).clr, ?_, hd, rf, ?_⟩, fun z => by cases z⟩
      · rw [List.getElem?_set_self (by rw [← rs.1]; exact hil)]
      · refine (h1.pull (st := st2) e2).bnd.mono fun r st3 F3 m3 H3 S3 e3 h3 => ?_
        have h3 := h3 F3 m3 H3 S3 Ext.refl
        obtain ⟨r, σ'⟩ := r
        cases r with
        | nx => exact fun σ2 rs2 => h3 _ rs2.clr
        | brk => exact fun σ2 rs2 => h3 _ rs2.clr
        | ct => exact fun σ2 rs2 => h3 _ rs2.clr
        | ret v => exact h3
end
end Mi

/-! Mi, part n1: sorted(set(xs)), xs a list of texts. -/
namespace Mi
open PySem PySem.Spec PyProof.Rows L2 PySem.Froz
def uniq : List Str → List Str
  | [] => []
  | x :: xs => if x ∈ uniq xs then uniq xs else x :: uniq xs
theorem uniq_mem (x : Str) : ∀ l : List Str, x ∈ uniq l ↔ x ∈ l
  | [] => by simp [uniq]
  | y :: l => by
    unfold uniq
    by_cases h : y ∈ uniq l
    · rw [if_pos h, uniq_mem x l, List.mem_cons]
      exact ⟨.inr, fun z => z.elim (fun e => by rw [e]; exact (uniq_mem y l).1 h) id⟩
    · rw [if_neg h, List.mem_cons, List.mem_cons, uniq_mem x l]
theorem uniq_nodup : ∀ l : List Str, (uniq l).Nodup
  | [] => by simp [uniq]
  | y :: l => by
    unfold uniq
    by_cases h : y ∈ uniq l
    · rw [if_pos h]; exact uniq_nodup l
    · rw [if_neg h]; exact List.nodup_cons.mpr ⟨h, uniq_nodup l⟩
theorem uniq_len : ∀ l : List Str, (uniq l).length ≤ l.length
  | [] => by simp [uniq]
  | y :: l => by
    unfold uniq
    have := uniq_len l
    split <;> simp <;> omega
theorem perm_of_sub {α : Type} : ∀ (l m : List α), l.Nodup → (∀ x ∈ l, x ∈ m) → m.length ≤ l.length → m.Perm l
  | [], m, _, _, h => by
    have : m = [] := List.length_eq_zero_iff.mp (Nat.le_zero.mp h)
    rw [this]
  | x :: l, m, d, s, h => by
    obtain ⟨a, b, rfl⟩ := List.append_of_mem (s x List.mem_cons_self)
    obtain ⟨d1, d2⟩ := List.nodup_cons.mp d
    have p : (a ++ x :: b).Perm (x :: (a ++ b)) := List.perm_middle
    refine p.trans ((perm_of_sub l (a ++ b) d2 (fun y hy => ?_) ?_).cons x)
    · have q := p.mem_iff.mp (s y (List.mem_cons_of_mem _ hy))
      rcases List.mem_cons.mp q with z | z
      · exact absurd (z ▸ hy) d1
      · exact z
    · have q := p.length_eq
      simp only [List.length_cons] at q h
      omega
theorem tail_ris {ep : Nat} {es1 : Array (Int × Value)} {t2 : SetTable} {wd : Bool} (r : Ris t2.place.toList) : Ris (tailTx ep es1 t2 wd).2.2.place.toList := by
  unfold tailTx
  split
  · exact relayAll_ris _ _ _
  · exact r
theorem tail_led {ep : Nat} {es1 : Array (Int × Value)} {t2 : SetTable} {wd : Bool} : (tailTx ep es1 t2 wd).2.2.led = t2.led := by
  unfold tailTx
  split
  · exact relayAll_led _ _ _
  · rfl
theorem addTx_ris {h : Int} {v : Value} {D : SD} (r : Ris D.2.2.place.toList) : Ris (addTx h v D).2.2.place.toList := by
  have q := layNew_ris D.2.2 D.1 h v r
  unfold addTx
  refine tail_ris ?_
  split <;> exact q
theorem addTx_led {h : Int} {v : Value} {D : SD} : (addTx h v D).2.2.led = D.2.2.led := by
  have q := layNew_led D.2.2 D.1 h v
  unfold addTx
  rw [tail_led]
  split <;> exact q
structure TxR (P : Program) (w : World) (D : SD) (l : List Str) : Prop where
  ok : TxOk P w D l
  nd : l.Nodup
  ris : Ris D.2.2.place.toList
  led : w.params.followText "set-order" = true ∨ D.2.2.led = true
section
variable {P : Program} {w : World} {A : Around} {E : Value → Shared → Prop} {s : Shared}
theorem TxR.add {D : SD} {l : List Str} {k : Str} {u : Tok} (F : TxR P w D l) (hk : k ∉ l) : TxR P w (addTx (hashStr w k) (.str k u) D) (k :: l) where
  ok := add_ok u F.ok
  nd := List.nodup_cons.mpr ⟨hk, F.nd⟩
  ris := addTx_ris F.ris
  led := F.led.imp id fun z => by rw [addTx_led]; exact z
theorem dup_x {a : Addr} {T : String} {D : SD} {l : List Str} {k : Str} {u : Tok} {Q : Bool → Shared → Prop} (ho : s.heap.get? a = some (sObj T D)) (F : TxOk P w D l) (hk : k ∈ l) (hb : l.length < scanBound) (h : Q false s) :
    wpAny (model P w) A (setAddHashed a (.str k u) (hashStr w k)) Q E s := by
  obtain ⟨rows, ep, tb⟩ := D
  have dd : (sObj T (rows, ep, tb)).data = .set rows ep tb := rfl
  have ft : tb.fits rows.size = true := F.fit
  have el : ElemsOf (strKind P w) rows.toList := F.el
  have sz : rows.size < scanBound := by rw [show rows.size = l.length from F.sz]; exact hb
  cases hr : List.findIdx? (fun e => (strKind P w).is k e.2) rows.toList with
  | none =>
    obtain ⟨e, he, q⟩ := (F.mem k).mp hk
    have c := List.findIdx?_eq_none_iff.mp hr e he
    rw [q] at c
    cases c
  | some j =>
    unfold setAddHashed setAddHashedIn
    refine wpAny_holding (wpAny_bind (wpAny_setState_of ho dd ft ?_))
    dsimp only
    rw [byScan_of rfl sz el]
    simp only [↓reduceIte]
    unfold setAddByScan
    refine wpAny_bind (wpAny_bind (wpAny_rule (wpAny_bind (wpAny_setScan_of (knd := strKind P w) (k := k) (is_str k u) ho dd ft el ?_))))
    rw [hr]
    exact wpAny_pure (wpAny_pure h)
theorem put_x {a : Addr} {T : String} {D : SD} {l : List Str} {k : Str} {u : Tok} {Q : Bool → Shared → Prop} (ho : s.heap.get? a = some (sObj T D)) (F : TxR P w D l) (hb : l.length + 1 < scanBound)
    (h : ∀ b D' l' h', Heap.SameBut a s.heap h' → h'.get? a = some (sObj T D') → TxR P w D' l' → (∀ y, y ∈ l' ↔ y = k ∨ y ∈ l) → l'.length ≤ l.length + 1 → Q b { s with heap := h' }) :
    wpAny (model P w) A (setAddHashed a (.str k u) (hashStr w k)) Q E s := by
  by_cases hk : k ∈ l
  · exact dup_x ho F.ok hk (by omega) (h false D l s.heap (Heap.SameBut.refl a s.heap) ho F (fun y => ⟨.inr, fun z => z.elim (fun e => by rw [e]; exact hk) id⟩) (by omega))
  · refine add_x ho F.ok hk hb (h true _ (k :: l) _ (Heap.SameBut.update s.heap a _) (get_upd _ ho rfl) (F.add hk) (fun y => List.mem_cons) (by simp))
/-- the loop of set(xs) -/
theorem txt_loop {I : Addr} {fp wr : List Addr} {GS : Array GenState → Array GenState → Prop} {n : Nat} {Pv : Nat → Value → Prop} {St : Nat → Shared → Prop} {R : Result → Shared → Prop}
    (W : WalksS P w A.in1 I fp wr GS n Pv St) (S : Addr) (hSf : S ∉ fp) (xs : List Str) (hn : n = xs.length) (hfew : xs.length ≤ 4000) (hv : ∀ i v, Pv i v → ∃ x t, xs[i]? = some x ∧ v = .str x t) :
    ∀ (k i : Nat) (s : Shared), n - i = k → i ≤ n → St i s → (∃ D l, s.heap.get? S = some (sObj "set" D) ∧ TxR P w D l ∧ (∀ x, x ∈ l ↔ x ∈ xs.take i) ∧ l.length ≤ i) →
      (∀ s' D l, Moved (S :: wr) GS s s' → s'.heap.get? S = some (sObj "set" D) → TxR P w D l → (∀ x, x ∈ l ↔ x ∈ xs) → l.length ≤ xs.length → R (.ok (.ret .none)) s') →
      codeAny (model P w) A (.builtin "set.update.loop" ⟨[.ref S, .ref I], []⟩) R s := by
  have out : S ∉ wr := fun h => hSf (W.sub _ h)
  have into : ∀ b ∈ wr, b ∈ S :: wr := fun b hb => List.mem_cons_of_mem _ hb
  intro k
  induction k with
  | zero =>
    intro i s hk hi hst ⟨D, l, hS, F, hm, hl⟩ hR
    obtain rfl : i = n := by omega
    refine codeAny_builtin PyProof.Rows.F.entry_set_update_loop ?_
    rw [Around.under_plainId PyProof.Rows.F.plain_set_update_loop _]
    refine wpAny_bind (m := pyNext (.ref I)) (W.done s _ _ hst fun s' mv => ?_)
    exact wpAny_pure (hR s' D l (mv.mono into) (mv.heap S _ out hS) F (fun x => by rw [hm x, hn, List.take_length]) (by omega))
  | succ k ih =>
    intro i s hk hi hst ⟨D, l, hS, F, hm, hl⟩ hR
    have lt : i < n := by omega
    refine codeAny_builtin PyProof.Rows.F.entry_set_update_loop ?_
    rw [Around.under_plainId PyProof.Rows.F.plain_set_update_loop _]
    refine wpAny_bind (m := pyNext (.ref I)) (W.item i s _ _ lt hst fun v s' hp hst' mv => ?_)
    obtain ⟨x, t, hx, rfl⟩ := hv i v hp
    have hS' := mv.heap S _ out hS
    have tk : xs.take (i + 1) = xs.take i ++ [x] := by rw [List.take_succ, hx]; rfl
    refine wpAny_bind (m := holding [Value.str x t] (setAdd S (.str x t))) (wpAny_holding ?_)
    unfold setAdd
    refine wpAny_holding (wpAny_bind ((strKind P w).pyHash (k := x) (is_str x t) ?_))
    refine put_x (s := { s' with toks := s'.toks + 1 }) hS' F (by unfold scanBound; omega) fun b D' l' h' sb hS2 F2 hm2 hl2 => ?_
    refine wpAny_pure ⟨plainId_quiet PyProof.Rows.F.plain_set_update_loop _, ih (i + 1) _ (by omega) lt (W.frame _ s' _ _ hst' (Nat.le_succ _) fun b hb o e => ?_) ⟨D', l', hS2, F2, fun y => ?_, by omega⟩ fun s2 D2 l2 mv2 g1 g2 g3 g4 => ?_⟩
    · rw [sb.2 b (fun z : b = S => hSf (by rw [← z]; exact hb))]
      exact e
    · rw [hm2 y, hm y, tk, List.mem_append, List.mem_singleton]
      exact Or.comm
    · refine hR s2 D2 l2 (Moved.trans W.gtrans ((mv.mono into).then_heap (Nat.le_succ _) fun b o hb e => ?_) mv2) g1 g2 g3 g4
      rw [sb.2 b (fun z : b = S => hb (by rw [z]; exact List.mem_cons_self))]
      exact e
def newSetObj (w : World) : Obj := { cls := .type "set", dict := none, data := .set #[] 0 (.fresh 0 0 (!w.params.followText "set-order")) }
theorem TxR.fresh : TxR P w (#[], 0, .fresh 0 0 (!w.params.followText "set-order")) [] where
  ok := TxOk.nil (by rfl)
  nd := .nil
  ris := .nil
  led := by
    show _ ∨ (!w.params.followText "set-order") = true
    cases w.params.followText "set-order" <;> simp
theorem strsAre_nth : ∀ {us : List Value} {xs : List Str}, StrsAre us xs → ∀ (i : Nat) (v : Value), us[i]? = some v → ∃ x t, xs[i]? = some x ∧ v = .str x t
  | _, _, .nil, i, v, h => by simp at h
  | _, _, .cons x t r, 0, v, h => by simp at h; exact ⟨x, t, rfl, h.symm⟩
  | _, _, .cons x t r, i + 1, v, h => strsAre_nth r i v (by simpa using h)
set_option maxHeartbeats 3200000 in
/-- set(xs) -/
theorem call_set_txt {l : Addr} {items : Array Value} (xs : List Str) {Q : Value → Shared → Prop} (hh : A.handled = none) (hl : s.heap.IsList l items) (hi : StrsAre items.toList xs) (hfew : xs.length ≤ 4000)
    (h : ∀ (h' : Heap) (tk : Nat) D m, h'.get? s.heap.objs.size = some (sObj "set" D) → TxR P w D m → (∀ x, x ∈ m ↔ x ∈ xs) → m.length ≤ xs.length → (∀ b o, s.heap.get? b = some o → h'.get? b = some o) → Q (.ref s.heap.objs.size) { s with heap := h', toks := tk }) :
    wpAny (model P w) A (call (.type "set") [.ref l]) Q E s := by
  have isz : items.size = xs.length := by rw [← Array.length_toList]; exact strsAre_len hi
  obtain ⟨c, tl, mro⟩ := PySem.F.called_set.mro
  have made := PySem.F.called_set.made
  have sub := PySem.F.called_set.sub
  refine wpAny_call (codeAny_of_tree ?_)
  show wpAny _ _ (callAny (.type "set") _) _ _ _
  refine wpAny_pure ⟨Code.quiet_builtin _ (by decide +kernel), codeAny_builtin PySem.F.entry_type_call ?_⟩
  rw [Around.under_plain (weight_type_call_type "set" [.ref l] []) rfl]
  have q1 := PySem.F.called_set.notType
  have q2 := PySem.F.called_set.canCreate
  have q3 := PySem.F.typeCall_set_1 (.ref l)
  repeat (any_goals (first | assumption | wp_step))
  refine codeAny_mono (code_set_led1 (.ref l) (E := E) (Q₁ := fun obj s₁ => obj = .ref s.heap.objs.size ∧ s₁ = { s with heap := s.heap.push (newSetObj w) }) ⟨rfl, rfl⟩) fun r s₁ hr => ?_
  cases r with
  | error e => exact hr
  | ok fl =>
    cases fl with
    | ret obj =>
      obtain ⟨rfl, rfl⟩ := hr
      have atS : (s.heap.push (newSetObj w)).get? s.heap.objs.size = some (newSetObj w) := Heap.get?_push_size _ rfl
      have isS : Shared.TypeIs { s with heap := s.heap.push (newSetObj w) } (.ref s.heap.objs.size) "set" := ⟨_, atS, rfl⟩
      have q4 := PySem.F.called_set.init.lookup
      have q5 := PySem.F.called_set.init.bind (.ref s.heap.objs.size)
      repeat (any_goals (first | assumption | wp_step))
      refine codeAny_mono (codeAny_call_builtin (R := wants (fun r s₂ => r = .none ∧ ∃ h' tk D m, s₂ = { s with heap := h', toks := tk } ∧ h'.get? s.heap.objs.size = some (sObj "set" D) ∧ TxR P w D m ∧ (∀ x, x ∈ m ↔ x ∈ xs) ∧ m.length ≤ xs.length ∧
          (∀ b o, s.heap.get? b = some o → h'.get? b = some o)) E) PySem.F.called_set.init.plain PySem.F.entry_set_init (check_set_init_1 isS ?_)) fun r₂ s₂ hr₂ => ?_
      · obtain ⟨ol, hol, hcl, nl, hdl⟩ := hl
        obtain ⟨ocls, odict, odata, oslots⟩ := ol
        simp only at hcl hdl
        subst hcl; subst hdl
        have hol' : (s.heap.push (newSetObj w)).get? l = some { cls := .type "list", dict := odict, data := .seq items nl, slots := oslots } := Heap.get?_push_of_some _ hol
        have q6 := PySem.F.sub_list_set
        have q7 := PySem.F.sub_list_frozenset
        have q8 : (Value.type "list" == Value.type "dict") = false := by decide
        have isl : (s.heap.push (newSetObj w)).IsList l items := ⟨_, hol', rfl, nl, rfl⟩
        unfold Builtin.«set.__init__» noKeywords Builtin.Frozenset.updateFrom
        generalize hPI : pyIter = PI
        wp_walk
        subst hPI
        refine wpAny_pyIter_list isl ?_
        refine wpAny_bind (wpAny_runValue ?_)
        have ltS : l < s.heap.objs.size := Heap.lt_size hol
        have hh3 : A.in1.in1.in1.handled = none := by simp [hh]
        have szS : (s.heap.push (newSetObj w)).objs.size = s.heap.objs.size + 1 := Heap.size_push ..
        have neI : l ≠ (s.heap.push (newSetObj w)).objs.size := by rw [szS]; exact Nat.ne_of_lt (Nat.lt_succ_of_lt ltS)
        have notin : s.heap.objs.size ∉ [(s.heap.push (newSetObj w)).objs.size, l] := by
          rw [szS]
          simp only [List.mem_cons, List.not_mem_nil, or_false, not_or]
          exact ⟨Nat.ne_of_lt (Nat.lt_succ_self _), Nat.ne_of_gt ltS⟩
        refine txt_loop ((Walks.list hh3 _ l neI items).toS) s.heap.objs.size notin xs isz hfew (fun i v hv => strsAre_nth hi i v (by rw [Array.getElem?_toList]; exact hv)) (items.size - 0) 0 _ (by omega) (Nat.zero_le _)
          ⟨⟨_, Heap.get?_push_size _ rfl, rfl, rfl⟩, (isl.push _)⟩ ⟨(#[], 0, .fresh 0 0 (!w.params.followText "set-order")), [], Heap.get?_push_of_some _ (show _ = some (sObj "set" _) from atS), TxR.fresh, fun x => by simp, by simp⟩ fun s2 D m mv g1 g2 g3 g4 => ?_
        obtain ⟨h2, e1, e2, tk, e3⟩ := s2
        have z1 : e1 = s.gens := mv.gens
        have z2 : e2 = s.drawn := mv.drawn
        have z3 : e3 = s.os := mv.os
        subst z1; subst z2; subst z3
        show wpAny _ _ _ _ _ _
        refine wpAny_pure ?_
        show wpAny _ _ (ret Value.none) _ _ _
        refine wpAny_pure ⟨rfl, h2, tk, D, m, rfl, g1, g2, g3, g4, fun b o e => ?_⟩
        have hb := Heap.lt_size e
        refine mv.heap b o ?_ (Heap.get?_push_of_some _ (Heap.get?_push_of_some _ e))
        rw [szS]
        simp only [List.mem_cons, List.not_mem_nil, or_false, not_or]
        exact ⟨Nat.ne_of_lt hb, Nat.ne_of_lt (Nat.lt_succ_of_lt hb)⟩
      · cases r₂ with
        | error e => exact hr₂
        | ok fl₂ =>
          cases fl₂ with
          | ret r =>
            obtain ⟨rfl, h2, tk, D, m, rfl, g1, g2, g3, g4, g5⟩ := hr₂
            repeat (any_goals (first | assumption | wp_step))
            exact h _ _ _ _ g1 g2 g3 g4 g5
          | _ => exact hr₂.elim
    | _ => exact hr.elim
def txtOf (v : Value) : Str := match v with | .str x _ => x | _ => default
theorem strs_txtOf : ∀ (l : List Value), (∀ v ∈ l, ∃ x t, v = Value.str x t) → StrsAre l (l.map txtOf)
  | [], _ => .nil
  | v :: l, h => by
    obtain ⟨x, t, rfl⟩ := h v List.mem_cons_self
    exact .cons x t (strs_txtOf l fun u hu => h u (List.mem_cons_of_mem _ hu))
/-- the rows of such a set -/
theorem TxOk.rows {D : SD} {l : List Str} (F : TxOk P w D l) : ∀ e ∈ D.1.toList, ∃ t, e.2 = Value.str (txtOf e.2) t := by
  intro e he
  obtain ⟨⟨k, hk, _⟩, _⟩ := F.el e he
  have hk : Value.isStrOf k e.2 = true := hk
  cases q : e.2 with
  | str x t => exact ⟨t, rfl⟩
  | _ => rw [q] at hk; simp [Value.isStrOf] at hk
theorem TxR.perm {D : SD} {l : List Str} (F : TxR P w D l) : ((D.1.toList.map (·.2)).map txtOf).Perm l := by
  have sub : ∀ x, x ∈ l → x ∈ (D.1.toList.map (·.2)).map txtOf := fun x hx => by
    obtain ⟨e, he, q⟩ := (F.ok.mem x).mp hx
    obtain ⟨t, ht⟩ := TxOk.rows F.ok e he
    rw [ht] at q
    have q : Value.isStrOf x (Value.str (txtOf e.2) t) = true := q
    have q : txtOf e.2 = x := by simpa [Value.isStrOf] using q
    rw [List.map_map]
    exact List.mem_map.mpr ⟨e, he, q⟩
  have sz : ((D.1.toList.map (·.2)).map txtOf).length = l.length := by
    rw [List.length_map, List.length_map, Array.length_toList]
    exact F.ok.sz
  exact perm_of_sub _ _ F.nd sub (Nat.le_of_eq sz)
/-- sorted(set), texts -/
theorem sorted_txt {a : Addr} {D : SD} {l : List Str} {Q : Value → Shared → Prop} (ho : s.heap.get? a = some (sObj "set" D)) (F : TxR P w D l) (hh : A.handled = none) (hb : l.length ≤ 4000)
    (h : ∀ s' p (out : Array Value) (c : Nat), (∀ b o, s.heap.get? b = some o → s'.heap.get? b = some o) → s'.gens = s.gens → s'.os = s.os → s.heap.objs.size ≤ p →
      s'.heap.get? p = some (seqObj "list" out c) → StrsAre out.toList (isort ltS l) → Q (.ref p) s') :
    wpAny (model P w) A (call (.builtin "sorted") [.ref a]) Q E s := by
  have sz : D.1.size = l.length := F.ok.sz
  refine Calls.call_function_entry kind_sorted plain_sorted entry_sorted (args_sorted1 _) ?_
  unfold Builtin.«sorted»
  refine wpAny_bind (m := checkCount "sorted" 1 1 _) (wpAny_pure ?_)
  refine wpAny_bind (collect_set (A := A.in1) (es := D.1) (ep := D.2.1) (t := D.2.2) hh ⟨_, ho, rfl, rfl⟩ F.ok.fit (by rw [sz]; unfold scanBound; omega) F.ris F.led fun s1 vs kp hz g1 o1 pm => ?_)
  have hvs : ∀ v ∈ vs, ∃ x t, v = Value.str x t := fun v hv => by
    obtain ⟨e, he, q⟩ := List.mem_map.mp (pm.mem_iff.mp hv)
    obtain ⟨t, ht⟩ := TxOk.rows F.ok e he
    exact ⟨_, t, by rw [← q]; exact ht⟩
  have hS := strs_txtOf vs hvs
  have pl : (vs.map txtOf).Perm l := (pm.map txtOf).trans F.perm
  have hlen : vs.length = l.length := by rw [← List.length_map (f := txtOf)]; exact pl.length_eq
  have hL : vs.length ≤ sizeLine := by rw [hlen, sizeLine_eq]; omega
  refine wpAny_bind (wpAny_newList ?_ hL)
  have atL : (s1.heap.push (seqObj "list" vs.toArray 0)).get? s1.heap.objs.size = some (seqObj "list" vs.toArray 0) := Heap.get?_push_size _ rfl
  refine wpAny_bind (wpAny_holding (wpAny_call_entry slot_list_sort ⟨_, atL, rfl⟩ entry_list_sort (list_sort_treeKAny strKind_oneLt atL hS.keysOf (fun v₁ v₂ rest e => keyKind_strs (by rw [← e]; exact hS)) hL fun st' hp hs => ⟨_, rfl, ?_⟩) (args_list_sort _)))
  obtain ⟨ys, h1, h2, h3⟩ := sorted_out_str hS hp hs
  obtain ⟨c, hc⟩ := sortedHeap_at (vs := vs) (out := (arrOf st').map (·.2)) atL
  rw [sorted_unique (h2.trans pl) h3] at h1
  refine wpAny_pure ⟨_, rfl, h _ s1.heap.objs.size _ c (fun b u e => ?_) g1 o1 hz hc h1⟩
  have q := kp b u e
  have lt := Heap.lt_size q
  show (sortedHeap (s1.heap.push (seqObj "list" vs.toArray 0)) s1.heap.objs.size vs ((arrOf st').map (·.2))).get? b = some u
  rw [sortedHeap_old (Nat.ne_of_lt lt) (by rw [size_push']; exact Nat.lt_succ_of_lt lt)]
  exact Heap.get?_push_of_some _ q
end
def SetX (P : Program) (w : World) (a : Addr) (l : List Str) : HO := .ext fun h => ∃ D m, h.get? a = some (sObj "set" D) ∧ TxR P w D m ∧ m.Perm l
theorem setX_new {P : Program} {w : World} {H : Hp} {h : Heap} {a : Addr} {l m : List Str} {D : SD} (ho : h.get? a = some (sObj "set" D)) (F : TxR P w D m) (pm : m.Perm l) : ObjOk P w H h a (SetX P w a l) :=
  ⟨⟨D, m, ho, F, pm⟩, ⟨_, ho⟩, fun h1 h2 p k => by
    obtain ⟨D', m', q1, q2⟩ := p
    exact ⟨D', m', k _ q1, q2⟩⟩
section
variable {X : Cx} {G : Gm} {E : XK} {d : Nat}
/-- set(xs), xs a list of texts -/
def rSetX (K : PySem.W.Frag) (P : Program) (w : World) : List V → Hp → VK → Prop := fun vs H Q => ∃ (l : Addr) (xs : List Str), vs = [V.ref l] ∧ SqL K H l (xs.map V.str) ∧ xs.length ≤ 4000 ∧ ∀ a, H a = none → Q (.ref a) (upd H a (SetX P w a (uniq xs)))
theorem cr_setX (hc : X.calm = true) : CallR X (.type "set") (rSetX X.K X.prog X.w) := by
  intro pins s σ H vs us Q I r h
  obtain ⟨l, xs, rfl, hl, hz, q⟩ := h
  rw [Vals.ref1 r]
  obtain ⟨its, rv, pl, _⟩ := I.list hl
  refine call_set_txt (P := X.prog) (w := X.w) xs (I.ok.hd hc) pl.isList (by simpa using strsAre_vals rv) hz fun h' tk D m g1 g2 g3 g4 k => ?_
  have pm : m.Perm (uniq xs) := (List.perm_ext_iff_of_nodup g2.nd (uniq_nodup xs)).mpr fun x => (g3 x).trans (uniq_mem x xs).symm
  exact ⟨.ref s.heap.objs.size, _, I.laid (t' := tk) k (Nat.le_refl _) (setX_new g1 g2 pm), rfl, q _ (I.hok.fresh (Nat.le_refl _))⟩
/-- sorted(set) -/
def rSortX (P : Program) (w : World) : List V → Hp → VK → Prop := fun vs H Q => ∃ (a : Addr) (l : List Str), vs = [V.ref a] ∧ H a = some (SetX P w a l) ∧ l.length ≤ 4000 ∧ ∀ p, H p = none → Q (.ref p) (upd H p (.lst ((isort ltS l).map V.str)))
theorem isort_congr {l m : List Str} (h : l.Perm m) : isort ltS l = isort ltS m :=
  List.Perm.eq_of_pairwise (fun a b _ _ h g => ltS_antisymm a b h g) (isort_pw ltS_asymm ltS_trans l) (isort_pw ltS_asymm ltS_trans m) (((isort_perm l).trans h).trans (isort_perm m).symm)
theorem cr_sortX (hc : X.calm = true) : CallR X (.builtin "sorted") (rSortX X.prog X.w) := by
  intro pins s σ H vs us Q I r h
  obtain ⟨a, l, rfl, ha, hz, q⟩ := h
  rw [Vals.ref1 r]
  obtain ⟨D, m, g1, g2, g3⟩ : ∃ D m, s.heap.get? a = some (sObj "set" D) ∧ TxR X.prog X.w D m ∧ m.Perm l := (I.hok a _ ha).1
  refine sorted_txt g1 g2 (I.ok.hd hc) (by rw [g3.length_eq]; exact hz) fun s' p out c k e1 e2 hp hg ho => ?_
  rw [isort_congr g3] at ho
  have hn : H p = none := I.hok.fresh hp
  have hlen : ((isort ltS l).map V.str).length ≤ sizeLine := by
    rw [List.length_map, (isort_perm l).length_eq, sizeLine_eq]
    omega
  have J : Inv X pins σ (upd H p (.lst ((isort ltS l).map V.str))) { s with heap := s'.heap, gens := s'.gens, drawn := s'.drawn, toks := s'.toks } :=
    I.call (ch := []) (Un.laid k hp hn) (I.hok.laid k hp ⟨hlen, out.toList, c, vals_of_strs ho, hg⟩) (by rw [e1]; exact I.bare) (fun _ z => nomatch z)
  have e : s' = { s with heap := s'.heap, gens := s'.gens, drawn := s'.drawn, toks := s'.toks } := by
    cases s'
    cases s
    cases e2
    rfl
  rw [e]
  exact ⟨.ref p, _, J, rfl, q p hn⟩
def sortXV (mt : Bool) : List Val → Store → Res Val := onL asS fun xs st => if xs.length ≤ 4000 then newL mt ((isort ltS (uniq xs)).map .str) st else .no
variable {e : Expr} {fs : Env → Store → Res (List Val)} {p1 p2 pos pos2 : Pos}
theorem se_sortX (cx : CxR X G d) {mt : Bool} (g1 : Gl X "sorted") (m1 : X.mg "sorted" = none) (g2 : Gl X "set") (m2 : X.mg "set" = none) (ha : PA X [e] (tA G E fs)) (h0 : notStar e = true) :
    PE X (.Call (.Name "sorted" p1) [.Call (.Name "set" p2) [e] [] pos2] [] pos) (tE G E fun σ st => (fs σ st).bnd (sortXV mt)) := by
  refine PE.imp (pe_callB (cr_sortX cx.calm) g1 m1 (by decide +kernel) (pa_cons (pe_callTy (cr_setX cx.calm) g2 m2 (by decide +kernel) ha (by decide) (by decide) (starEach_plain h0) (noStars_any rfl)) pa_nil (by rfl)) (by decide) (by decide) (by rfl) (by rfl)) fun σ H Q h => ?_
  obtain ⟨F, m, σe, st, S, rs, h⟩ := h
  refine ⟨F, m, σe, st, S, rs, h.bnd.mono fun ws st1 F1 m1 H1 S1 e1 h1 zs rz => ?_⟩
  obtain ⟨a, as, _, rfl, sq, _, _, h1⟩ := onL_ok (k := V.str) (fun n => asS_rep) S1 rz h1
  rw [← cx.K] at sq
  split at h1
  · rename_i hz
    refine ⟨a, as, rfl, sq, hz, fun q hq => ?_⟩
    obtain ⟨S2, e2⟩ := S1.frz hq (SetX X.prog X.w q (uniq as))
    refine ⟨q, uniq as, rfl, upd_same, Nat.le_trans (uniq_len as) hz, fun p hp => ?_⟩
    exact fin_newL S2 (repL_strs _) hp (h1.pull (st := st1) e2)
  · exact h1.elim
end
end Mi

/-! Mi, part n2: repr of tuples and lists, in a law whose call stands under no other repr. -/
namespace Mi
open PySem PySem.Spec PyProof.Rows L2
/-- the promise of the law's own def, where no guard stands around -/
structure FnG (P : Program) (w : World) (K : PySem.W.Frag) (mg : Str → Option Value) (base : Heap) (k : Nat) (f : Addr) (fd : FuncData) (ps : List Str) (sp : Sp) : Prop where
  go : ∀ (A : Around) (outer : List PySem.Env) (s : Shared) (H : Hp) (args : Args) (us : List Value) (vs : List V) (Q : VK), A.guards = some [] → Room k A → Env0 P w K mg base A outer s H → BindsTo s fd args (ps.zip us) → Vals vs us → sp vs H Q E0 →
    codeAny (model P w) A (.call (.ref f) args) (CR CX0 outer P w H s Q E0) s
section
variable {P : Program} {w : World} {mg : Str → Option Value} {base : Heap} {K : PySem.W.Frag} {x qual : Str} {st : Stmt} {dV : Value} {f : Addr} {fd : FuncData} {N ps : List Str} {k : Nat} {sp : Sp}
theorem MFun.okG (Fn : MFun K x qual st dV f fd) (S : FnScope N ps (defScope st)) (len : ∀ vs H Q E, sp vs H Q E → vs.length = ps.length)
    (hbody : ∀ (cdv : Value) (A : Around) (outer : List PySem.Env) (s : Shared) (H : Hp) (vs : List V) (Q : VK), A.guards = some [] → Room k (A.deeper (envOfC qual (defScope st) s.heap.objs.size f cdv)) → sp vs H Q E0 →
      ∃ t, PSs (cxOf CX0 P w K mg base N qual (defScope st) f cdv A outer s H E0).nox (defBody st) t ∧ t { nx := fun _ H' => Q .non H', rt := Q } (start N vs) H) : FnG P w K mg base (k + 1) f fd ps sp := by
  obtain ⟨oc, od, kV, doc, pm, an, cdv, ct, osl, rfl, lk, hcd⟩ := Fn.ex
  constructor
  intro A outer s H args us vs Q hg hr e0 hb rv hsp
  obtain ⟨t, body, q⟩ := hbody cdv A outer s H vs Q hg (hr.deeper _) hsp
  have same : ∀ b o, base.get? b = some o → s.heap.get? b = some o := fun b o e => (e0.bs b o e).1
  have inK := e0.mod.kin.keeps same
  have kinds : ∀ y ∈ ps.zip us, (defScope st).names.lookup y.1 = some .local ∨ ((defScope st).names.lookup y.1 = some .cell ∧ ((cellsFrom (s.heap.objs.size + 1) (defScope st).names []).lookup y.1).isSome = true) := by
    rintro ⟨n, v⟩ hy
    exact (S.par n (List.of_mem_zip hy).1).imp id fun z => ⟨z, PySem.W.cellsFrom_some _ _ _ (.inl z)⟩
  refine codeAny_call_function hr.depth (inK _ _ lk) rfl S.co S.gen rfl (PySem.W.codeRec_of inK hcd) (hb _ _ _ _ (wpAny_newFunctionEnv_cells S.kind kinds fun env he s1 made => ?_))
  subst he
  have I : Inv (cxOf CX0 P w K mg base N qual (defScope st) f cdv A outer s H E0) [] (start N vs) H s1 := inv_start S hr.hd e0 (len _ _ _ _ hsp) rv made
  refine ⟨(e0.mod.nolimit.keeps same).keeps made.toInCall.keep, codeAny_func (wpAny_mono (body.nox.run [] s1 (start N vs) H _ I q) (fun fl s' hs => ?_) fun _ _ z => z)⟩
  cases fl with
  | ret u => obtain ⟨v, _, H', J, r, q⟩ := hs; exact ⟨v, H', J.os, J.bare, J.base, J.hok, r, q⟩
  | next => obtain ⟨_, H', J, q⟩ := hs; exact ⟨.non, H', J.os, J.bare, J.base, J.hok, rfl, q⟩
  | brk => obtain ⟨_, _, _, q⟩ := hs; exact q.elim
  | cont => obtain ⟨_, _, _, q⟩ := hs; exact q.elim
end
section
variable {P : Program} {w : World} {K : PySem.W.Frag} {mg mb : Str → Option Value} {k : Nat} {fa a : Addr} {fd : FuncData} {x : Str} {sp : Sp} {s₁ : Shared} {vs : List Value} {ns : List Int}
/-- the call, H the tracked part: at most the script -/
theorem head_core {H : Hp} (KX : K.In s₁.heap) (hns : s₁.heap.Ns mainGlobals mg) (hb : s₁.heap.Ns builtinsNs mb) (hbb : ∀ x : Str, x ≠ "__name__" → mb x = bootBuiltins x) (hlim : s₁.heap.NoLimit) (hg : s₁.gens = #[])
    (ha : s₁.heap.get? a = some { cls := .type "list", data := .seq vs.toArray }) (hr : Room k callerA) (F : ∀ base : Heap, K.In base → base.Ns mainGlobals mg → FnG P w K mg base k fa fd [x] sp) (hbind : ∀ (s : Shared) (u : Value), BindsTo s fd ⟨[u], []⟩ [(x, u)])
    (hO : L2.Only H) (hok : HOk P w H s₁.heap) (hA : ∀ b, b ≠ a → H b = none) (hK : H a = none ∨ K.lookup a = none) (hsp : sp [.ref a] H (fun v _ => v = .bl true) E0) :
    codeAny (model P w) callerA (.call (.ref fa) ⟨[.ref a], []⟩) (fun r s' => r = .ok (.ret (.bool true)) ∧ OldK s₁.heap s'.heap ∧ s'.os = s₁.os ∧ AllBare s'.gens) s₁ := by
  have nm : ∀ {b : Addr} {m : Str → Option Value}, s₁.heap.Ns b m → (hidT s₁.heap H).Ns b m := by
    rintro b m ⟨o, es, ep, e, d, r⟩
    refine ⟨o, es, ep, hidT_get e (hA b fun z => ?_), d, r⟩
    rw [z, ha] at e
    cases e
    cases d
  have kin : K.In (hidT s₁.heap H) := by
    intro b o e
    refine hidT_get (KX b o e) ?_
    by_cases z : b = a
    · subst z
      rcases hK with z | z
      · exact z
      · rw [z] at e; cases e
    · exact hA b z
  have hM : Mod K mg (hidT s₁.heap H) := by
    obtain ⟨mc, l1, l2⟩ := hlim
    exact ⟨kin, nm hns, ⟨mb, nm hb, hbb⟩, ⟨mc, nm l1, l2⟩⟩
  have e0 : Env0 P w K mg (hidT s₁.heap H) callerA [] s₁ H := ⟨rfl, hM, fun b o e => of_hidT e, Nat.le_of_eq (hidT_size _ _), trivial, (fun b hb => by cases hb), hok, .of_eq hg⟩
  have run := (F _ kin (nm hns)).go callerA [] s₁ H ⟨[.ref a], []⟩ [.ref a] [.ref a] _ rfl hr e0 (hbind s₁ (.ref a)) (.cons rfl .nil) hsp
  refine codeAny_mono run fun r s' h => ?_
  match r, h with
  | .ok (.ret u), h =>
    obtain ⟨v, H', os, bare, un, hok', rel, e⟩ := h
    have e : v = .bl true := e
    subst e
    cases (show u = Value.bool true from rel)
    refine ⟨rfl, OldK.of_keep fun b o e => ?_, os, bare⟩
    rcases hO b with z | ⟨ob, xs, z⟩
    · exact un.keep b o e z (fun q => by cases q) (by simp)
    · obtain ⟨e1, _⟩ := hok b _ z
      obtain ⟨e2, _⟩ := hok' b _ (un.frzs b ob _ z)
      rw [e] at e1
      cases e1
      exact e2
theorem head_call (KX : K.In s₁.heap) (hns : s₁.heap.Ns mainGlobals mg) (hb : s₁.heap.Ns builtinsNs mb) (hbb : ∀ x : Str, x ≠ "__name__" → mb x = bootBuiltins x) (hlim : s₁.heap.NoLimit) (hg : s₁.gens = #[])
    (ha : s₁.heap.get? a = some { cls := .type "list", data := .seq vs.toArray }) (hi : IntsAre vs ns) (hl : ns.length ≤ sizeLine) (hr : Room k callerA)
    (F : ∀ base : Heap, K.In base → base.Ns mainGlobals mg → FnG P w K mg base k fa fd [x] sp) (hbind : ∀ (s : Shared) (u : Value), BindsTo s fd ⟨[u], []⟩ [(x, u)])
    (hsp : ∀ H : Hp, L2.Only H → SqL K H a (ns.map V.int) → sp [.ref a] H (fun v _ => v = .bl true) E0) :
    codeAny (model P w) callerA (.call (.ref fa) ⟨[.ref a], []⟩) (fun r s' => r = .ok (.ret (.bool true)) ∧ OldK s₁.heap s'.heap ∧ s'.os = s₁.os ∧ AllBare s'.gens) s₁ := by
  have rv := vals_ints hi
  cases hk : K.lookup a with
  | some o =>
    have e := KX a o hk
    rw [ha] at e
    cases e
    have hO : L2.Only (fun _ => none : Hp) := fun _ => .inl rfl
    refine head_core (H := fun _ => none) KX hns hb hbb hlim hg ha hr F hbind hO (fun b u z => by cases z) (fun _ _ => rfl) (.inl rfl) (hsp _ hO ?_)
    exact .inr ⟨_, vs.toArray, _, hk, rfl, rfl, rfl, by rw [List.size_toArray, hi.length]; exact hl, by simpa using rv⟩
  | none =>
    generalize hu : HO.frz { cls := .type "list", data := .seq vs.toArray } (.lst (ns.map V.int)) = u
    have at_ : upd (fun _ => none : Hp) a u a = some u := upd_same
    have off : ∀ b, b ≠ a → upd (fun _ => none : Hp) a u b = none := fun b h => upd_ne h
    have hO : L2.Only (upd (fun _ => none : Hp) a u) := fun b => by
      by_cases h : b = a
      · subst h; exact .inr ⟨_, _, by rw [at_, ← hu]⟩
      · exact .inl (off b h)
    refine head_core (H := upd (fun _ => none) a u) KX hns hb hbb hlim hg ha hr F hbind hO (fun b o z => ?_) off (.inr hk) (hsp _ hO (.inl (.inr ⟨_, by rw [at_, ← hu]⟩)))
    by_cases h : b = a
    · subst h
      rw [at_] at z
      cases z
      subst hu
      exact ⟨ha, by rw [List.length_map]; exact hl, vs, _, rv, ha⟩
    · rw [off b h] at z
      cases z
end
theorem walk_ofG {l : PySem.W.OpenLaw} {n k : Nat} {q : Program} {loose : List Str} {XP : (Str → Option Value) → Heap → Prop} {YP : World → Heap → Prop} {d : DefRec} {K : Params → PySem.W.Frag} {sp : World → Sp} {x : Str}
    (hn : l.most = some n) (hn2 : n ≤ sizeLine) (hdf : d.params.defaults = []) (hr : Room k callerA)
    (hY : ∀ (w : World) (h : Heap), YP w h → (K w.params).In h)
    (F : ∀ (w : World) (mg : Str → Option Value) (fa : Addr) (h : Heap), (K w.params).In h → h.Ns mainGlobals mg → mg d.name = some (.ref fa) →
      ∃ fd : FuncData, (∀ (s : Shared) (u : Value), BindsTo s fd ⟨[u], []⟩ [(x, u)]) ∧ ∀ base : Heap, (K w.params).In base → base.Ns mainGlobals mg → FnG l.prog w (K w.params) mg base k fa fd [x] (sp w))
    (hsp : ∀ (w : World) (H : Hp) (a : Addr) (ns : List Int), ns.length ≤ n → L2.Only H → SqL (K w.params) H a (ns.map V.int) → sp w [.ref a] H (fun v _ => v = .bl true) E0) :
    PySem.W.WalkO q loose XP YP l.row.toRowW d [] (fun f vs => PySem.call f vs) :=
  Att.attach_call hn hdf fun w _ _ mg _ fa _ _ _ _ a _ ns G Y _ _ _ hmg hobj hints hlen hg => by
    obtain ⟨fd, hb, hF⟩ := F w mg fa _ (hY w _ Y) G.T.g hmg
    exact head_call (hY w _ Y) G.T.g G.T.b G.T.builtins G.T.nolimit hg hobj hints (Nat.le_trans hlen hn2) hr hF hb fun H hO hS => hsp w H a ns hlen hO hS
/-! ### the law's def by the evaluator -/
def spG (G : Gm) (np N : Nat) (body : Env → Store → Res (Fw × Env)) : Sp := fun vs H Q _ => vs.length = np ∧ ∃ F m ws, Sim G F m [] H ∧ RepL G F m 0 ws vs ∧ After G E0 F m 0 H (body (startE N ws) []) (fun r st' F' m' H' => ∃ v, retOf r.1 = some v ∧ ∀ z, Rep G F' m' st'.length v z → Q z H')
theorem fn_okG {P : Program} {w : World} {base : Heap} {G : Gm} {mg : Str → Option Value} {x qual : Str} {dV : Value} {st : Stmt} {f : Addr} {fd : FuncData} {N ps : List Str} {k : Nat} {body : Env → Store → Res (Fw × Env)} (Fn : MFun G.K x qual st dV f fd) (S : FnScope N ps (defScope st))
    (hb : ∀ (cdv : Value) (A : Around) (outer : List PySem.Env) (s : Shared) (H : Hp) (E : XK), A.guards = some [] → Room k (A.deeper (envOfC qual (defScope st) s.heap.objs.size f cdv)) → PSs (cxOf CX0 P w G.K mg base N qual (defScope st) f cdv A outer s H E).nox (defBody st) (tS G E0 body)) :
    FnG P w G.K mg base (k + 1) f fd ps (spG G ps.length N.length body) := by
  refine Fn.okG S (fun vs H Q E h => h.1) (fun cdv A outer s H vs Q hg hr h => ⟨_, hb cdv A outer s H E0 hg hr, ?_⟩)
  obtain ⟨hl, F, m, ws, S0, r0, h⟩ := h
  refine ⟨F, m, startE N.length ws, [], S0, repS_start r0, h.mono fun rr st1 F1 m1 H1 S1 e1 h1 => ?_⟩
  obtain ⟨fw, σ1⟩ := rr
  obtain ⟨v, hv, h1⟩ := h1
  cases fw with
  | nx => exact fun σ' _ => h1 .non (by cases hv; exact rep_non)
  | ret u => exact fun z rz => h1 z (by cases hv; exact rz)
  | brk => cases hv
  | ct => cases hv
theorem callV_bl {np N : Nat} {body : Env → Store → Res (Fw × Env)} {ws : List Val} {b : Bool} (h : callV np false N body ws [] = .ok (.bl b) []) (hz : Val.blwL 0 ws = true) : ∃ r st1, body (startE N ws) [] = .ok r st1 ∧ retOf r.1 = some (.bl b) := by
  unfold callV at h
  split at h
  · cases q : body (startE N ws) [] with
    | ok r st1 =>
      rw [q] at h
      dsimp only at h
      cases q2 : retOf r.1 with
      | none => rw [q2] at h; cases h
      | some v =>
        rw [q2] at h
        dsimp only at h
        unfold finV at h
        split at h
        · cases h; exact ⟨r, st1, rfl, q2⟩
        · exfalso
          revert h
          cases v <;> simp <;> (repeat' split) <;> simp
    | exc e st1 => rw [q] at h; cases h
    | no => rw [q] at h; cases h
  · cases h
/-! ### repr -/
def reprDV : List Val → Store → Res Val := fun vs st => match vs with
  | [.bl b] => reprV [.bl b] st
  | [v] => match seqOf st v, dat st 12 v with
    | some _, some d => if d.showable && decide (d.shown.length ≤ lim) then .ok (.str d.shown) st else .no
    | _, _ => .no
  | _ => .no
section
variable {X : Cx} {G : Gm} {E : XK} {d : Nat}
theorem reprD_ok (cx : CxR X G d) (hgd : X.A.guards = some []) : CallR X (.builtin "repr") (rVL G E reprDV) := by
  intro pins s σ H xs us Q I r h
  obtain ⟨F, m, st, vs, S, rv, h⟩ := h
  unfold reprDV at h
  split at h
  · exact repr_ok pins s σ H xs us Q I r ⟨F, m, st, _, S, rv, h⟩
  · rename_i v _
    split at h
    · rename_i ys dd hsq hdt
      split at h
      · rename_i hc
        rw [Bool.and_eq_true] at hc
        have hsh := hc.1
        have hln : dd.shown.length ≤ lim := of_decide_eq_true hc.2
        obtain ⟨z, rfl, rz⟩ := repL1 rv
        obtain ⟨a, zs, rfl, _, _⟩ := S.seq rz hsq
        obtain ⟨dp, cl, dl⟩ := dat_dp S 12 v _ dd rz hdt
        rw [← cx.K] at dp
        rw [Vals.ref1 r]
        obtain ⟨as, rd⟩ := Dp.reads I dd (.ref a) (.ref a) dp rfl
        have hu := cx.u65
        exact PySem.repr_of_reads' rd hsh (PyData.noDict_hsm (PyData.hasDict_of_canLay dd cl)) hgd (by omega) (fun _ _ e => e) (fun h' u tk k => ⟨.str _, H, I.kept (t' := tk) k, ⟨u, rfl⟩, h.here S _ rep_str⟩) (lim_le hln)
      · exact h.elim
    · exact h.elim
  · exact h.elim
end
end Mi

/-! Mi, part n3: try over any one statement; errors out of calls within a def, out of making an instance. -/
namespace Mi
open PySem PySem.Spec PyProof.Rows L2
section
variable {X : Cx} {G : Gm} {E : XK} {k : Nat} {f C : Addr} {fd : FuncData} {ps : List Str} {run : List Val → Store → Res Val} {x : Str} {p pos : Pos} {e : Expr} {es : List Expr} {fs : Env → Store → Res (List Val)}
/-- a call of a def that may let an error out, in such a def -/
theorem e_callX (tk : Takes X (fun cls d _ H => E cls d H)) (F : FnOk X.prog X.w X.K X.mg X.base (L2.CX X.prog X.w) k f fd ps (spF G run)) (hr : Room k X.A) (hg : Gl X x) (hm : X.mg x = some (.ref f)) (hk : PySem.W.keepIn X.K (.ref f) = true) (hb : Binds X.K fd ps [])
    (ha : PA X (e :: es) (tA G E fs)) (h0 : notStar e = true) (h1 : noStars es = true) (hdb : (x == ("__debug__" : Str)) = false := by decide) :
    PE X (.Call (.Name x p) (e :: es) [] pos) (tE G E fun σ st => (fs σ st).bnd run) := by
  refine PE.imp (pe_callS (E := fun σ => WE (fun cls d _ H => E cls d H) σ) F hr hg hm hk hb (fun σ => passAt tk σ) ha hdb (starEach_plain h0) (noStars_any h1)) fun σ H Q h => ?_
  obtain ⟨F, m, σe, st, S, rs, h⟩ := h
  exact ⟨F, m, σe, st, S, rs, h.bnd.mono fun ws st1 F1 m1 H1 S1 e1 h1 zs rz => ⟨F1, m1, st1, ws, S1, rz, h1⟩⟩
/-- .. in the body of a try -/
theorem tc_call {W : WX} (tk : Takes X W) (F : FnOk X.prog X.w X.K X.mg X.base (L2.CX X.prog X.w) k f fd ps (spF G run)) (hr : Room k X.A) (hg : Gl X x) (hm : X.mg x = some (.ref f)) (hk : PySem.W.keepIn X.K (.ref f) = true) (hb : Binds X.K fd ps [])
    (ha : PA X (e :: es) (tA G E0 fs)) (h0 : notStar e = true) (h1 : noStars es = true) (hdb : (x == ("__debug__" : Str)) = false := by decide) :
    PE X (.Call (.Name x p) (e :: es) [] pos) (fun σ H Q => tE G (WE W σ) (fun σ st => (qX (fs σ st)).bnd run) σ H Q) := by
  refine PE.imp (pe_callS F hr hg hm hk hb (fun σ => passAt tk σ) ha hdb (starEach_plain h0) (noStars_any h1)) fun σ H Q h => ?_
  obtain ⟨F, m, σe, st, S, rs, h⟩ := h
  exact ⟨F, m, σe, st, S, rs, h.bnd.qX.mono fun ws st1 F1 m1 H1 S1 e1 h1 zs rz => ⟨F1, m1, st1, ws, S1, rz, h1⟩⟩
/-! ### making an instance -/
theorem run_makeS {pins : List (Addr × Obj)} {σ : L2.St} {H : Hp} {s : Shared} {Q : VK} {us : List Value} {vs dvs : List V} {ds : List Value} {sp : Sp} {CX : CXT} {E : XK} (M : Mk X.K C f) (F : FnOk X.prog X.w X.K X.mg X.base CX k f fd ps sp) (hr : Room (k + 1) X.A) (hb : Binds X.K fd ps ds) (hd : Vals dvs ds)
    (hx : ∀ (H : Hp) (s : Shared) (e : Value) (s' : Shared), Inv X pins σ H s → CX X.stack H s E e s' → X.xe e s') (I : Inv X pins σ H s) (r : Vals vs us)
    (h : ∀ y dx, H y = none → H dx = none → dx ≠ y → sp (.ref y :: (vs ++ dvs)) (upd (upd H dx (.own y)) y (.ins C dx [])) (fun v H2 => v = .non ∧ Q (.ref y) H2) E) : wpAny (model X.prog X.w) X.A (call (.ref C) us) (EP X pins σ Q) X.xe s := by
  have J := Inv.made (C := C) I
  have want := h (s.heap.objs.size + 1) s.heap.objs.size (I.hok.fresh (Nat.le_succ _)) (I.hok.fresh (Nat.le_refl _)) (Nat.ne_of_lt (Nat.lt_succ_self _))
  have rv : Vals (V.ref (s.heap.objs.size + 1) :: (vs ++ dvs)) (Value.ref (s.heap.objs.size + 1) :: (us ++ ds)) := .cons rfl (r.append hd)
  have len : (Value.ref (s.heap.objs.size + 1) :: us ++ ds).length = ps.length := (rv.length.symm.trans (F.len _ _ _ _ want))
  have go := F.run _ X.stack _ _ ⟨Value.ref (s.heap.objs.size + 1) :: us, []⟩ (Value.ref (s.heap.objs.size + 1) :: (us ++ ds)) _ _ E (hr.make C us []) (J.env0.make C us []) (hb _ (Value.ref (s.heap.objs.size + 1) :: us) J.kIn len) rv want
  refine wpAny_call (make_map (f := f) I.kIn M.makes M.init (beq_iff_eq.mp M.fn) (codeAny_mono go fun r s' hq => ?_))
  match r, hq with
  | .error e, hq => exact hx _ _ e s' J hq
  | .ok (.ret u), hq =>
    obtain ⟨v, H', I3, rv, ev, q3⟩ := J.after hq
    subst ev
    exact ⟨rv, V.ref (s.heap.objs.size + 1), H', I3, rfl, q3⟩
def makeX (c : Nat) (run : List Val → Store → Res Val) (ws : List Val) (st : Store) : Res Val := match run (.ref st.length :: ws) (st ++ [.ins c []]) with
  | .ok v st1 => (match v with | .non => .ok (.ref st.length) st1 | _ => .no)
  | .exc e st1 => .exc e st1
  | .no => .no
theorem makeX_t {F : Hp} {m : Nat → Addr} {st : Store} {H : Hp} {Q : VK} {c : Nat} {ws : List Val} {zs : List V} (S : Sim G F m st H) (rz : RepL G F m st.length ws zs) (h : After G E F m st.length H (makeX c run ws st) (KV G Q)) :
    ∀ y dx, H y = none → H dx = none → dx ≠ y → spF G run (.ref y :: zs) (upd (upd H dx (.own y)) y (.ins (G.cad c) dx [])) (fun v H2 => v = .non ∧ Q (.ref y) H2) E := by
  intro y dx hy hdx hne
  have hy1 : upd H dx (.own y) y = none := by rw [upd_ne (Ne.symm hne)]; exact hy
  have S1 : Sim G F m st (upd H dx (.own y)) := S.other (S.free hdx) (fun i hi => S.ne hdx hi) _
  have e1 : Ext F m st.length H F m st.length (upd H dx (.own y)) := Ext.refl.other hdx _
  obtain ⟨S2, e2⟩ := S1.push (o := .ins c []) (u := .ins (G.cad c) dx []) hy1 ⟨dx, [], rfl, by unfold RepF; rfl⟩
  refine ⟨F, _, st ++ [.ins c []], .ref st.length :: ws, S2, RepL.cons ?_ ((rz.up e1).up e2), ?_⟩
  · unfold Rep
    exact ⟨by simp, by rw [if_pos rfl]⟩
  · unfold makeX at h
    have e12 := e1.trans e2
    cases q : run (.ref st.length :: ws) (st ++ [.ins c []]) with
    | no => rw [q] at h; exact h.elim
    | exc ex st1 =>
      rw [q] at h
      exact fun F3 m3 H3 d vs S3 e3 => h F3 m3 H3 d vs S3 (e12.trans e3)
    | ok v st1 =>
      rw [q] at h
      intro F3 m3 H3 S3 e3 z rz3
      dsimp only at h
      cases v with
      | non =>
        unfold Rep at rz3
        subst rz3
        refine ⟨rfl, h F3 m3 H3 S3 (e12.trans e3) _ ?_⟩
        have hl : st.length < (st ++ [Ob.ins c []]).length := by simp
        unfold Rep
        exact ⟨Nat.lt_of_lt_of_le hl e3.le, by rw [e3.mp st.length hl, if_pos rfl]⟩
      | _ => exact h.elim
theorem tc_make {W : WX} {c : Nat} {dvs : List V} {ds : List Value} {dfl : List Val} (tk : Takes X W) (M : Mk X.K (G.cad c) f) (F : FnOk X.prog X.w X.K X.mg X.base (L2.CX X.prog X.w) k f fd ps (spF G run)) (hr : Room (k + 1) X.A) (hg : Gl X x) (hm : X.mg x = some (.ref (G.cad c))) (hb : Binds X.K fd ps ds) (hd : Vals dvs ds) (hrep : ∀ F m n, RepL G F m n dfl dvs)
    (ha : PA X (e :: es) (tA G E0 fs)) (h0 : notStar e = true) (h1 : noStars es = true) (hdb : (x == ("__debug__" : Str)) = false := by decide) :
    PE X (.Call (.Name x p) (e :: es) [] pos) (fun σ H Q => tE G (WE W σ) (fun σ st => (qX (fs σ st)).bnd fun ws st => makeX c run (ws ++ dfl) st) σ H Q) := by
  refine ⟨fun pins s σ H Q I h => ?_⟩
  obtain ⟨F0, m, σe, st, S, rs, h⟩ := h
  have hq : tA G E0 fs σ H fun vs H1 => ∀ y dx, H1 y = none → H1 dx = none → dx ≠ y → spF G run (.ref y :: (vs ++ dvs)) (upd (upd H1 dx (.own y)) y (.ins (G.cad c) dx [])) (fun v H2 => v = .non ∧ Q (.ref y) H2) (WE W σ) :=
    ⟨F0, m, σe, st, S, rs, h.bnd.qX.mono fun ws st1 F1 m1 H1 S1 e1 h1 zs rz => makeX_t S1 (rz.append (hrep F1 m1 _)) h1⟩
  refine wpAny_Call_Name_kw (ld_glob I hg hm ?_ hdb)
  refine PySem.W.callWith_K (h₀ := X.base) I.ok.mod.kin M.kp (thn (ha.run pos pins s σ H _ I hq) fun us s1 ⟨vs, H1, I1, r, q⟩ => ⟨I1.kIn, ?_⟩) (starEach_plain h0) (noStars_any h1)
  exact run_makeS (CX := L2.CX X.prog X.w) (E := WE W σ) M F hr hb hd (fun H s e s' I c => passAt tk σ pins H s e s' I c) I1 r q
/-! ### one statement, its errors by the slots ahead of it -/
variable {a : Expr} {fa : Env → Store → Res Val} {Ew : L2.St → XK} {p2 : Pos}
theorem s_exprS (ha : PE X a (fun σ H Q => tE G (Ew σ) fa σ H Q)) (hs : swapsWith a none pos.line X.env = pure false) : PS X (.Expr a pos) (fun D σ H => tS G (Ew σ) (fun σ st => (fa σ st).bnd fun _ st => .ok (.nx, σ) st) D σ H) := by
  refine PS.imp (ps_expr ha hs) fun D σ H h => ?_
  obtain ⟨F, m, σe, st, S, rs, h⟩ := h
  exact ⟨F, m, σe, st, S, rs, h.bnd.mono fun v st1 F1 m1 H1 S1 e1 h1 x rx => h1 F1 m1 H1 S1 Ext.refl σ (rs.up e1)⟩
theorem s_setS {i : Nat} (hN : X.N.Nodup) (hi : X.N[i]? = some x) (hx : Loc X.env.scope x) (hf : X.fn x = true ∨ X.env.scope.names.lookup x = some .local) (ha : PE X a (fun σ H Q => tE G (Ew σ) fa σ H Q)) (hs : swapsWith a (some (.Name x p2)) pos.line X.env = pure false) :
    PS X (.Assign [.Name x p2] a pos) (fun D σ H => tS G (Ew σ) (fun σ st => (fa σ st).bnd (asgS (.nm i) σ)) D σ H) := by
  refine PS.imp (ps_set hN hi hx ha hs hf) fun D σ H h => ?_
  obtain ⟨F, m, σe, st, S, rs, h⟩ := h
  refine ⟨F, m, σe, st, S, rs, h.bnd.mono fun v st1 F1 m1 H1 S1 e1 h1 y ry => ?_⟩
  unfold asgS asg at h1
  split at h1
  · rename_i σ' ha
    split at ha
    · cases ha
      exact h1 F1 m1 H1 S1 Ext.refl _ ((rs.up e1).set ry)
    · cases ha
  · exact h1.elim
end
/-! ### try -/
def tryE (i c : Nat) (fb : Env → Store → Res (Fw × Env)) (fsu : Fl → Env → Store → Res (Fw × Env)) : Env → Store → Res (Fw × Env) := fun σ st => match fb σ st with
  | .ok r st1 => .ok r st1
  | .exc e st1 => if e.c = c ∧ i < σ.length then (fsu e.fs (σ.set i none) st1).bnd fun r st => .ok (clrF i r) st else .no
  | .no => .no
section
variable {X : Cx} {G : Gm} {i c : Nat} {cn n : Str} {fb : Env → Store → Res (Fw × Env)} {fsu : Fl → Env → Store → Res (Fw × Env)} {body : List Stmt} {b₀ : Stmt} {suite : List Stmt} {np pos' pos : Pos}
theorem s_tryE (hs : X.stack = X.env :: X.outer) (hf : X.env.frame = some X.env.locals) (hN : X.N.Nodup) (hi : X.N[i]? = some n) (hln : X.env.kindOf n = some .local) (hc : Names X cn (.ref (G.cad c))) (hcc : PySem.W.exmOne X.K (.ref (G.cad c)) (.ref (G.cad c)) = some true)
    (hb : ∀ (W : WX) (pn : List (Addr × Obj)) (xe : Value → Shared → Prop), Takes (X.tr pn xe) W → PSs (X.tr pn xe) body (fun D σ H => tS G (WE W σ) fb D σ H))
    (hsu : ∀ (a dd : Addr) (oe : Obj) (pn : List (Addr × Obj)), Zc (.ref (G.cad c)) (some dd) oe → (∃ vs, oe.data = .fields vs) → PSs (X.suite a ((a, oe) :: pn)) (b₀ :: suite) (tSX G i a dd fsu)) :
    PS X (.Try body [.ExceptHandler (some (.Name cn np)) (some n) (b₀ :: suite) pos'] [] [] pos) (tS G E0 (tryE i c fb fsu)) := by
  refine PS.imp (ps_try_as (Wout := fun _ _ _ _ => False) (tb := fun W => fun D σ H => tS G (WE W σ) fb D σ H) (ts := fun a cls d => fun D σ H => ∃ dd, cls = .ref (G.cad c) ∧ d = some dd ∧ tSX G i a dd fsu D σ H) hs hf hN hi hln hc
    (fun u s' ⟨_, _, _, _, _, _, _, _, _, _, _, _, _, _, _, _, w⟩ => w.elim) (fun W pn xe tk _ => hb W pn xe tk) (fun a oe cls d pn hz hfl => ?_)) fun D σ H h => ?_
  · exact ⟨fun pins s σ H D I h => by
      obtain ⟨dd, rfl, rfl, h⟩ := h
      exact (hsu a dd oe pn hz hfl).run pins s σ H D I h⟩
  · obtain ⟨F, m, σe, st, S, rs, h⟩ := h
    refine ⟨F, m, σe, st, S, rs, ?_⟩
    unfold tryE at h
    cases q : fb σe st with
    | no => rw [q] at h; exact h.elim
    | ok r st1 => rw [q] at h; exact h
    | exc ex st2 =>
      rw [q] at h
      dsimp only at h
      split at h
      case isFalse => exact h.elim
      rename_i hcx
      obtain ⟨hcx, hil⟩ := hcx
      intro F2 m2 H2 d vs S2 e2 hd rf
      rw [hcx]
      refine ⟨true, hcc, fun _ a na => ⟨d, rfl, rfl, F2, m2, σe.set i none, st2, ex.fs, vs, S2, (rs.up e2).clr, ?_, hd, rf, ?_⟩, fun z => by cases z⟩
      · rw [List.getElem?_set_self (by rw [← rs.1]; exact hil)]
      · refine (h.pull (st := st2) e2).bnd.mono fun r st3 F3 m3 H3 S3 e3 h3 => ?_
        have h3 := h3 F3 m3 H3 S3 Ext.refl
        obtain ⟨r, σ'⟩ := r
        cases r with
        | nx => exact fun σ2 rs2 => h3 _ rs2.clr
        | brk => exact fun σ2 rs2 => h3 _ rs2.clr
        | ct => exact fun σ2 rs2 => h3 _ rs2.clr
        | ret v => exact h3
end
section
variable {X : Cx} {G : Gm} {i : Nat} {a dd : Addr} {e1 e2 : Expr} {pos : Pos} {f g : Fl → Env → Store → Res Val}
theorem x_tup2 {kt : Nat} (ha : PE X e1 (tEX G i a dd f)) (hb : PE X e2 (tEX G i a dd g)) (h0 : notStar e1 = true) (h1 : notStar e2 = true) : PE X (.Tuple [e1, e2] kt pos) (tEX G i a dd fun fs σ st => (f fs σ st).bnd fun v st => (g fs σ st).bnd fun u st => .ok (.tup [v, u]) st) := by
  refine PE.imp (pe_tup (pa_cons ha (pa_cons hb pa_nil (starEach_plain h1)) (starEach_plain h0))) fun σ H Q h => ?_
  obtain ⟨F, m, σe, st, fs, vs, S, rs, hi, hd, rf, h⟩ := h
  refine ⟨F, m, σe, st, fs, vs, S, rs, hi, hd, rf, h.bnd.mono fun v st1 F1 m1 H1 S1 e1 h1 x rx => ?_⟩
  refine ⟨F1, m1, σe, st1, fs, vs, S1, rs.up e1, hi, e1.xd S S1 hd, rf.up e1, h1.bnd.mono fun u st2 F2 m2 H2 S2 e2 h2 y ry => ?_⟩
  exact ⟨by simp; exact lim_le (by decide), fun p hp => fin_tup S2 (RepL.cons (rx.up e2) (RepL.cons ry RepL.nil)) hp h2⟩
end
end Mi

/-! Mi, part n4: repr of None, of ints, of texts too. -/
namespace Mi
open PySem L2
def reprEV : List Val → Store → Res Val := fun vs st => match vs with
  | [.non] => .ok (.str (Str.ofString "None")) st
  | [.int i] => if i.natAbs.log2 < 1920 then .ok (.str (toString i)) st else .no
  | vs => reprDV vs st
section
variable {X : Cx} {G : Gm} {E : XK} {d : Nat}
theorem reprE_ok (cx : CxR X G d) (hgd : X.A.guards = some []) : CallR X (.builtin "repr") (rVL G E reprEV) := by
  intro pins s σ H xs us Q I r h
  obtain ⟨F, m, st, vs, S, rv, h⟩ := h
  unfold reprEV at h
  split at h
  · obtain ⟨z, rfl, rz⟩ := repL1 rv
    unfold Rep at rz; subst rz
    obtain ⟨u, rfl, e⟩ := vals1 r
    cases e
    exact PySem.P.repr_of_none ⟨.str _, H, I.tok _, ⟨_, rfl⟩, h.here S _ rep_str⟩
  · rename_i i
    split at h
    · rename_i hi
      obtain ⟨z, rfl, rz⟩ := repL1 rv
      unfold Rep at rz; subst rz
      obtain ⟨u, rfl, t, e⟩ := vals1 r
      subst e
      exact PySem.P.repr_of_int hi ⟨.str _, H, I.tok _, ⟨_, rfl⟩, h.here S _ rep_str⟩
    · exact h.elim
  · exact reprD_ok cx hgd pins s σ H xs us Q I r ⟨F, m, st, _, S, rv, h⟩
end
end Mi

/-! Rn, part 1: reasoning about runs of the evaluator. -/
namespace Mi
open PySem L2

def Res.Ok {α : Type} (r : Res α) (Q : α → Store → Prop) : Prop := match r with | .ok a st => Q a st | _ => False
@[simp] theorem Ok_ok {α : Type} {a : α} {st : Store} {Q : α → Store → Prop} : (Res.ok a st).Ok Q = Q a st := rfl
@[simp] theorem Ok_no {α : Type} {Q : α → Store → Prop} : (Res.no : Res α).Ok Q = False := rfl
@[simp] theorem Ok_bnd {α β : Type} {r : Res α} {f : α → Store → Res β} {Q : β → Store → Prop} : (r.bnd f).Ok Q = r.Ok (fun a st => (f a st).Ok Q) := by
  cases r <;> rfl
theorem Ok_imp {α : Type} {r : Res α} {Q Q' : α → Store → Prop} (h : r.Ok Q) (w : ∀ a st, Q a st → Q' a st) : r.Ok Q' := by
  cases r with
  | ok a st => exact w a st h
  | exc => exact h
  | no => exact h
theorem Ok_eq {α : Type} {r : Res α} {a : α} {st : Store} (h : r.Ok (fun b s => b = a ∧ s = st)) : r = .ok a st := by
  cases r with
  | ok b s => obtain ⟨rfl, rfl⟩ := h; rfl
  | exc => exact h.elim
  | no => exact h.elim
theorem Ok_of {α : Type} {r : Res α} {a : α} {st : Store} {Q : α → Store → Prop} (e : r = .ok a st) (h : Q a st) : r.Ok Q := by rw [e]; exact h
theorem Ok_get {α : Type} {r : Res α} {Q : α → Store → Prop} (h : r.Ok Q) : ∃ a st, r = .ok a st ∧ Q a st := by
  cases r with
  | ok b s => exact ⟨b, s, rfl, h⟩
  | exc => exact h.elim
  | no => exact h.elim
theorem Ok_ite {α : Type} {c : Prop} [Decidable c] {x y : Res α} {Q : α → Store → Prop} : (if c then x else y).Ok Q = if c then x.Ok Q else y.Ok Q := by split <;> rfl

/-! ### loops -/
theorem forR {g : Gd} {tg : Tg} {b : Env → Store → Res (Fw × Env)} {Q : Fw × Env → Store → Prop} (I : List Val → Env → Store → Prop)
    (hstep : ∀ x xs σ st, I (x :: xs) σ st → ∃ σ', asg tg x σ st = some σ' ∧ (b σ' st).Ok fun r st' => match r.1 with
      | .ret v => Q (.ret v, r.2) st'
      | .brk => Q (.nx, r.2) st'
      | _ => g.ok st' = true ∧ I xs r.2 st')
    (hend : ∀ σ st, I [] σ st → Q (.nx, σ) st) : ∀ (items : List Val) (σ : Env) (st : Store), I items σ st → (forL g tg b items σ st).Ok Q
  | [], σ, st, h => by unfold forL; exact hend σ st h
  | x :: xs, σ, st, h => by
    unfold forL
    obtain ⟨σ', e, hb⟩ := hstep x xs σ st h
    rw [e]
    dsimp only
    rw [Ok_bnd]
    refine Ok_imp hb fun r st' hr => ?_
    obtain ⟨fw, σ2⟩ := r
    cases fw with
    | ret v => exact hr
    | brk => exact hr
    | nx =>
      obtain ⟨hg, hI⟩ := hr
      show (if g.ok st' = true then forL g tg b xs σ2 st' else .no).Ok Q
      rw [if_pos hg]
      exact forR I hstep hend xs σ2 st' hI
    | ct =>
      obtain ⟨hg, hI⟩ := hr
      show (if g.ok st' = true then forL g tg b xs σ2 st' else .no).Ok Q
      rw [if_pos hg]
      exact forR I hstep hend xs σ2 st' hI
/-- a loop over mapped items that goes through, its state folded -/
theorem forL_fold {α S : Type} {g : Gd} {tg : Tg} {b : Env → Store → Res (Fw × Env)} (v : α → Val) (E : S → Env) (T : S → Store) (step : S → α → S)
    (h : ∀ s x, ∃ σ', asg tg (v x) (E s) (T s) = some σ' ∧ ∃ fw, (fw = .nx ∨ fw = .ct) ∧ b σ' (T s) = .ok (fw, E (step s x)) (T (step s x)) ∧ g.ok (T (step s x)) = true) :
    ∀ (items : List α) (s : S), forL g tg b (items.map v) (E s) (T s) = .ok (.nx, E (items.foldl step s)) (T (items.foldl step s))
  | [], s => rfl
  | x :: xs, s => by
    obtain ⟨σ', e, fw, hf, hb, hg⟩ := h s x
    rw [List.map_cons, forL, e]
    dsimp only
    rw [hb, List.foldl_cons]
    dsimp only [Res.bnd]
    rcases hf with rfl | rfl
    · dsimp only
      rw [if_pos hg]
      exact forL_fold v E T step h xs (step s x)
    · dsimp only
      rw [if_pos hg]
      exact forL_fold v E T step h xs (step s x)
theorem whileR {c : Env → Store → Res Bool} {b : Env → Store → Res (Fw × Env)} {Q : Fw × Env → Store → Prop} (I : Nat → Env → Store → Prop)
    (hstep : ∀ n σ st, I n σ st → (c σ st).Ok fun t st1 => if t then (b σ st1).Ok fun r st' => match r.1 with
      | .ret v => Q (.ret v, r.2) st'
      | .brk => Q (.nx, r.2) st'
      | _ => ∃ k, k < n ∧ I k r.2 st' else Q (.nx, σ) st1) : ∀ (f n : Nat) (σ : Env) (st : Store), n < f → I n σ st → (whileL c b f σ st).Ok Q
  | 0, n, σ, st, hn, h => absurd hn (Nat.not_lt_zero _)
  | f + 1, n, σ, st, hn, h => by
    unfold whileL
    rw [Ok_bnd]
    refine Ok_imp (hstep n σ st h) fun t st1 ht => ?_
    cases t with
    | false => exact ht
    | true =>
      rw [if_pos rfl] at ht
      show ((b σ st1).bnd _).Ok Q
      rw [Ok_bnd]
      refine Ok_imp ht fun r st' hr => ?_
      obtain ⟨fw, σ2⟩ := r
      cases fw with
      | ret v => exact hr
      | brk => exact hr
      | nx =>
        obtain ⟨k, hk, hI⟩ := hr
        exact whileR I hstep f k σ2 st' (by omega) hI
      | ct =>
        obtain ⟨k, hk, hI⟩ := hr
        exact whileR I hstep f k σ2 st' (by omega) hI
/-! ### comprehensions -/
theorem lcR2 {g : Gd} {tg : Tg} {c : Env → Store → Res Bool} {f : Env → Store → Res Val} {σ : Env} {Q : List Val → Store → Prop} (I : List Val → List Val → Store → Prop)
    (hstep : ∀ out x xs st, I out (x :: xs) st → ∃ σ', asg tg x σ st = some σ' ∧ (c σ' st).Ok fun b st1 => if b then (f σ' st1).Ok fun v st2 => g.ok st2 = true ∧ I (out ++ [v]) xs st2 else g.ok st1 = true ∧ I out xs st1)
    (hend : ∀ out st, I out [] st → Q out st) : ∀ (items out : List Val) (st : Store), I out items st → (lcL g tg c f σ items st).Ok fun vs st' => Q (out ++ vs) st'
  | [], out, st, h => by
    unfold lcL
    show Q (out ++ []) st
    rw [List.append_nil]
    exact hend out st h
  | x :: xs, out, st, h => by
    unfold lcL
    obtain ⟨σ', e, hb⟩ := hstep out x xs st h
    rw [e]
    dsimp only
    rw [Ok_bnd]
    refine Ok_imp hb fun b st1 hb => ?_
    cases b with
    | false =>
      obtain ⟨hg, hI⟩ := (if_neg (show ¬ (false = true) from Bool.false_ne_true)) ▸ hb
      show (if g.ok st1 = true then lcL g tg c f σ xs st1 else .no).Ok _
      rw [if_pos hg]
      exact lcR2 I hstep hend xs out st1 hI
    | true =>
      rw [if_pos rfl] at hb
      show ((f σ' st1).bnd _).Ok _
      rw [Ok_bnd]
      refine Ok_imp hb fun v st2 hv => ?_
      obtain ⟨hg, hI⟩ := hv
      rw [if_pos hg, Ok_bnd]
      refine Ok_imp (lcR2 I hstep hend xs (out ++ [v]) st2 hI) fun vs st3 hq => ?_
      show Q (out ++ (v :: vs)) st3
      rw [List.append_assoc] at hq
      exact hq
theorem lcR {g : Gd} {tg : Tg} {c : Env → Store → Res Bool} {f : Env → Store → Res Val} {σ : Env} {Q : List Val → Store → Prop} (I : List Val → List Val → Store → Prop)
    (hstep : ∀ out x xs st, I out (x :: xs) st → ∃ σ', asg tg x σ st = some σ' ∧ (c σ' st).Ok fun b st1 => if b then (f σ' st1).Ok fun v st2 => g.ok st2 = true ∧ I (out ++ [v]) xs st2 else g.ok st1 = true ∧ I out xs st1)
    (hend : ∀ out st, I out [] st → Q out st) (items : List Val) (st : Store) (h : I [] items st) : (lcL g tg c f σ items st).Ok Q :=
  lcR2 I hstep hend items [] st h
/-- nothing in the store changes -/
theorem lcL_pure {α : Type} {g : Gd} {tg : Tg} {c : Env → Store → Res Bool} {f : Env → Store → Res Val} {σ : Env} {st : Store} (v : α → Val) (p : α → Bool) (u : α → Val) (hg : g.ok st = true) :
    ∀ (items : List α), (∀ x ∈ items, ∃ σ', asg tg (v x) σ st = some σ' ∧ c σ' st = .ok (p x) st ∧ (p x = true → f σ' st = .ok (u x) st)) → lcL g tg c f σ (items.map v) st = .ok ((items.filter p).map u) st
  | [], _ => rfl
  | x :: xs, h => by
    obtain ⟨σ', e, hc, hf⟩ := h x List.mem_cons_self
    have ih := lcL_pure v p u hg xs (fun y hy => h y (List.mem_cons_of_mem _ hy))
    rw [List.map_cons, lcL, e]
    dsimp only
    rw [hc]
    dsimp only [Res.bnd]
    cases hp : p x with
    | true =>
      rw [if_pos rfl, hf hp]
      dsimp only [Res.bnd]
      rw [if_pos hg, ih, List.filter_cons_of_pos hp]
      rfl
    | false =>
      rw [if_neg (by simp), if_pos hg, ih, List.filter_cons_of_neg (by simp [hp])]
/-- the same with one more list joined -/
theorem lcV_pure {α : Type} {mt : Bool} {k : ItK} {own : List Nat} {tg : Tg} {c : Env → Store → Res Bool} {f : Env → Store → Res Val} {σ : Env} {vs : List Val} {st st1 : Store} {gd : Gd} (items : List α) (v : α → Val) (p : α → Bool) (u : α → Val)
    (hw : walk k vs st = some (items.map v, gd, st1)) (hg : gd.ok st1 = true) (hl : items.length ≤ lim) (h : ∀ x ∈ items, ∃ σ', asg tg (v x) (wipeE σ own) st1 = some σ' ∧ c σ' st1 = .ok (p x) st1 ∧ (p x = true → f σ' st1 = .ok (u x) st1)) :
    lcV mt k own tg c f σ vs st = newL mt ((items.filter p).map u) st1 := by
  unfold lcV iterV
  rw [hw]
  dsimp only [Res.bnd]
  rw [if_pos (by rw [hg, List.length_map, decide_eq_true hl]; rfl), lcL_pure v p u hg items h]
  rfl
theorem lcVR {mt : Bool} {k : ItK} {own : List Nat} {tg : Tg} {c : Env → Store → Res Bool} {f : Env → Store → Res Val} {σ : Env} {vs : List Val} {st st1 : Store} {gd : Gd} {items : List Val} {Q : Val → Store → Prop}
    (hw : walk k vs st = some (items, gd, st1)) (hg : gd.ok st1 = true) (hl : items.length ≤ lim) (h : (lcL gd tg c f (wipeE σ own) items st1).Ok fun xs st2 => (newL mt xs st2).Ok Q) :
    (lcV mt k own tg c f σ vs st).Ok Q := by
  unfold lcV iterV
  rw [hw]
  show (if (gd.ok st1 && decide (items.length ≤ lim)) = true then (noX (lcL gd tg c f (wipeE σ own) items st1)).bnd fun xs st => newL mt xs st else .no).Ok Q
  rw [if_pos (by rw [hg, decide_eq_true hl]; rfl), Ok_bnd]
  obtain ⟨xs, st2, e, h2⟩ := Ok_get h
  rw [e]
  exact h2
/-! ### calls -/
theorem call_own {np : Nat} {rm : Bool} {N : Nat} {body : Env → Store → Res (Fw × Env)} {ws : List Val} {st : Store} {Q : Val → Store → Prop} (hn : ws.length = np) (hz : Val.blwL 0 ws = true)
    (h : (body (startE N ws) []).Ok fun r st1 => ∃ v, retOf r.1 = some v ∧ (finV rm st v st1).Ok Q) : (callV np rm N body ws st).Ok Q := by
  unfold callV
  rw [if_pos hn, if_pos hz]
  obtain ⟨r, st1, e, v, e2, h2⟩ := Ok_get h
  rw [e]
  dsimp only
  rw [e2]
  exact h2
/-- a call that hands back a value without references -/
theorem call_val {np : Nat} {rm : Bool} {N : Nat} {body : Env → Store → Res (Fw × Env)} {ws : List Val} {st : Store} {v : Val} (hn : ws.length = np) (hz : Val.blwL 0 ws = true) (hv : v.blw 0 = true)
    (h : (body (startE N ws) []).Ok fun r _ => retOf r.1 = some v) : callV np rm N body ws st = .ok v st := by
  refine Ok_eq (call_own hn hz (Ok_imp h fun r st1 e => ⟨v, e, ?_⟩))
  unfold finV
  rw [if_pos hv]
  exact ⟨rfl, rfl⟩
/-- .. a list that nobody changes -/
theorem call_lst {np : Nat} {N : Nat} {body : Env → Store → Res (Fw × Env)} {ws : List Val} {st : Store} {xs : List Val} (hn : ws.length = np) (hz : Val.blwL 0 ws = true) (hv : Val.blwL 0 xs = true)
    (h : (body (startE N ws) []).Ok fun r st1 => ∃ k : Nat, retOf r.1 = some (.ref k) ∧ st1[k]? = some (.lst xs)) : callV np false N body ws st = .ok (.fl xs) st := by
  refine Ok_eq (call_own hn hz (Ok_imp h fun r st1 e => ?_))
  obtain ⟨k, e1, e2⟩ := e
  refine ⟨.ref k, e1, ?_⟩
  unfold finV
  rw [if_neg (by simp [Val.blw])]
  dsimp only
  rw [e2]
  dsimp only
  rw [if_pos (show Ob.blw 0 (.lst xs) = true from hv)]
  exact ⟨rfl, rfl⟩
/-- .. one that is changed later -/
theorem call_new {np : Nat} {N : Nat} {body : Env → Store → Res (Fw × Env)} {ws : List Val} {st : Store} {o : Ob} (hn : ws.length = np) (hz : Val.blwL 0 ws = true) (hv : o.blw 0 = true)
    (h : (body (startE N ws) []).Ok fun r st1 => ∃ k : Nat, retOf r.1 = some (.ref k) ∧ st1[k]? = some o) : callV np true N body ws st = .ok (.ref st.length) (st ++ [o]) := by
  refine Ok_eq (call_own hn hz (Ok_imp h fun r st1 e => ?_))
  obtain ⟨k, e1, e2⟩ := e
  refine ⟨.ref k, e1, ?_⟩
  unfold finV
  rw [if_neg (by simp [Val.blw])]
  dsimp only
  rw [e2]
  dsimp only
  rw [if_pos hv]
  cases o <;> exact ⟨rfl, rfl⟩
theorem call_shared {np : Nat} {rm : Bool} {N : Nat} {body : Env → Store → Res (Fw × Env)} {ws : List Val} {st : Store} {Q : Val → Store → Prop} (hn : ws.length = np) (hz : Val.blwL 0 ws = false)
    (h : (body (startE N ws) st).Ok fun r st1 => ∃ v, retOf r.1 = some v ∧ (finN rm st v st1).Ok Q) : (callV np rm N body ws st).Ok Q := by
  unfold callV
  rw [if_pos hn, if_neg (by rw [hz]; exact Bool.false_ne_true)]
  obtain ⟨r, st1, e, v, e2, h2⟩ := Ok_get h
  rw [e]
  dsimp only
  rw [e2]
  exact h2
theorem finN_val {rm : Bool} {st st1 : Store} {v : Val} {Q : Val → Store → Prop} (hb : (st1.take st.length).all (Ob.blw st.length) = true) (hv : v.blw st.length = true) (h : Q v (st1.take st.length)) : (finN rm st v st1).Ok Q := by
  unfold finN
  rw [if_pos hb, if_pos hv]
  exact h
theorem finN_lst {st st1 : Store} {k : Nat} {xs : List Val} {Q : Val → Store → Prop} (hb : (st1.take st.length).all (Ob.blw st.length) = true) (hk : st.length ≤ k) (e : st1[k]? = some (.lst xs)) (hx : Val.blwL st.length xs = true) (h : Q (.fl xs) (st1.take st.length)) : (finN false st (.ref k) st1).Ok Q := by
  unfold finN
  rw [if_pos hb, if_neg (by simp [Val.blw]; omega)]
  dsimp only
  rw [e]
  dsimp only
  rw [if_pos (show Ob.blw _ (.lst xs) = true from hx)]
  exact h
end Mi

/-! Rn, part 2: names, lots, data. -/
namespace Mi
open PySem L2

def isName (s : Str) : Bool := decide (1 ≤ s.cps.size) && decide (s.cps.size ≤ 3) && decide (s ≠ ("if" : Str)) && s.cps.all (fun c => decide (97 ≤ c) && decide (c ≤ 122))
@[ext] structure Nm where
  val : Str
  ok : isName val = true
deriving DecidableEq
theorem isName_ok {s : Str} (h : isName s = true) : PyData.strOk s = true := by
  unfold isName at h
  rw [Bool.and_eq_true] at h
  unfold PyData.strOk
  have h := h.2
  rw [Array.all_eq_true] at h ⊢
  intro i hi
  have := h i hi
  rw [Bool.and_eq_true] at this
  have := of_decide_eq_true this.2
  exact decide_eq_true (by omega)
theorem isName_len {s : Str} (h : isName s = true) : s.length ≤ 3 ∧ 1 ≤ s.length := by
  unfold isName at h
  rw [Bool.and_eq_true, Bool.and_eq_true, Bool.and_eq_true] at h
  exact ⟨of_decide_eq_true h.1.1.2, of_decide_eq_true h.1.1.1⟩

class Enc (α : Type) [DecidableEq α] where
  enc : α → Val
  toD : α → PyData
  dp : Nat
  dat : ∀ st x n, dp ≤ n → Mi.dat st n (enc x) = some (toD x)
  eqv : ∀ x y, PyData.eqv (toD x) (toD y) = decide (x = y)
  blw : ∀ x n, (enc x).blw n = true
  sc : ∀ x y, scalE (enc x) (enc y) = none ∨ scalE (enc x) (enc y) = some (decide (x = y))
open Enc (enc)
section
variable {α β : Type} [DecidableEq α] [Enc α] [DecidableEq β] [Enc β]
theorem mapO_dat (st : Store) (n : Nat) (hn : Enc.dp α ≤ n) : ∀ xs : List α, mapO (Mi.dat st n) (xs.map enc) = some (xs.map Enc.toD)
  | [] => rfl
  | x :: xs => by rw [List.map_cons, mapO, Enc.dat st x n hn, mapO_dat st n hn xs]; rfl
theorem eqvAll_enc : ∀ xs ys : List α, PyData.eqvAll (xs.map Enc.toD) (ys.map Enc.toD) = decide (xs = ys)
  | [], [] => by simp [PyData.eqvAll]
  | [], _ :: _ => by simp [PyData.eqvAll]
  | _ :: _, [] => by simp [PyData.eqvAll]
  | x :: xs, y :: ys => by
    rw [List.map_cons, List.map_cons, PyData.eqvAll, Enc.eqv x y, eqvAll_enc xs ys, ← Bool.decide_and]
    exact decide_eq_decide.mpr (by rw [List.cons.injEq])
theorem blwL_enc (n : Nat) : ∀ xs : List α, Val.blwL n (xs.map enc) = true
  | [] => rfl
  | x :: xs => by rw [List.map_cons, Val.blwL, Enc.blw x n, blwL_enc n xs]; rfl
instance : Enc Nm where
  enc x := .str x.1
  toD x := .str x.1
  dp := 1
  dat st x n h := by
    cases n with
    | zero => omega
    | succ n => simp [Mi.dat, isName_ok x.ok]
  eqv x y := by
    simp only [PyData.eqv]
    rw [Bool.eq_iff_iff, beq_iff_eq, decide_eq_true_eq, Nm.ext_iff]
  blw _ _ := rfl
  sc x y := .inr (by
    show some (decide (x.1 = y.1)) = some (decide (x = y))
    congr 1
    exact decide_eq_decide.mpr Nm.ext_iff.symm)
instance : Enc (List α) where
  enc xs := .tup (xs.map enc)
  toD xs := .tuple (xs.map Enc.toD)
  dp := Enc.dp α + 1
  dat st x n h := by
    cases n with
    | zero => omega
    | succ n => simp only [Mi.dat]; rw [mapO_dat st n (by omega) x]; rfl
  eqv x y := by rw [PyData.eqv]; exact eqvAll_enc x y
  blw x n := blwL_enc n x
  sc x y := .inl rfl
instance : Enc (α × β) where
  enc p := .tup [enc p.1, enc p.2]
  toD p := .tuple [Enc.toD p.1, Enc.toD p.2]
  dp := max (Enc.dp α) (Enc.dp β) + 1
  dat st x n h := by
    cases n with
    | zero => omega
    | succ n => simp only [Mi.dat]; rw [mapO, mapO, mapO, Enc.dat st x.1 n (by omega), Enc.dat st x.2 n (by omega)]; rfl
  eqv x y := by
    rw [PyData.eqv, PyData.eqvAll, PyData.eqvAll, PyData.eqvAll, Enc.eqv, Enc.eqv, Bool.and_true, ← Bool.decide_and]
    exact decide_eq_decide.mpr Prod.ext_iff.symm
  blw x n := by rw [Val.blw, Val.blwL, Val.blwL, Val.blwL, Enc.blw, Enc.blw]; rfl
  sc x y := .inl rfl
instance : Enc Int where
  enc i := .int i
  toD i := .int i
  dp := 1
  dat st x n h := by
    cases n with
    | zero => omega
    | succ n => rfl
  eqv x y := by simp only [PyData.eqv]; rw [Bool.eq_iff_iff, beq_iff_eq, decide_eq_true_eq]
  blw _ _ := rfl
  sc x y := .inr rfl
theorem pyEq_enc {st : Store} (x y : α) (h : Enc.dp α ≤ 12 := by decide) : pyEq st (enc x) (enc y) = some (decide (x = y)) := by
  unfold pyEq
  rcases Enc.sc x y with e | e <;> rw [e]
  dsimp only
  rw [Enc.dat st x 12 h, Enc.dat st y 12 h]
  dsimp only
  rw [Enc.eqv]
theorem any_enc (xs : List α) (x : α) : ((xs.map Enc.toD).any fun d => PyData.eqv d (Enc.toD x)) = decide (x ∈ xs) := by
  rw [List.any_map, Bool.eq_iff_iff, List.any_eq_true, decide_eq_true_eq]
  constructor
  · rintro ⟨y, hy, e⟩
    have e' : PyData.eqv (Enc.toD y) (Enc.toD x) = true := e
    rw [Enc.eqv, decide_eq_true_eq] at e'
    exact e' ▸ hy
  · intro hx
    exact ⟨x, hx, by show PyData.eqv (Enc.toD x) (Enc.toD x) = true; rw [Enc.eqv]; simp⟩
theorem pyIn_enc {st : Store} {v : Val} {xs : List α} (hs : seqOf st v = some (xs.map enc)) (x : α) (h : Enc.dp α ≤ 12 := by decide) : pyIn st (enc x) v = some (decide (x ∈ xs)) := by
  have e : pyIn st (enc x) v = pyInS st (enc x) v := by
    cases v with
    | str s => simp [seqOf, lstOf] at hs
    | _ => rfl
  rw [e]
  unfold pyInS
  rw [hs]
  dsimp only
  rw [Enc.dat st x 12 h, mapO_dat st 12 h xs]
  dsimp only
  rw [any_enc]
/-- two lists -/
theorem pyEq_lst {st : Store} {v u : Val} {xs ys : List α} (hv : lstOf st v = some (xs.map enc)) (hu : lstOf st u = some (ys.map enc)) (h : Enc.dp α ≤ 11 := by decide) : pyEq st v u = some (decide (xs = ys)) := by
  have sc : scalE v u = none := by
    cases v with
    | fl _ => cases u <;> rfl
    | wl _ => cases u <;> rfl
    | ref _ => cases u <;> rfl
    | _ => simp [lstOf] at hv
  have dv : ∀ {v : Val} {xs : List α}, lstOf st v = some (xs.map enc) → Mi.dat st 12 v = some (.list (xs.map Enc.toD)) := by
    intro v xs hv
    cases v with
    | fl ys => unfold lstOf at hv; injection hv with hv; subst hv; show (mapO (Mi.dat st 11) (xs.map enc)).map PyData.list = _; rw [mapO_dat st 11 h xs]; rfl
    | wl ys => unfold lstOf at hv; injection hv with hv; subst hv; show (mapO (Mi.dat st 11) (xs.map enc)).map PyData.list = _; rw [mapO_dat st 11 h xs]; rfl
    | ref i =>
      unfold lstOf at hv
      dsimp only at hv
      show (match st[i]? with | some (.lst xs) => (mapO (Mi.dat st 11) xs).map PyData.list | _ => none) = _
      cases q : st[i]? with
      | none => rw [q] at hv; cases hv
      | some o =>
        cases o with
        | lst ys =>
          rw [q] at hv
          dsimp only at hv ⊢
          injection hv with hv
          subst hv
          rw [mapO_dat st 11 h xs]
          rfl
        | dic => rw [q] at hv; cases hv
        | ins => rw [q] at hv; cases hv
    | _ => simp [lstOf] at hv
  unfold pyEq
  rw [sc, dv hv, dv hu]
  dsimp only
  rw [PyData.eqv, eqvAll_enc]
end
theorem enc_nm (x : Nm) : (enc x : Val) = .str x.1 := rfl
theorem enc_list {α : Type} [DecidableEq α] [Enc α] (xs : List α) : (enc xs : Val) = .tup (xs.map enc) := rfl
theorem enc_pair {α β : Type} [DecidableEq α] [Enc α] [DecidableEq β] [Enc β] (x : α × β) : (enc x : Val) = .tup [enc x.1, enc x.2] := rfl
/-! ### lots -/
def ltN (a b : Nm) : Bool := ltS a.1 b.1
def ded : List Nm → List Nm → List Nm
  | acc, [] => acc
  | acc, x :: xs => ded (if x ∈ acc then acc else acc ++ [x]) xs
def lotL (xs : List Nm) : List Nm := isort ltN (ded [] xs)
def IsLot (xs : List Nm) : Prop := xs.Pairwise (fun a b => ltN a b = true)
instance (xs : List Nm) : Decidable (IsLot xs) := inferInstanceAs (Decidable (List.Pairwise _ _))
theorem ltN_asymm (a b : Nm) (h : ltN a b = true) : ltN b a = false := ltS_asymm _ _ h
theorem ltN_trans' (a b c : Nm) (h : ltN b a = false) (g : ltN c b = false) : ltN c a = false := ltS_trans _ _ _ h g
theorem ltN_antisymm (a b : Nm) (h : ltN b a = false) (g : ltN a b = false) : a = b := Nm.ext (ltS_antisymm _ _ h g)
theorem ltN_irrefl (a : Nm) : ltN a a = false := by
  cases h : ltN a a with
  | false => rfl
  | true => rw [ltN_asymm a a h] at h; cases h
theorem ltN_trans {a b c : Nm} (h : ltN a b = true) (g : ltN b c = true) : ltN a c = true := by
  cases q : ltN a c with
  | true => rfl
  | false =>
    have e : ltN a b = false := ltN_trans' b c a (ltN_asymm _ _ g) q
    rw [e] at h; cases h
theorem mem_ded (x : Nm) : ∀ (xs acc : List Nm), x ∈ ded acc xs ↔ x ∈ acc ∨ x ∈ xs
  | [], acc => by simp [ded]
  | y :: xs, acc => by
    rw [ded, mem_ded x xs]
    by_cases h : y ∈ acc
    · rw [if_pos h, List.mem_cons]
      constructor
      · rintro (h1 | h1)
        · exact .inl h1
        · exact .inr (.inr h1)
      · rintro (h1 | rfl | h1)
        · exact .inl h1
        · exact .inl h
        · exact .inr h1
    · rw [if_neg h, List.mem_append, List.mem_singleton, List.mem_cons, or_assoc]
theorem nodup_ded : ∀ (xs acc : List Nm), acc.Nodup → (ded acc xs).Nodup
  | [], acc, h => h
  | y :: xs, acc, h => by
    rw [ded]
    apply nodup_ded
    split
    · exact h
    · rename_i hy
      rw [List.nodup_append]
      exact ⟨h, by simp, fun a ha b hb => by rw [List.mem_singleton] at hb; subst hb; exact fun e => hy (e ▸ ha)⟩
theorem mem_lotL {x : Nm} {xs : List Nm} : x ∈ lotL xs ↔ x ∈ xs := by
  unfold lotL
  rw [(isort_perm _).mem_iff, mem_ded]
  simp
theorem lot_of_pw {xs : List Nm} (h : xs.Pairwise (fun a b => ltN b a = false)) (n : xs.Nodup) : IsLot xs := by
  unfold IsLot
  have := List.pairwise_and_iff.mpr ⟨h, n⟩
  refine this.imp fun {a b} q => ?_
  cases e : ltN a b with
  | true => rfl
  | false => exact absurd (ltN_antisymm a b q.1 e) q.2
theorem isLot_lotL (xs : List Nm) : IsLot (lotL xs) :=
  lot_of_pw (isort_pw ltN_asymm ltN_trans' _) ((isort_perm _).nodup_iff.mpr (nodup_ded xs [] .nil))
theorem IsLot.nodup {xs : List Nm} (h : IsLot xs) : xs.Nodup := List.Pairwise.imp (fun {a b} e q => by subst q; rw [ltN_irrefl] at e; cases e) h
theorem lot_ext {xs ys : List Nm} (hx : IsLot xs) (hy : IsLot ys) (h : ∀ x, x ∈ xs ↔ x ∈ ys) : xs = ys := by
  have hp : xs.Perm ys := (List.perm_ext_iff_of_nodup hx.nodup hy.nodup).mpr h
  exact List.Perm.eq_of_pairwise (le := fun a b => ltN a b = true) (fun a b _ _ h g => by rw [ltN_asymm _ _ h] at g; cases g) hx hy hp
theorem lotL_congr {xs ys : List Nm} (h : ∀ x, x ∈ xs ↔ x ∈ ys) : lotL xs = lotL ys := lot_ext (isLot_lotL _) (isLot_lotL _) fun x => by rw [mem_lotL, mem_lotL, h]
theorem lotL_self {xs : List Nm} (h : IsLot xs) : lotL xs = xs := lot_ext (isLot_lotL _) h fun x => mem_lotL
theorem lotL_eq {xs ys : List Nm} (hy : IsLot ys) (h : ∀ x, x ∈ xs ↔ x ∈ ys) : lotL xs = ys := lot_ext (isLot_lotL _) hy fun x => by rw [mem_lotL, h]
theorem IsLot.filter {xs : List Nm} (h : IsLot xs) (p : Nm → Bool) : IsLot (xs.filter p) := List.Pairwise.filter p h
theorem length_ded : ∀ (xs acc : List Nm), (ded acc xs).length ≤ acc.length + xs.length
  | [], acc => by simp [ded]
  | y :: xs, acc => by
    rw [ded]
    refine Nat.le_trans (length_ded xs _) ?_
    split <;> simp <;> omega
theorem length_lotL (xs : List Nm) : (lotL xs).length ≤ xs.length := by
  unfold lotL
  rw [(isort_perm _).length_eq]
  have := length_ded xs []
  simpa using this
end Mi

/-! Rn, part 3: sequences as arguments; built-ins upon them. -/
namespace Mi
open PySem L2
open Enc (enc)
/-- a list or tuple without references -/
def SeqV (g : Val) (xs : List Val) : Prop := g = .tup xs ∨ g = .wt xs ∨ g = .fl xs ∨ g = .wl xs
theorem SeqV.tup {xs : List Val} : SeqV (.tup xs) xs := .inl rfl
theorem SeqV.fl {xs : List Val} : SeqV (.fl xs) xs := .inr (.inr (.inl rfl))
theorem SeqV.wt {xs : List Val} : SeqV (.wt xs) xs := .inr (.inl rfl)
theorem SeqV.wl {xs : List Val} : SeqV (.wl xs) xs := .inr (.inr (.inr rfl))
theorem SeqV.seqOf {g : Val} {xs : List Val} (h : SeqV g xs) (st : Store) : Mi.seqOf st g = some xs := by
  rcases h with rfl | rfl | rfl | rfl <;> rfl
theorem SeqV.blw {g : Val} {xs : List Val} (h : SeqV g xs) {n : Nat} (hx : Val.blwL n xs = true) : g.blw n = true := by
  rcases h with rfl | rfl | rfl | rfl <;> exact hx
theorem SeqV.walk {g : Val} {xs : List Val} (h : SeqV g xs) (st : Store) : ∃ gd, walkVal g st = some (xs, gd, st) ∧ gd.ok st = true := by
  rcases h with rfl | rfl | rfl | rfl
  · exact ⟨_, rfl, rfl⟩
  · exact ⟨_, rfl, rfl⟩
  · exact ⟨_, rfl, by simp [Gd.ok, lstOf]⟩
  · exact ⟨_, rfl, by simp [Gd.ok, lstOf]⟩
theorem SeqV.walkS {g : Val} {xs : List Val} (h : SeqV g xs) (st : Store) : ∃ gd, Mi.walk .val [g] st = some (xs, gd, st) ∧ ∀ st, Gd.ok st gd = true := by
  rcases h with rfl | rfl | rfl | rfl
  · exact ⟨_, rfl, fun _ => rfl⟩
  · exact ⟨_, rfl, fun _ => rfl⟩
  · exact ⟨_, rfl, fun _ => by simp [Gd.ok, lstOf]⟩
  · exact ⟨_, rfl, fun _ => by simp [Gd.ok, lstOf]⟩
theorem SeqV.iterE {g : Val} {xs : List Val} (h : SeqV g xs) (st : Store) : ∃ gd, Mi.iterV .enum [g] st = .ok (enumFrom 0 xs, gd) st ∧ ∀ st, Gd.ok st gd = true := by
  rcases h with rfl | rfl | rfl | rfl
  · exact ⟨_, rfl, fun _ => rfl⟩
  · exact ⟨_, rfl, fun _ => rfl⟩
  · exact ⟨_, rfl, fun _ => by simp [Gd.ok, lstOf]⟩
  · exact ⟨_, rfl, fun _ => by simp [Gd.ok, lstOf]⟩
theorem SeqV.walkE {g : Val} {xs : List Val} (h : SeqV g xs) (st : Store) : ∃ gd, walkEnum g st = some (enumFrom 0 xs, gd, st) ∧ gd.ok st = true := by
  rcases h with rfl | rfl | rfl | rfl
  · exact ⟨_, rfl, rfl⟩
  · exact ⟨_, rfl, rfl⟩
  · exact ⟨_, rfl, by simp [Gd.ok, lstOf]⟩
  · exact ⟨_, rfl, by simp [Gd.ok, lstOf]⟩
theorem SeqV.len {g : Val} {xs : List Val} (h : SeqV g xs) (st : Store) : lenV [g] st = .ok (.int xs.length) st := by
  rcases h with rfl | rfl | rfl | rfl <;> rfl
theorem SeqV.kd {g : Val} {xs : List Val} (h : SeqV g xs) (oc : Nat → Bool) (st : Store) : kdOf oc st g = some .lst ∨ kdOf oc st g = some .tup := by
  rcases h with rfl | rfl | rfl | rfl
  · exact .inr rfl
  · exact .inr rfl
  · exact .inl rfl
  · exact .inl rfl
theorem mapO_some {α β γ : Type} {f : α → Option β} {v : γ → α} {u : γ → β} (h : ∀ x, f (v x) = some (u x)) : ∀ xs : List γ, mapO f (xs.map v) = some (xs.map u)
  | [] => rfl
  | x :: xs => by rw [List.map_cons, mapO, h, mapO_some h xs]; rfl
theorem allV_fl {γ : Type} (p : γ → Bool) (xs : List γ) (st : Store) : allV [.fl (xs.map fun x => .bl (p x))] st = .ok (.bl (xs.all p)) st := by
  unfold allV onL
  dsimp only [lstOf]
  rw [mapO_some (f := asB) (v := fun x => .bl (p x)) (u := p) (fun x => rfl)]
  simp [List.all_map, Function.comp_def]
theorem anyV_fl {γ : Type} (p : γ → Bool) (xs : List γ) (st : Store) : anyV [.fl (xs.map fun x => .bl (p x))] st = .ok (.bl (xs.any p)) st := by
  unfold anyV onL
  dsimp only [lstOf]
  rw [mapO_some (f := asB) (v := fun x => .bl (p x)) (u := p) (fun x => rfl)]
  simp [List.any_map, Function.comp_def]
theorem lc2L_pure {α : Type} {gd : Gd} {tg : Tg} {c : Env → Store → Res Bool} {own1 : List Nat} {k1 : ItK} {fs1 : Env → Store → Res (List Val)} {g1 : Tg} {c1 : Env → Store → Res Bool} {f : Env → Store → Res Val} {σ : Env} {st : Store} (v : α → Val) (p : α → Bool) (res : α → List Val) (B : Nat) (hg : gd.ok st = true) :
    ∀ (items : List α) (n : Nat), n + B * items.length ≤ lim → (∀ x ∈ items, ∃ σ', asg tg (v x) σ st = some σ' ∧ c σ' st = .ok (p x) st ∧ (p x = true → ∃ vs its gd1, fs1 σ' st = .ok vs st ∧ iterV k1 vs st = .ok (its, gd1) st ∧ gd1.ok st = true ∧ its.length ≤ B ∧ lcL gd1 g1 c1 f (wipeE σ' own1) its st = .ok (res x) st)) →
      lc2L gd tg c own1 k1 fs1 g1 c1 f σ n (items.map v) st = .ok ((items.filter p).flatMap res) st
  | [], n, _, _ => rfl
  | x :: xs, n, hn, h => by
    rw [List.length_cons, Nat.mul_add, Nat.mul_one] at hn
    obtain ⟨σ', e, hc, hf⟩ := h x List.mem_cons_self
    have ih := fun n hn => lc2L_pure (c := c) (own1 := own1) (k1 := k1) (fs1 := fs1) (g1 := g1) (c1 := c1) (f := f) (σ := σ) (tg := tg) v p res B hg xs n hn (fun y hy => h y (List.mem_cons_of_mem _ hy))
    rw [List.map_cons, lc2L, e]
    dsimp only
    rw [hc, Res.bnd_ok]
    cases hp : p x with
    | true =>
      obtain ⟨vs, its, gd1, h1, h2, h3, h4, h5⟩ := hf hp
      rw [if_pos rfl, h1, Res.bnd_ok, h2, Res.bnd_ok]
      dsimp only
      rw [if_pos (by rw [h3, decide_eq_true (by omega)]; rfl), h5, Res.bnd_ok, if_pos hg, ih _ (by omega), Res.bnd_ok, List.filter_cons_of_pos hp, List.flatMap_cons]
    | false => rw [if_neg (by simp), if_pos hg, ih _ (by omega), List.filter_cons_of_neg (by simp [hp])]
theorem lc2V_pure {α : Type} {mt : Bool} {k : ItK} {own : List Nat} {tg : Tg} {c : Env → Store → Res Bool} {own1 : List Nat} {k1 : ItK} {fs1 : Env → Store → Res (List Val)} {g1 : Tg} {c1 : Env → Store → Res Bool} {f : Env → Store → Res Val} {σ : Env} {vs : List Val} {st st1 : Store} {gd : Gd} (items : List α) (v : α → Val) (p : α → Bool) (res : α → List Val) (B : Nat)
    (hw : iterV k vs st = .ok (items.map v, gd) st1) (hg : gd.ok st1 = true) (hn : B * items.length ≤ lim)
    (h : ∀ x ∈ items, ∃ σ', asg tg (v x) (wipeE σ own) st1 = some σ' ∧ c σ' st1 = .ok (p x) st1 ∧ (p x = true → ∃ vs its gd1, fs1 σ' st1 = .ok vs st1 ∧ iterV k1 vs st1 = .ok (its, gd1) st1 ∧ gd1.ok st1 = true ∧ its.length ≤ B ∧ lcL gd1 g1 c1 f (wipeE σ' own1) its st1 = .ok (res x) st1)) :
    lc2V mt k own own1 tg c k1 fs1 g1 c1 f σ vs st = newL mt ((items.filter p).flatMap res) st1 := by
  unfold lc2V
  rw [hw, Res.bnd_ok]
  dsimp only
  rw [if_pos hg, lc2L_pure v p res B hg items 0 (by omega) h]
  rfl
/-- sorting names -/
theorem insB_map {α β : Type} {lt : α → α → Bool} {lt' : β → β → Bool} (f : α → β) (h : ∀ a b, lt' (f a) (f b) = lt a b) (x : α) : ∀ l : List α, insB lt' (f x) (l.map f) = (insB lt x l).map f
  | [] => rfl
  | y :: r => by
    rw [List.map_cons, insB, insB, h]
    split
    · rw [List.map_cons, insB_map f h x r]
    · rfl
theorem isort_map {α β : Type} {lt : α → α → Bool} {lt' : β → β → Bool} (f : α → β) (h : ∀ a b, lt' (f a) (f b) = lt a b) : ∀ l : List α, isort lt' (l.map f) = (isort lt l).map f
  | [] => rfl
  | x :: r => by rw [List.map_cons, isort, isort, isort_map f h r, insB_map f h]
theorem sortAV_nm (mt : Bool) (xs : List Nm) (st : Store) : sortAV mt [.fl (xs.map enc)] st = newL mt ((isort ltN xs).map enc) st := by
  have e : sortAV mt [.fl (xs.map enc)] st = sortSV mt [.fl (xs.map enc)] st := by cases xs <;> rfl
  rw [e]
  unfold sortSV onL
  dsimp only [lstOf]
  rw [mapO_some (f := asS) (v := enc) (u := fun x : Nm => x.1) (fun x => rfl)]
  dsimp only
  rw [isort_map (lt := ltN) (fun x : Nm => x.1) (fun a b => rfl), List.map_map]
  rfl
/-! ### the dict of names -/
def dkv (xs : List Nm) : List (Val × Val) := xs.map fun x => (enc x, .bl true)
theorem dput_nm (acc : List Nm) (x : Nm) : dput (dkv acc) (enc x) (.bl true) = dkv (if x ∈ acc then acc else acc ++ [x]) := by
  unfold dput dkv
  have hin : ((acc.map fun x : Nm => ((enc x : Val), Val.bl true)).any fun kv => decide (kv.1 = enc x)) = decide (x ∈ acc) := by
    rw [List.any_map, Bool.eq_iff_iff, List.any_eq_true, decide_eq_true_eq]
    constructor
    · rintro ⟨y, hy, e⟩
      have e := of_decide_eq_true e
      have e : Val.str y.1 = Val.str x.1 := e
      injection e with e
      have : y = x := Nm.ext e
      exact this ▸ hy
    · intro hx
      exact ⟨x, hx, by simp⟩
  rw [hin]
  by_cases h : x ∈ acc
  · rw [if_pos (decide_eq_true h), if_pos h, List.map_map]
    apply List.map_congr_left
    intro y hy
    simp only [Function.comp_apply]
    split
    · rename_i e; rfl
    · rfl
  · rw [if_neg (by simpa using h), if_neg h, List.map_append]
    rfl
theorem keyFits_nm (acc : List Nm) (x : Nm) : keyFits (dkv acc) false (enc x) = true := by
  cases acc <;> rfl
theorem dcL_nm {gd : Gd} {tg : Tg} {fk fv : Env → Store → Res Val} {σ : Env} {st : Store} (hg : gd.ok st = true) (h : ∀ x : Nm, ∃ σ', asg tg (enc x) σ st = some σ' ∧ fk σ' st = .ok (enc x) st ∧ fv σ' st = .ok (.bl true) st) :
    ∀ (xs acc : List Nm), acc.length + xs.length ≤ lim → dcL gd tg fk fv σ (xs.map enc) (dkv acc) st = .ok (dkv (ded acc xs)) st
  | [], acc, _ => rfl
  | x :: xs, acc, hl => by
    obtain ⟨σ', e, h1, h2⟩ := h x
    rw [List.length_cons] at hl
    rw [List.map_cons, dcL, e]
    dsimp only
    rw [h1]
    dsimp only [Res.bnd]
    rw [h2]
    dsimp only [Res.bnd]
    have hd : decide ((dkv acc).length < lim) = true := decide_eq_true (by unfold dkv; rw [List.length_map]; omega)
    rw [if_pos (by rw [hg, keyFits_nm, hd]; rfl), dput_nm, ded]
    refine dcL_nm hg h xs _ ?_
    split
    · omega
    · rw [List.length_append, List.length_singleton]; omega
end Mi

/-! Rn, part 4: rules and rooms as data. -/
namespace Mi
open PySem L2
open Enc (enc)
theorem newL_false (xs : List Val) (st : Store) : newL false xs st = .ok (.fl xs) st := rfl
theorem newL_true (xs : List Val) (st : Store) : newL true xs st = .ok (.ref st.length) (st ++ [.lst xs]) := rfl
theorem _root_.List.filter_true' {α : Type} (xs : List α) : xs.filter (fun _ => true) = xs := by simp
structure RuleD where
  name : Nm
  gone : List Nm
def ruleTxt (r : RuleD) : Str := if r.gone = [] then r.name.1 else Str.empty ++ r.name.1 ++ (" if " : Str) ++ Txt.join (" " : Str) (r.gone.map (·.1))
def ruleV (r : RuleD) : Val := .ins 0 [("name", enc r.name), ("gone", enc r.gone), ("text", .str (ruleTxt r))]
def roomV (R : List RuleD) (ns : List Nm) (t : Str) : Val := .ins 1 [("rules", .tup (R.map ruleV)), ("names", enc ns), ("text", .str t)]
end Mi
namespace Mi
open PySem L2
open Enc (enc)
def mayL (R : List RuleD) (ns gs : List Nm) : List Nm := ns.filter fun n => decide (n ∉ gs) && (R.filter fun r => decide (r.name = n)).any fun r => r.gone.all fun x => decide (x ∈ gs)
end Mi
namespace Mi
open PySem L2
open Enc (enc)
theorem asgS_nm (i : Nat) (σ : Env) (v : Val) (st : Store) : asgS (.nm i) σ v st = if i < σ.length then .ok (.nx, σ.set i (some v)) st else .no := by
  unfold asgS asg
  split
  · rename_i h; split at h <;> simp_all
  · rename_i h; split at h <;> simp_all
theorem lstV_0 (mt : Bool) (st : Store) : lstV mt [] st = newL mt [] st := rfl
theorem lstV_1 (mt : Bool) (a : Val) (st : Store) : lstV mt [a] st = newL mt [a] st := rfl
theorem lstV_2 (mt : Bool) (a b : Val) (st : Store) : lstV mt [a, b] st = newL mt [a, b] st := rfl
theorem lstV_3 (mt : Bool) (a b c : Val) (st : Store) : lstV mt [a, b, c] st = newL mt [a, b, c] st := rfl
theorem tupV_0 (st : Store) : tupV [] st = .ok (.tup []) st := rfl
theorem tupV_1 (a : Val) (st : Store) : tupV [a] st = .ok (.tup [a]) st := rfl
theorem tupV_2 (a b : Val) (st : Store) : tupV [a, b] st = .ok (.tup [a, b]) st := rfl
theorem tupV_3 (a b c : Val) (st : Store) : tupV [a, b, c] st = .ok (.tup [a, b, c]) st := rfl
theorem iterV_lot {α : Type} [DecidableEq α] [Enc α] (xs : List α) (st : Store) : iterV .val [enc xs] st = .ok (xs.map enc, .none) st := rfl
theorem iterV_tup (xs : List Val) (st : Store) : iterV .val [.tup xs] st = .ok (xs, .none) st := rfl
theorem iterV_fl (xs : List Val) (st : Store) : iterV .val [.fl xs] st = .ok (xs, .lst (.fl xs) xs) st := rfl
theorem gdok_none (st : Store) : Gd.ok st .none = true := rfl
theorem gdok_fl (xs : List Val) (st : Store) : Gd.ok st (.lst (.fl xs) xs) = true := by simp [Gd.ok, lstOf]
theorem SeqV.iter {g : Val} {xs : List Val} (h : SeqV g xs) (st : Store) : ∃ gd, iterV .val [g] st = .ok (xs, gd) st ∧ ∀ st, Gd.ok st gd = true := by
  rcases h with rfl | rfl | rfl | rfl
  · exact ⟨_, rfl, fun _ => rfl⟩
  · exact ⟨_, rfl, fun _ => rfl⟩
  · exact ⟨_, rfl, fun _ => by simp [Gd.ok, lstOf]⟩
  · exact ⟨_, rfl, fun _ => by simp [Gd.ok, lstOf]⟩
theorem bm_append {st : Store} {i : Nat} {xs : List Val} {y : Val} (h : st[i]? = some (.lst xs)) (hl : xs.length < lim) : bmV "list" appendV (fun st => .ok [y] st) (.ref i) st = .ok .non (st.set i (.lst (xs ++ [y]))) := by
  unfold bmV
  rw [if_pos (by simp [isTy, lstOf, h])]
  dsimp only [Res.bnd]
  unfold appendV
  dsimp only
  rw [h]
  dsimp only
  rw [if_pos hl]
theorem foldl_app {α : Type} (v : α → Val) (p : α → Bool) : ∀ (xs : List α) (o : Option Val) (acc : List α), (xs.foldl (fun (s : Option Val × List α) x => (some (v x), if p x then s.2 ++ [x] else s.2)) (o, acc)).2 = acc ++ xs.filter p
  | [], _, acc => by simp
  | x :: xs, o, acc => by
    rw [List.foldl_cons, foldl_app v p xs]
    cases h : p x with
    | true => rw [if_pos rfl, List.filter_cons_of_pos h, List.append_assoc]; rfl
    | false => rw [if_neg (by simp), List.filter_cons_of_neg (by simp [h])]
theorem tupleV_fl (xs : List Val) (st : Store) : tupleV [.fl xs] st = .ok (.tup xs) st := rfl
theorem tupleV_ref {st : Store} {i : Nat} {xs : List Val} (h : st[i]? = some (.lst xs)) : tupleV [.ref i] st = .ok (.tup xs) st := by
  unfold tupleV lstOf
  simp [h]
theorem gCmp_in {α : Type} [DecidableEq α] [Enc α] {st : Store} {v : Val} {xs : List α} (hs : seqOf st v = some (xs.map enc)) (x : α) (h : Enc.dp α ≤ 12 := by decide) : gCmp .In (enc x) v st = .ok (.bl (decide (x ∈ xs))) st := by
  unfold gCmp cmpop
  dsimp only
  rw [pyIn_enc hs x h]
  rfl
theorem cmp_in {α : Type} [DecidableEq α] [Enc α] {st : Store} {v : Val} {xs : List α} (hs : seqOf st v = some (xs.map enc)) (x : α) (h : Enc.dp α ≤ 12 := by decide) : cmpop .In (enc x) v st = some (decide (x ∈ xs)) := pyIn_enc hs x h
theorem cmp_notin {α : Type} [DecidableEq α] [Enc α] {st : Store} {v : Val} {xs : List α} (hs : seqOf st v = some (xs.map enc)) (x : α) (h : Enc.dp α ≤ 12 := by decide) : cmpop .NotIn (enc x) v st = some (decide (x ∉ xs)) := by
  show (pyIn st (enc x) v).map (!·) = _
  rw [pyIn_enc hs x h]
  simp
theorem optB_some (b : Bool) (st : Store) : optB (some b) st = .ok b st := rfl
theorem bool_some (b : Bool) (st : Store) : Mi.bool (some b) st = .ok (.bl b) st := rfl
theorem tstV_bl (b : Bool) (st : Store) : tstV (.bl b) st = .ok b st := rfl
end Mi
namespace Mi
open PySem L2
open Enc (enc)
theorem forL_foldI {α S : Type} {g : Gd} {tg : Tg} {b : Env → Store → Res (Fw × Env)} (v : α → Val) (E : S → Env) (T : S → Store) (step : S → α → S) (I : List α → S → Prop)
    (h : ∀ s x xs, I (x :: xs) s → ∃ σ', asg tg (v x) (E s) (T s) = some σ' ∧ ∃ fw, (fw = .nx ∨ fw = .ct) ∧ b σ' (T s) = .ok (fw, E (step s x)) (T (step s x)) ∧ g.ok (T (step s x)) = true ∧ I xs (step s x)) :
    ∀ (items : List α) (s : S), I items s → forL g tg b (items.map v) (E s) (T s) = .ok (.nx, E (items.foldl step s)) (T (items.foldl step s))
  | [], s, _ => rfl
  | x :: xs, s, hI => by
    obtain ⟨σ', e, fw, hf, hb, hg, hI'⟩ := h s x xs hI
    rw [List.map_cons, forL, e]
    dsimp only
    rw [hb, List.foldl_cons]
    dsimp only [Res.bnd]
    rcases hf with rfl | rfl
    · dsimp only
      rw [if_pos hg]
      exact forL_foldI v E T step I h xs (step s x) hI'
    · dsimp only
      rw [if_pos hg]
      exact forL_foldI v E T step I h xs (step s x) hI'
theorem methV_room {R : List RuleD} {ns : List Nm} {t m : Str} {ev : Store → Res (List Val)} {run : List Val → Store → Res Val} {st : Store} (hm : [(("rules" : Str), Val.tup (R.map ruleV)), ("names", enc ns), ("text", .str t)].lookup m = none) : methV 1 m ev run (roomV R ns t) st = (ev st).bnd fun ws st => run (roomV R ns t :: ws) st := by
  unfold methV roomV fldsOf
  dsimp only
  rw [if_pos ⟨rfl, hm⟩]
end Mi
namespace Mi
open PySem L2
open Enc (enc)
theorem dcV_nm {own : List Nat} {tg : Tg} {fk fv : Env → Store → Res Val} {σ : Env} {g : Val} {st : Store} {xs : List Nm} (hs : SeqV g (xs.map enc)) (hl : xs.length ≤ lim)
    (h : ∀ x : Nm, ∃ σ', asg tg (enc x) (wipeE σ own) st = some σ' ∧ fk σ' st = .ok (enc x) st ∧ fv σ' st = .ok (.bl true) st) :
    dcV .val own tg fk fv σ [g] st = .ok (.ref st.length) (st ++ [.dic (dkv (ded [] xs)) false]) := by
  unfold dcV
  obtain ⟨gd, e, hg⟩ := hs.iter st
  rw [e]
  dsimp only [Res.bnd]
  rw [if_pos (hg st)]
  have := dcL_nm (fk := fk) (fv := fv) (σ := wipeE σ own) (tg := tg) (hg st) h xs [] (by simpa using hl)
  rw [show (dkv [] : List (Val × Val)) = [] from rfl] at this
  rw [this]
theorem walk_dkv {st : Store} {i : Nat} {xs : List Nm} {lk : Bool} (h : st[i]? = some (.dic (dkv xs) lk)) : walk .val [.ref i] st = some (xs.map enc, .dic (.ref i) (dkv xs), st.set i (.dic (dkv xs) true)) := by
  unfold walk walkVal
  dsimp only
  rw [h]
  dsimp only
  unfold dkv
  rw [List.map_map]
  rfl
theorem gdok_dic {st : Store} {i : Nat} {kvs : List (Val × Val)} (h : i < st.length) : Gd.ok (st.set i (.dic kvs true)) (.dic (.ref i) kvs) = true := by
  simp [Gd.ok, dicOf, List.getElem?_set_self h]
theorem isiV_tup {oc : Nat → Bool} {tb : Kd → Option Bool} {g : Val} {xs : List Val} {b : Bool} (h : SeqV g xs) (h1 : tb .lst = some b) (h2 : tb .tup = some b) (st : Store) : isiV oc tb g st = .ok (.bl b) st := by
  unfold isiV
  rcases h.kd oc st with e | e <;> rw [e] <;> dsimp only
  · rw [h1]; rfl
  · rw [h2]; rfl
theorem letter_in (c : Nat) (h1 : 97 ≤ c) (h2 : c ≤ 122) (st : Store) : gCmp .In (.str ⟨#[c]⟩) (.str ("abcdefghijklmnopqrstuvwxyz" : Str)) st = .ok (.bl true) st := by
  have key : ∀ i : Fin 26, pyIn [] (.str ⟨#[97 + i.1]⟩) (.str ("abcdefghijklmnopqrstuvwxyz" : Str)) = some true := by decide +kernel
  have := key ⟨c - 97, by omega⟩
  have e : 97 + (c - 97) = c := by omega
  dsimp only at this
  rw [e] at this
  unfold gCmp cmpop
  dsimp only
  show Mi.bool (pyIn st _ _) st = _
  have e2 : pyIn st (.str ⟨#[c]⟩) (.str ("abcdefghijklmnopqrstuvwxyz" : Str)) = pyIn [] (.str ⟨#[c]⟩) (.str ("abcdefghijklmnopqrstuvwxyz" : Str)) := rfl
  rw [e2, this]
  rfl
theorem isName_chars {s : Str} (h : isName s = true) : ∀ c ∈ s.cps.toList, 97 ≤ c ∧ c ≤ 122 := by
  unfold isName at h
  rw [Bool.and_eq_true] at h
  have h := h.2
  rw [Array.all_eq_true'] at h
  intro c hc
  have := h c (by simpa using hc)
  rw [Bool.and_eq_true] at this
  exact ⟨of_decide_eq_true this.1, of_decide_eq_true this.2⟩
theorem isName_if {s : Str} (h : isName s = true) : s ≠ ("if" : Str) := by
  unfold isName at h
  rw [Bool.and_eq_true, Bool.and_eq_true] at h
  exact of_decide_eq_true h.1.2
end Mi
namespace Mi
open PySem L2
open Enc (enc)
def roomTxt : List RuleD → Str
  | [] => ("" : Str)
  | r :: R => R.foldl (fun acc x => Str.empty ++ acc ++ ("\n" : Str) ++ ruleTxt x) (ruleTxt r)
theorem len_app (a b : Str) : (a ++ b).length = a.length + b.length := by
  show (a.cps ++ b.cps).size = _
  rw [Array.size_append]; rfl
theorem len_empty : Str.empty.length = 0 := rfl
theorem len_glue (sep : Str) : ∀ (xs : List Str) (x : Array Nat), (xs.foldl (fun acc p => acc ++ sep.cps ++ p.cps) x).size = x.size + (xs.map (·.length)).sum + xs.length * sep.length
  | [], x => by simp
  | y :: xs, x => by
    rw [List.foldl_cons, len_glue sep xs, Array.size_append, Array.size_append, List.map_cons, List.sum_cons, List.length_cons, Nat.succ_mul]
    show x.size + sep.length + y.length + _ + _ = _
    omega
theorem len_join (sep : Str) (xs : List Str) : (Txt.join sep xs).length ≤ (xs.map (·.length)).sum + xs.length * sep.length := by
  cases xs with
  | nil => exact Nat.zero_le _
  | cons x xs =>
    show (xs.foldl (fun acc p => acc ++ sep.cps ++ p.cps) x.cps).size ≤ _
    rw [len_glue, List.map_cons, List.sum_cons, List.length_cons, Nat.succ_mul]
    show x.length + _ + _ ≤ _
    omega
theorem sum_len (gs : List Nm) : (gs.map (fun x => x.1.length)).sum ≤ 3 * gs.length := by
  induction gs with
  | nil => simp
  | cons x gs ih =>
    rw [List.map_cons, List.sum_cons, List.length_cons]
    have := (isName_len x.ok).1
    omega
theorem len_goneTxt (gs : List Nm) : (Txt.join (" " : Str) (gs.map (·.1))).length ≤ 4 * gs.length := by
  refine Nat.le_trans (len_join _ _) ?_
  have := sum_len gs
  rw [List.map_map, List.length_map]
  have e : (" " : Str).length = 1 := by decide +kernel
  rw [e]
  show (gs.map (fun x => x.1.length)).sum + _ ≤ _
  omega
theorem len_ruleTxt {r : RuleD} (h : r.gone.length ≤ 60) : (ruleTxt r).length ≤ 300 := by
  unfold ruleTxt
  have h1 := (isName_len r.name.ok).1
  split
  · omega
  · have h2 := len_goneTxt r.gone
    have e : (" if " : Str).length = 4 := by decide +kernel
    rw [len_app, len_app, len_app, len_empty, e]
    omega
theorem fmtV_str {x : Str} (h : x.length ≤ lim) (st : Store) : fmtV (.str x) st = .ok (.str x) st := by
  unfold fmtV
  dsimp only
  rw [if_pos h]
theorem jsV_3 {fa fb fc : Env → Store → Res Val} {σ : Env} {st : Store} {a b c : Str} (ha : fa σ st = .ok (.str a) st) (hb : fb σ st = .ok (.str b) st) (hc : fc σ st = .ok (.str c) st) (hl : a.length + b.length + c.length ≤ lim) :
    jsV [fa, fb, fc] Str.empty σ st = .ok (.str (Str.empty ++ a ++ b ++ c)) st := by
  have l1 : (Str.empty ++ a).length ≤ lim := by rw [len_app, len_empty]; omega
  have l2 : (Str.empty ++ a ++ b).length ≤ lim := by rw [len_app, len_app, len_empty]; omega
  have l3 : (Str.empty ++ a ++ b ++ c).length ≤ lim := by rw [len_app, len_app, len_app, len_empty]; omega
  simp only [jsV, ha, hb, hc, Res.bnd_ok, catV, if_pos l1, if_pos l2, if_pos l3]
theorem joinV_nm {sep : Str} {gs : List Nm} (hs : sep.length ≤ 4) (hl : gs.length ≤ 100000) (st : Store) : bmV "str" joinV (fun st => .ok [enc gs] st) (.str sep) st = .ok (.str (Txt.join sep (gs.map (·.1)))) st := by
  show joinV (.str sep) [enc gs] st = _
  unfold joinV
  dsimp only [enc_list, seqOf]
  rw [mapO_some (f := asS) (v := enc) (u := fun x : Nm => x.1) (fun x => rfl)]
  dsimp only
  rw [if_pos]
  have := sum_len gs
  rw [List.map_map, List.length_map]
  have h3 : gs.length * sep.length ≤ gs.length * 4 := Nat.mul_le_mul_left _ hs
  show (gs.map (fun x => x.1.length)).sum + _ ≤ _
  omega
theorem lenV_lot {α : Type} [DecidableEq α] [Enc α] (xs : List α) (st : Store) : lenV [enc xs] st = .ok (.int xs.length) st := by
  show Res.ok (Val.int (xs.map enc).length) st = _
  rw [List.length_map]
theorem cmp_eq_int (i j : Int) (st : Store) : cmpop .Eq (.int i) (.int j) st = some (decide (i = j)) := rfl
theorem enumFrom_map {α : Type} (v : α → Val) : ∀ (xs : List α) (n : Nat), enumFrom n (xs.map v) = (xs.zipIdx n).map fun p => .tup [.int (p.2 : Int), v p.1]
  | [], n => rfl
  | x :: xs, n => by rw [List.map_cons, enumFrom, enumFrom_map v xs, List.zipIdx_cons, List.map_cons]
theorem blwL_map {α : Type} {v : α → Val} {n : Nat} (h : ∀ x, (v x).blw n = true) : ∀ xs : List α, Val.blwL n (xs.map v) = true
  | [] => rfl
  | x :: xs => by rw [List.map_cons, Val.blwL, h, blwL_map h xs]; rfl
theorem blw_ruleV (n : Nat) (r : RuleD) : (ruleV r).blw n = true := rfl
theorem blw_roomV (n : Nat) (R : List RuleD) (ns : List Nm) (t : Str) : (roomV R ns t).blw n = true := rfl
end Mi

/-! Rn, part 5: boxes, arithmetic. -/
namespace Mi
open PySem L2
open Enc (enc)
def boxO (x s c : Int) : Ob := .lst [.int x, .int s, .int c]
section
variable {S : Store} {b : Nat} {x s c : Int}
theorem set_at (h : b < S.length) (o : Ob) : (S.set b o)[b]? = some o := by rw [List.getElem?_set_self h]
theorem idx_box0 (h : b < S.length) : idxV (.ref b) (.int 0) (S.set b (boxO x s c)) = .ok (.int x) (S.set b (boxO x s c)) := by
  simp [idxV, index, indexS, seqOf, lstOf, set_at h, boxO, atI, ixN]
theorem idx_box1 (h : b < S.length) : idxV (.ref b) (.int 1) (S.set b (boxO x s c)) = .ok (.int s) (S.set b (boxO x s c)) := by
  simp [idxV, index, indexS, seqOf, lstOf, set_at h, boxO, atI, ixN]
theorem idx_box2 (h : b < S.length) : idxV (.ref b) (.int 2) (S.set b (boxO x s c)) = .ok (.int c) (S.set b (boxO x s c)) := by
  simp [idxV, index, indexS, seqOf, lstOf, set_at h, boxO, atI, ixN]
theorem set_box0 (h : b < S.length) (y : Int) : setIV (.ref b) (.int 0) (.int y) (S.set b (boxO x s c)) = .ok () (S.set b (boxO y s c)) := by
  simp [setIV, set_at h, boxO, ixN]
theorem set_box1 (h : b < S.length) (y : Int) : setIV (.ref b) (.int 1) (.int y) (S.set b (boxO x s c)) = .ok () (S.set b (boxO x y c)) := by
  simp [setIV, set_at h, boxO, ixN]
theorem set_box2 (h : b < S.length) (y : Int) : setIV (.ref b) (.int 2) (.int y) (S.set b (boxO x s c)) = .ok () (S.set b (boxO x s y)) := by
  simp [setIV, set_at h, boxO, ixN]
theorem blw_box (n : Nat) : (boxO x s c).blw n = true := rfl
theorem all_set {p : Ob → Bool} (h : S.all p = true) {o : Ob} (ho : p o = true) (b : Nat) : (S.set b o).all p = true := by
  rw [List.all_eq_true] at h ⊢
  intro y hy
  rcases List.mem_or_eq_of_mem_set hy with hy | rfl
  · exact h y hy
  · exact ho
theorem take_set (o : Ob) : (S.set b o).take (S.set b o).length = S.set b o := List.take_length
end
theorem bin_add (mt : Bool) (i j : Int) (st : Store) : binop mt .Add (.int i) (.int j) st = .ok (.int (i + j)) st := rfl
theorem bin_sub (mt : Bool) (i j : Int) (st : Store) : binop mt .Sub (.int i) (.int j) st = .ok (.int (i - j)) st := rfl
theorem bin_mulR (mt : Bool) (i j : Int) (st : Store) (h : in64 j = true) : binop mt .Mult (.int i) (.int j) st = .ok (.int (i * j)) st := by
  show (if in64 i || in64 j then _ else _) = _
  rw [if_pos (by rw [h, Bool.or_true])]
theorem bin_mulL (mt : Bool) (i j : Int) (st : Store) (h : in64 i = true) : binop mt .Mult (.int i) (.int j) st = .ok (.int (i * j)) st := by
  show (if in64 i || in64 j then _ else _) = _
  rw [if_pos (by rw [h, Bool.true_or])]
theorem bin_mod (mt : Bool) (i j : Int) (st : Store) (h : 0 < j) : binop mt .Mod (.int i) (.int j) st = .ok (.int (i % j)) st := by
  show (if 0 < j then _ else _) = _
  rw [if_pos h]
theorem bin_div (mt : Bool) (i j : Int) (st : Store) (h : 0 < j ∧ j < 1073741824) : binop mt .FloorDiv (.int i) (.int j) st = .ok (.int (i / j)) st := by
  show (if 0 < j ∧ j < 1073741824 then _ else _) = _
  rw [if_pos h]
theorem bin_pow (mt : Bool) (i j : Int) (st : Store) (h : 0 ≤ j ∧ j ≤ 1000 ∧ in64 i = true) : binop mt .Pow (.int i) (.int j) st = .ok (.int (i ^ j.toNat)) st := by
  show (if 0 ≤ j ∧ j ≤ 1000 ∧ in64 i = true then _ else _) = _
  rw [if_pos h]
theorem cmp_lt_int (i j : Int) (st : Store) : cmpop .Lt (.int i) (.int j) st = some (decide (i < j)) := rfl
theorem cmp_gt_int (i j : Int) (st : Store) : cmpop .Gt (.int i) (.int j) st = some (decide (j < i)) := rfl
theorem cmp_ge_int (i j : Int) (st : Store) : cmpop .GtE (.int i) (.int j) st = some (decide (j ≤ i)) := rfl
theorem cmp_le_int (i j : Int) (st : Store) : cmpop .LtE (.int i) (.int j) st = some (decide (i ≤ j)) := rfl
theorem intV1_int (i : Int) (st : Store) : intV1 [.int i] st = .ok (.int i) st := rfl
theorem intV1_bl (b : Bool) (st : Store) : intV1 [.bl b] st = .ok (.int (if b then 1 else 0)) st := rfl
theorem absV_int (i : Int) (st : Store) : absV [.int i] st = .ok (.int (if i < 0 then -i else i)) st := rfl
end Mi
namespace Mi
open PySem L2
open Enc (enc)
mutual
theorem Val.blw_mono {n m : Nat} (h : n ≤ m) : ∀ {v : Val}, v.blw n = true → v.blw m = true
  | .non, _ => rfl
  | .bl _, _ => rfl
  | .int _, _ => rfl
  | .str _, _ => rfl
  | .tup xs, e => Val.blwL_mono h (xs := xs) e
  | .wt xs, e => Val.blwL_mono h (xs := xs) e
  | .wl xs, e => Val.blwL_mono h (xs := xs) e
  | .fl xs, e => Val.blwL_mono h (xs := xs) e
  | .ref i, e => by
    unfold Val.blw at e ⊢
    have := of_decide_eq_true e
    exact decide_eq_true (by omega)
  | .ins _ _, _ => rfl
  | .cl _, _ => rfl
theorem Val.blwL_mono {n m : Nat} (h : n ≤ m) : ∀ {xs : List Val}, Val.blwL n xs = true → Val.blwL m xs = true
  | [], _ => rfl
  | x :: xs, e => by
    rw [Val.blwL, Bool.and_eq_true] at e ⊢
    exact ⟨Val.blw_mono h e.1, Val.blwL_mono h e.2⟩
end
theorem Val.blwF_mono {n m : Nat} (h : n ≤ m) : ∀ {xs : List (Str × Val)}, Val.blwF n xs = true → Val.blwF m xs = true
  | [], _ => rfl
  | (f, x) :: xs, e => by
    rw [Val.blwF, Bool.and_eq_true] at e ⊢
    exact ⟨Val.blw_mono h e.1, Val.blwF_mono h e.2⟩
theorem Val.blwD_mono {n m : Nat} (h : n ≤ m) : ∀ {xs : List (Val × Val)}, Val.blwD n xs = true → Val.blwD m xs = true
  | [], _ => rfl
  | (f, x) :: xs, e => by
    rw [Val.blwD, Bool.and_eq_true, Bool.and_eq_true] at e ⊢
    exact ⟨⟨Val.blw_mono h e.1.1, Val.blw_mono h e.1.2⟩, Val.blwD_mono h e.2⟩
theorem Ob.blw_mono {n m : Nat} (h : n ≤ m) : ∀ {o : Ob}, o.blw n = true → o.blw m = true
  | .lst _, e => Val.blwL_mono h e
  | .dic _ _, e => Val.blwD_mono h e
  | .ins _ _, e => Val.blwF_mono h e
def Wf (S : Store) : Prop := S.all (Ob.blw S.length) = true
theorem Wf.push {S : Store} (h : Wf S) {o : Ob} (ho : o.blw S.length = true) : Wf (S ++ [o]) := by
  unfold Wf at h ⊢
  rw [List.all_append, List.length_append, List.length_singleton, Bool.and_eq_true]
  refine ⟨?_, ?_⟩
  · rw [List.all_eq_true] at h ⊢
    exact fun x hx => Ob.blw_mono (Nat.le_succ _) (h x hx)
  · simp only [List.all_cons, List.all_nil, Bool.and_true]
    exact Ob.blw_mono (Nat.le_succ _) ho
theorem Wf.set {S : Store} (h : Wf S) {o : Ob} (ho : o.blw S.length = true) (b : Nat) : Wf (S.set b o) := by
  unfold Wf at h ⊢
  rw [List.length_set]
  exact all_set h ho b
theorem bm_list {st : Store} {i : Nat} {xs : List Val} {g : Val → List Val → Store → Res Val} {f : Store → Res (List Val)} (h : st[i]? = some (.lst xs)) : bmV "list" g f (.ref i) st = (f st).bnd fun ws st => g (.ref i) ws st := by
  unfold bmV
  rw [if_pos (by simp [isTy, lstOf, h])]
theorem appendV_at {st : Store} {i : Nat} {xs : List Val} {y : Val} (h : st[i]? = some (.lst xs)) (hl : xs.length < lim) : appendV (.ref i) [y] st = .ok .non (st.set i (.lst (xs ++ [y]))) := by
  unfold appendV
  dsimp only
  rw [h]
  dsimp only
  rw [if_pos hl]
theorem popAtV_at {st : Store} {i : Nat} {xs : List Val} {k : Int} {y : Val} (h : st[i]? = some (.lst xs)) (hk : 0 ≤ k ∧ k < (xs.length : Int) ∧ xs.length ≤ lim) (hy : xs[k.toNat]? = some y) : popAtV (.ref i) [.int k] st = .ok y (st.set i (.lst (xs.eraseIdx k.toNat))) := by
  unfold popAtV
  dsimp only
  rw [h]
  dsimp only
  rw [if_pos hk, hy]
theorem lenV_ref {st : Store} {i : Nat} {xs : List Val} (h : st[i]? = some (.lst xs)) : lenV [.ref i] st = .ok (.int xs.length) st := by
  simp [lenV, seqOf, lstOf, h]
theorem iterV_rng (n : Nat) (h : n ≤ 1000000) (st : Store) : iterV .rng [.int (n : Int)] st = .ok (rngL 0 n, .none) st := by
  unfold iterV walk walkRng
  dsimp only
  rw [if_pos ((inRng_iff _).mpr (by omega))]
  simp
theorem length_rngL : ∀ (n : Nat) (i : Int), (rngL i n).length = n
  | 0, _ => rfl
  | n + 1, i => by rw [rngL, List.length_cons, length_rngL n]
theorem listV_seq {g : Val} {xs : List Val} (h : SeqV g xs) (mt : Bool) (st : Store) : listV mt [g] st = newL mt xs st := by
  unfold listV
  dsimp only
  rw [h.seqOf]
theorem par2_5 (i j : Nat) (a b : Val) (σ : Env) (st : Store) (h : i < σ.length ∧ j < σ.length) : par2 i j σ [a, b] st = .ok (.nx, (σ.set i (some a)).set j (some b)) st := by
  unfold par2
  dsimp only
  rw [if_pos h]
theorem par3_5 (i j l : Nat) (a b c : Val) (σ : Env) (st : Store) (h : i < σ.length ∧ j < σ.length ∧ l < σ.length) : par3 i j l σ [a, b, c] st = .ok (.nx, ((σ.set i (some a)).set j (some b)).set l (some c)) st := by
  unfold par3
  dsimp only
  rw [if_pos h]
/-! two lists behind a store -/
section
variable {S : Store} {b : Nat} {L F B : Ob}
theorem two_get0 (hb : b < S.length) : ((S ++ [L, F]).set b B)[S.length]? = some L := by
  rw [List.getElem?_set_ne (by omega), List.getElem?_append_right (by omega)]
  simp
theorem two_get1 (hb : b < S.length) : ((S ++ [L, F]).set b B)[S.length + 1]? = some F := by
  rw [List.getElem?_set_ne (by omega), List.getElem?_append_right (by omega)]
  simp
theorem two_set0 (hb : b < S.length) (L' : Ob) : ((S ++ [L, F]).set b B).set S.length L' = (S ++ [L', F]).set b B := by
  rw [List.set_comm _ _ (by omega), List.set_append_right _ _ (by omega)]
  simp
theorem two_set1 (hb : b < S.length) (F' : Ob) : ((S ++ [L, F]).set b B).set (S.length + 1) F' = (S ++ [L, F']).set b B := by
  rw [List.set_comm _ _ (by omega), List.set_append_right _ _ (by omega)]
  simp
theorem two_take (hb : b < S.length) : ((S ++ [L, F]).set b B).take S.length = S.set b B := by
  rw [List.set_append_left _ _ hb, List.take_append_of_le_length (by simp)]
  rw [show S.length = (S.set b B).length by simp, List.take_length]
end
theorem erase_perm {α : Type} {xs : List α} {k : Nat} {y : α} (h : xs[k]? = some y) : (xs.eraseIdx k ++ [y]).Perm xs := by
  obtain ⟨hk, e⟩ := List.getElem?_eq_some_iff.mp h
  rw [List.eraseIdx_eq_take_drop_succ]
  have h2 : xs = xs.take k ++ y :: xs.drop (k + 1) := by rw [← e, List.getElem_cons_drop, List.take_append_drop]
  conv => rhs; rw [h2]
  rw [List.append_assoc]
  exact List.Perm.append_left _ (List.perm_append_singleton y _)
end Mi
namespace Mi
open PySem L2
open Enc (enc)
theorem erase_map {α β : Type} (v : α → β) : ∀ (xs : List α) (k : Nat), (xs.map v).eraseIdx k = (xs.eraseIdx k).map v
  | [], _ => rfl
  | x :: xs, 0 => rfl
  | x :: xs, k + 1 => by rw [List.map_cons, List.eraseIdx_cons_succ, List.eraseIdx_cons_succ, List.map_cons, erase_map v xs]
end Mi
namespace Mi
open PySem L2
open Enc (enc)
theorem sIx_none (n d : Nat) : HT.sIx n d none = d := rfl
theorem sIx_some (n d k : Nat) : HT.sIx n d (some (k : Int)) = min k n := HT.sIx_nat n d k
theorem cut_take {α : Type} (xs : List α) (n : Nat) : cutL xs none (some (n : Int)) = xs.take n := by
  unfold cutL
  rw [sIx_some, sIx_none, List.drop_zero, Nat.sub_zero]
  by_cases h : n ≤ xs.length
  · rw [Nat.min_eq_left h]
  · rw [Nat.min_eq_right (by omega), List.take_of_length_le (by omega), List.take_of_length_le (by omega)]
theorem cut_drop {α : Type} (xs : List α) (n : Nat) : cutL xs (some (n : Int)) none = xs.drop n := by
  unfold cutL
  rw [sIx_some, sIx_none]
  by_cases h : n ≤ xs.length
  · rw [Nat.min_eq_left h, List.take_of_length_le (by simp)]
  · rw [Nat.min_eq_right (by omega), List.drop_of_length_le (by omega), List.drop_of_length_le (by omega)]; simp
theorem slc_fl_take (xs : List Val) (n : Nat) (st : Store) : slcV false (.fl xs) none (some (n : Int)) st = .ok (.fl (xs.take n)) st := by
  show newL false (cutL xs none (some (n : Int))) st = _
  rw [cut_take]
  rfl
theorem slc_fl_drop (xs : List Val) (n : Nat) (st : Store) : slcV false (.fl xs) (some (n : Int)) none st = .ok (.fl (xs.drop n)) st := by
  show newL false (cutL xs (some (n : Int)) none) st = _
  rw [cut_drop]
  rfl
theorem intV_int (i : Int) (st : Store) : intV (.int i) st = .ok (some i) st := rfl
end Mi
namespace Mi
open PySem L2
open Enc (enc)
section
variable {S : Store} {b : Nat} {L B : Ob}
theorem one_eq (hb : b < S.length) : S.set b B ++ [L] = (S ++ [L]).set b B := by rw [List.set_append_left _ _ hb]
theorem one_get (hb : b < S.length) : ((S ++ [L]).set b B)[S.length]? = some L := by
  rw [List.getElem?_set_ne (by omega), List.getElem?_append_right (by omega)]
  simp
theorem one_set (hb : b < S.length) (L' : Ob) : ((S ++ [L]).set b B).set S.length L' = (S ++ [L']).set b B := by
  rw [List.set_comm _ _ (by omega), List.set_append_right _ _ (by omega)]
  simp
theorem one_take (hb : b < S.length) : ((S ++ [L]).set b B).take S.length = S.set b B := by
  rw [List.set_append_left _ _ hb, List.take_append_of_le_length (by simp)]
  rw [show S.length = (S.set b B).length by simp, List.take_length]
theorem set_take : (S.set b B).take S.length = S.set b B := by
  rw [show S.length = (S.set b B).length by simp, List.take_length]
end
theorem seqOf_ref {st : Store} {i : Nat} {xs : List Val} (h : st[i]? = some (.lst xs)) : seqOf st (.ref i) = some xs := by
  unfold seqOf lstOf
  dsimp only
  rw [h]
theorem lstOf_ref {st : Store} {i : Nat} {xs : List Val} (h : st[i]? = some (.lst xs)) : lstOf st (.ref i) = some xs := by
  unfold lstOf
  dsimp only
  rw [h]
theorem cmp_eq_def (x y : Val) (st : Store) : cmpop .Eq x y st = pyEq st x y := rfl
theorem gCmp_ge_int (i j : Int) (st : Store) : gCmp .GtE (.int i) (.int j) st = .ok (.bl (decide (j ≤ i))) st := rfl
theorem gCmp_gt_int (i j : Int) (st : Store) : gCmp .Gt (.int i) (.int j) st = .ok (.bl (decide (j < i))) st := rfl
theorem cmp_ne_enc {α : Type} [DecidableEq α] [Enc α] (x y : α) (st : Store) (h : Enc.dp α ≤ 12 := by decide) : cmpop .NotEq (enc x) (enc y) st = some (decide (x ≠ y)) := by
  show (pyEq st (enc x) (enc y)).map (!·) = _
  rw [pyEq_enc x y h]
  simp
theorem cmp_eq_enc {α : Type} [DecidableEq α] [Enc α] (x y : α) (st : Store) (h : Enc.dp α ≤ 12 := by decide) : cmpop .Eq (enc x) (enc y) st = some (decide (x = y)) := pyEq_enc x y h
end Mi
namespace Mi
open PySem L2
open Enc (enc)
theorem iterV_rngI (k : Int) (h : 0 ≤ k ∧ k ≤ 1000000) (st : Store) : iterV .rng [.int k] st = .ok (rngL 0 k.toNat, .none) st := by
  obtain ⟨n, rfl⟩ : ∃ n : Nat, k = (n : Int) := ⟨k.toNat, by omega⟩
  rw [iterV_rng n (by omega)]
  simp
theorem not_mem_take {ns : List Nm} (h : ns.Nodup) {k : Nat} (hk : k < ns.length) : ns[k] ∉ ns.take k := by
  intro hm
  obtain ⟨i, hi, e⟩ := List.mem_iff_getElem.mp hm
  rw [List.length_take] at hi
  rw [List.getElem_take] at e
  exact List.pairwise_iff_getElem.mp h i k (by omega) hk (by omega) e
end Mi
namespace Mi
open PySem L2
open Enc (enc)
theorem idx_wl {xs : List Int} {k : Nat} (h : k < xs.length) (st : Store) : idxV (.wl (xs.map .int)) (.int (k : Int)) st = .ok (.int xs[k]) st := by
  have e : atI (xs.map Val.int) (k : Int) = some (Val.int xs[k]) := by
    unfold atI ixN
    rw [if_pos (by omega), List.length_map]
    simp [h]
  unfold idxV index indexS seqOf lstOf
  dsimp only
  rw [e]
theorem idx_pick (a c : Int) (t : Bool) (st : Store) : idxV (.fl [.int a, .int c]) (.int (if t then 1 else 0)) st = .ok (.int (if t then c else a)) st := by
  cases t <;> rfl
theorem lenV_wl (xs : List Val) (st : Store) : lenV [.wl xs] st = .ok (.int xs.length) st := rfl
theorem blwL_ints (n : Nat) : ∀ xs : List Int, Val.blwL n (xs.map .int) = true
  | [] => rfl
  | x :: xs => by rw [List.map_cons, Val.blwL, blwL_ints n xs]; rfl
end Mi

/-! Rn, part 6: sequences of the store; the law's own lots. -/
namespace Mi
open PySem L2
open Enc (enc)
/-- a sequence, perhaps of the store -/
def SeqS (S : Store) (g : Val) (xs : List Val) : Prop := SeqV g xs ∨ ∃ i, g = .ref i ∧ S[i]? = some (.lst xs)
theorem SeqV.s {g : Val} {xs : List Val} (h : SeqV g xs) (S : Store) : SeqS S g xs := .inl h
theorem SeqS.app {S : Store} {g : Val} {xs : List Val} (h : SeqS S g xs) (T : Store) : SeqS (S ++ T) g xs := by
  rcases h with h | ⟨i, rfl, h⟩
  · exact .inl h
  · refine .inr ⟨i, rfl, ?_⟩
    have hi := (List.getElem?_eq_some_iff.mp h).1
    rw [List.getElem?_append_left hi]
    exact h
theorem SeqS.set {S : Store} {g : Val} {xs : List Val} (h : SeqS S g xs) {n : Nat} {o : Ob} (hn : S.length ≤ n) : SeqS (S.set n o) g xs := by
  rcases h with h | ⟨i, rfl, h⟩
  · exact .inl h
  · refine .inr ⟨i, rfl, ?_⟩
    have hi := (List.getElem?_eq_some_iff.mp h).1
    rw [List.getElem?_set_ne (by omega)]
    exact h
theorem SeqS.seqOf {S : Store} {g : Val} {xs : List Val} (h : SeqS S g xs) : Mi.seqOf S g = some xs := by
  rcases h with h | ⟨i, rfl, h⟩
  · exact h.seqOf S
  · exact seqOf_ref h
theorem SeqS.walk {S : Store} {g : Val} {xs : List Val} (h : SeqS S g xs) : ∃ gd, Mi.walk .val [g] S = some (xs, gd, S) ∧ ∀ S', SeqS S' g xs → Gd.ok S' gd = true := by
  rcases h with h | ⟨i, rfl, h⟩
  · obtain ⟨gd, e, hg⟩ := h.walkS S
    exact ⟨gd, e, fun S' _ => hg S'⟩
  · refine ⟨.lst (.ref i) xs, ?_, fun S' h' => ?_⟩
    · unfold Mi.walk walkVal
      dsimp only
      rw [h]
    · rcases h' with h' | ⟨j, e, h'⟩
      · rcases h' with h' | h' | h' | h' <;> cases h'
      · cases e
        simp [Gd.ok, lstOf, h']
theorem SeqS.iter {S : Store} {g : Val} {xs : List Val} (h : SeqS S g xs) : ∃ gd, iterV .val [g] S = .ok (xs, gd) S ∧ ∀ S', SeqS S' g xs → Gd.ok S' gd = true := by
  obtain ⟨gd, e, hg⟩ := h.walk
  exact ⟨gd, by unfold iterV; rw [e], hg⟩
theorem SeqS.len {S : Store} {g : Val} {xs : List Val} (h : SeqS S g xs) : lenV [g] S = .ok (.int xs.length) S := by
  rcases h with h | ⟨i, rfl, h⟩
  · exact h.len S
  · exact lenV_ref h
theorem SeqS.list {S : Store} {g : Val} {xs : List Val} (h : SeqS S g xs) (mt : Bool) : listV mt [g] S = newL mt xs S := by
  unfold listV
  dsimp only
  rw [h.seqOf]
/-- a list kept behind a store -/
theorem end_get (S : Store) (o : Ob) : (S ++ [o])[S.length]? = some o := by rw [List.getElem?_append_right (Nat.le_refl _)]; simp
theorem end_set (S : Store) (o o' : Ob) : (S ++ [o]).set S.length o' = S ++ [o'] := by rw [List.set_append_right _ _ (Nat.le_refl _)]; simp
theorem end_take (S : Store) (T : Store) : (S ++ T).take S.length = S := by simp
def adj : List Nm → List Nm → List Nm
  | acc, [] => acc
  | acc, y :: ys => adj (if acc = [] ∨ acc.getLast? ≠ some y then acc ++ [y] else acc) ys
theorem adj_spec : ∀ (ys acc : List Nm), IsLot acc → ys.Pairwise (fun a b => ltN b a = false) → (∀ a ∈ acc, ∀ y ∈ ys, ltN y a = false) → IsLot (adj acc ys) ∧ ∀ x, x ∈ adj acc ys ↔ x ∈ acc ∨ x ∈ ys
  | [], acc, h, _, _ => ⟨h, fun x => by simp [adj]⟩
  | y :: ys, acc, h, hp, hl => by
    rw [List.pairwise_cons] at hp
    unfold adj
    by_cases hc : acc = [] ∨ acc.getLast? ≠ some y
    · rw [if_pos hc]
      have hay : ∀ a ∈ acc, ltN a y = true := by
        intro a ha
        cases e : ltN a y with
        | true => rfl
        | false =>
          have eq : a = y := ltN_antisymm a y (hl a ha y List.mem_cons_self) e
          subst eq
          rcases hc with hc | hc
          · rw [hc] at ha; cases ha
          · have hne : acc ≠ [] := fun z => by rw [z] at ha; cases ha
            have hlast := List.getLast_mem hne
            rw [List.getLast?_eq_some_getLast hne] at hc
            have hb := hl _ hlast a List.mem_cons_self
            have hsp : acc = acc.dropLast ++ [acc.getLast hne] := (List.dropLast_concat_getLast hne).symm
            rw [hsp] at ha
            rcases List.mem_append.mp ha with ha | ha
            · have := h
              unfold IsLot at this
              rw [hsp, List.pairwise_append] at this
              have := this.2.2 a ha _ (List.mem_singleton.mpr rfl)
              rw [hb] at this
              cases this
            · rw [List.mem_singleton] at ha
              exact absurd (by rw [← ha]) hc
      have h' : IsLot (acc ++ [y]) := by
        unfold IsLot
        rw [List.pairwise_append]
        exact ⟨h, by simp, fun a ha b hb => by rw [List.mem_singleton] at hb; subst hb; exact hay a ha⟩
      obtain ⟨i1, i2⟩ := adj_spec ys (acc ++ [y]) h' hp.2 (fun a ha z hz => by
        rcases List.mem_append.mp ha with ha | ha
        · exact hl a ha z (List.mem_cons_of_mem _ hz)
        · rw [List.mem_singleton] at ha; subst ha; exact hp.1 z hz)
      refine ⟨i1, fun x => ?_⟩
      rw [i2, List.mem_append, List.mem_singleton, List.mem_cons, or_assoc]
    · rw [if_neg hc]
      have hy : y ∈ acc := by
        have : acc.getLast? = some y := by
          apply Decidable.byContradiction
          intro z
          exact hc (.inr z)
        exact List.mem_of_getLast? this
      obtain ⟨i1, i2⟩ := adj_spec ys acc h hp.2 (fun a ha z hz => hl a ha z (List.mem_cons_of_mem _ hz))
      refine ⟨i1, fun x => ?_⟩
      rw [i2, List.mem_cons]
      constructor
      · rintro (h1 | h1)
        · exact .inl h1
        · exact .inr (.inr h1)
      · rintro (h1 | rfl | h1)
        · exact .inl h1
        · exact .inl hy
        · exact .inr h1
theorem adj_lot (xs : List Nm) : adj [] (isort ltN xs) = lotL xs := by
  obtain ⟨h1, h2⟩ := adj_spec (isort ltN xs) [] .nil (isort_pw ltN_asymm ltN_trans' xs) (fun a ha => by cases ha)
  refine (lotL_eq h1 fun x => ?_).symm
  rw [h2, (isort_perm xs).mem_iff]
  simp
theorem adj_fold : ∀ (ys acc : List Nm) (o : Option Val), (ys.foldl (fun (s : Option Val × List Nm) y => (some (enc y), if s.2 = [] ∨ s.2.getLast? ≠ some y then s.2 ++ [y] else s.2)) (o, acc)).2 = adj acc ys
  | [], acc, o => rfl
  | y :: ys, acc, o => by rw [List.foldl_cons, adj_fold ys, adj]
theorem idx_last {st : Store} {i : Nat} {α : Type} {v : α → Val} {xs : List α} {y : α} (h : st[i]? = some (.lst (xs.map v))) (hy : xs.getLast? = some y) : idxV (.ref i) (.int (-1)) st = .ok (v y) st := by
  have hn : 0 < xs.length := by cases xs with | nil => cases hy | cons => simp
  have e : atI (xs.map v) (-1) = some (v y) := by
    unfold atI ixN
    rw [if_neg (by omega), if_pos (by rw [List.length_map]; omega), List.length_map]
    rw [List.getLast?_eq_getElem?] at hy
    show (xs.map v)[((-1 : Int) + xs.length).toNat]? = _
    rw [show ((-1 : Int) + xs.length).toNat = xs.length - 1 by omega, List.getElem?_map, hy]
    rfl
  unfold idxV index indexS
  dsimp only
  rw [seqOf_ref h]
  dsimp only
  rw [e]
end Mi
namespace Mi
open PySem L2
open Enc (enc)
theorem call_both {np : Nat} {rm : Bool} {N : Nat} {body : Env → Store → Res (Fw × Env)} {ws : List Val} {st : Store} {v : Val} (hn : ws.length = np) (hv : v.blw 0 = true) (hw : Wf st)
    (h : ∀ S, (S = [] ∧ Val.blwL 0 ws = true) ∨ S = st → (body (startE N ws) S).Ok fun r st1 => retOf r.1 = some v ∧ st1.take S.length = S) : callV np rm N body ws st = .ok v st := by
  cases hz : Val.blwL 0 ws with
  | true => exact call_val hn hz hv (Ok_imp (h [] (.inl ⟨rfl, hz⟩)) fun r st1 e => e.1)
  | false =>
    refine Ok_eq (call_shared hn hz (Ok_imp (h st (.inr rfl)) fun r st1 e => ⟨v, e.1, finN_val ?_ (Val.blw_mono (Nat.zero_le _) hv) ⟨rfl, e.2⟩⟩))
    rw [e.2]
    exact hw
theorem SeqS.own {S st : Store} {g : Val} {xs : List Val} (h : SeqS st g xs) (hS : (S = [] ∧ Val.blwL 0 [g] = true) ∨ S = st) : SeqS S g xs := by
  rcases hS with ⟨rfl, hz⟩ | rfl
  · rcases h with h | ⟨i, rfl, h⟩
    · exact .inl h
    · simp [Val.blwL, Val.blw] at hz
  · exact h
end Mi
namespace Mi
open PySem L2
open Enc (enc)
theorem wf_one {α : Type} [DecidableEq α] [Enc α] (xs : List α) : Wf [Ob.lst (xs.map enc)] := by
  simp only [Wf, List.all_cons, List.all_nil, Bool.and_true, Ob.blw]
  exact blwL_enc _ _
end Mi
namespace Mi
open PySem L2
open Enc (enc)
theorem nodup_len {α : Type} [DecidableEq α] : ∀ {xs ys : List α}, xs.Nodup → (∀ x ∈ xs, x ∈ ys) → xs.length ≤ ys.length
  | [], ys, _, _ => Nat.zero_le _
  | x :: xs, ys, h, hs => by
    rw [List.nodup_cons] at h
    have hx := hs x List.mem_cons_self
    have := nodup_len (xs := xs) (ys := ys.erase x) h.2 (fun z hz => (List.mem_erase_of_ne (show z ≠ x from fun e => h.1 (e ▸ hz))).mpr (hs z (List.mem_cons_of_mem _ hz)))
    rw [List.length_erase_of_mem hx] at this
    have hp := List.length_pos_of_mem hx
    rw [List.length_cons]
    omega
theorem ded_len {xs ys : List Nm} (h : ∀ x ∈ xs, x ∈ ys) : (ded [] xs).length ≤ ys.length := nodup_len (nodup_ded xs [] .nil) fun x hx => by
  rw [mem_ded] at hx
  rcases hx with hx | hx
  · cases hx
  · exact h x hx
/-- the package's rules of what a law has drawn -/
def toRules (R : List (Nm × List Nm)) : List RuleD := R.map fun p => ⟨p.1, lotL p.2⟩
theorem mem_people {R : List (Nm × List Nm)} {x : Nm} : x ∈ (toRules R).flatMap (fun r => r.name :: r.gone) ↔ x ∈ R.flatMap fun p => p.1 :: p.2 := by
  unfold toRules
  rw [List.flatMap_map, List.mem_flatMap, List.mem_flatMap]
  constructor
  · rintro ⟨p, hp, h⟩
    refine ⟨p, hp, ?_⟩
    rw [List.mem_cons] at h ⊢
    exact h.imp id fun h => mem_lotL.mp h
  · rintro ⟨p, hp, h⟩
    refine ⟨p, hp, ?_⟩
    rw [List.mem_cons] at h ⊢
    exact h.imp id fun h => mem_lotL.mpr h
def peopleL (R : List (Nm × List Nm)) : List Nm := lotL (R.flatMap fun p => p.1 :: p.2)
theorem people_eq (R : List (Nm × List Nm)) : lotL ((toRules R).flatMap (fun r => r.name :: r.gone)) = peopleL R := lotL_congr fun x => mem_people
def lawRoom (R : List (Nm × List Nm)) : Val := roomV (toRules R) (peopleL R) (roomTxt (toRules R))
end Mi
namespace Mi
open PySem L2
open Enc (enc)
theorem rngL_nat : ∀ (n : Nat) (i : Nat) (v : Val), v ∈ rngL (i : Int) n → ∃ k : Nat, v = .int (k : Int) ∧ i ≤ k ∧ k < i + n
  | 0, _, _, h => by cases h
  | n + 1, i, v, h => by
    rw [rngL, List.mem_cons] at h
    rcases h with rfl | h
    · exact ⟨i, rfl, by omega, by omega⟩
    · obtain ⟨k, e, h1, h2⟩ := rngL_nat n (i + 1) v (by exact_mod_cast h)
      exact ⟨k, e, by omega, by omega⟩
theorem minV_2 (i j : Int) (st : Store) : minV [.int i, .int j] st = .ok (.int (if j < i then j else i)) st := rfl
theorem maxV_2 (i j : Int) (st : Store) : maxV [.int i, .int j] st = .ok (.int (if j > i then j else i)) st := rfl
theorem may_eq (R : List (Nm × List Nm)) (gs : List Nm) : mayL (toRules R) (peopleL R) gs = lotL ((R.filter fun p => decide (p.1 ∉ gs) && p.2.all fun x => decide (x ∈ gs)).map (·.1)) := by
  refine (lotL_eq ((isLot_lotL _).filter _) fun x => ?_).symm
  show _ ↔ x ∈ List.filter _ (peopleL R)
  unfold peopleL
  simp only [List.mem_map, List.mem_filter, Bool.and_eq_true, decide_eq_true_eq, List.all_eq_true, List.any_eq_true, mem_lotL, List.mem_flatMap, toRules, List.mem_cons]
  constructor
  · rintro ⟨p, ⟨hp, h1, h2⟩, rfl⟩
    exact ⟨⟨p, hp, .inl rfl⟩, h1, _, ⟨⟨p, hp, rfl⟩, rfl⟩, fun y hy => h2 y (mem_lotL.mp hy)⟩
  · rintro ⟨_, h1, r, ⟨⟨p, hp, rfl⟩, rfl⟩, h2⟩
    exact ⟨p, ⟨hp, h1, fun y hy => h2 y (mem_lotL.mpr hy)⟩, rfl⟩
theorem bin_cat {mt : Bool} {v u : Val} {xs ys : List Val} {st : Store} (hv : v = .fl xs) (hu : u = .fl ys) (hl : xs.length + ys.length ≤ lim) : binop mt .Add v u st = newL mt (xs ++ ys) st := by
  subst hv hu
  show (if _ then _ else _) = _
  rw [if_pos hl]
end Mi
namespace Mi
open PySem L2
open Enc (enc)
theorem cmp_ne_fl {α : Type} [DecidableEq α] [Enc α] (xs ys : List α) (st : Store) (h : Enc.dp α ≤ 11 := by decide) : cmpop .NotEq (.fl (xs.map enc)) (.fl (ys.map enc)) st = some (decide (xs ≠ ys)) := by
  show (pyEq st _ _).map (!·) = _
  rw [pyEq_lst (xs := xs) (ys := ys) rfl rfl h]
  simp
theorem cmp_eq_fl {α : Type} [DecidableEq α] [Enc α] (xs ys : List α) (st : Store) (h : Enc.dp α ≤ 11 := by decide) : cmpop .Eq (.fl (xs.map enc)) (.fl (ys.map enc)) st = some (decide (xs = ys)) := by
  rw [cmp_eq_def]
  exact pyEq_lst (xs := xs) (ys := ys) rfl rfl h
theorem cmp_ne_lot (xs ys : List Nm) (st : Store) : cmpop .NotEq (enc xs) (enc ys) st = some (decide (xs ≠ ys)) := cmp_ne_enc xs ys st
theorem cmp_eq_lot (xs ys : List Nm) (st : Store) : cmpop .Eq (enc xs) (enc ys) st = some (decide (xs = ys)) := cmp_eq_enc xs ys st
theorem cmp_ne_nm (xs ys : Nm) (st : Store) : cmpop .NotEq (enc xs) (enc ys) st = some (decide (xs ≠ ys)) := cmp_ne_enc xs ys st
theorem cmp_eq_nm (xs ys : Nm) (st : Store) : cmpop .Eq (enc xs) (enc ys) st = some (decide (xs = ys)) := cmp_eq_enc xs ys st
theorem cmp_ne_flN (xs ys : List Nm) (st : Store) : cmpop .NotEq (.fl (xs.map enc)) (.fl (ys.map enc)) st = some (decide (xs ≠ ys)) := cmp_ne_fl xs ys st
theorem cmp_eq_flN (xs ys : List Nm) (st : Store) : cmpop .Eq (.fl (xs.map enc)) (.fl (ys.map enc)) st = some (decide (xs = ys)) := cmp_eq_fl xs ys st
def qq : Nm := ⟨"qq", by decide +kernel⟩
end Mi
namespace Mi
open PySem L2
open Enc (enc)
def chkV (v : Val) : Res (Fw × Env) → Bool
  | .ok r _ => decide (retOf r.1 = some v)
  | _ => false
theorem Ok_chkV {v : Val} {r : Res (Fw × Env)} (h : chkV v r = true) : r.Ok fun r _ => retOf r.1 = some v := by
  unfold chkV at h
  split at h
  · rename_i r st; exact (of_decide_eq_true h : retOf r.1 = some v)
  · cases h
/-- Room() -/
def room0 : Val := .ins 1 [("rules", .wt []), ("names", .tup []), ("text", .str "")]
end Mi

/-! Rn, part 7: the greatest lot that can be gone. -/
namespace Mi
open PySem L2
open Enc (enc)
structure RoomOk (R : List RuleD) (ns : List Nm) : Prop where
  rl : R.length ≤ 300
  nl : ns.length ≤ 300
  gl : ∀ r ∈ R, r.gone.length ≤ 60
  lot : IsLot ns
  nm : ∀ x, x ∈ ns ↔ ∃ r ∈ R, x = r.name ∨ x ∈ r.gone
theorem mem_mayL {R : List RuleD} {ns gs : List Nm} {x : Nm} : x ∈ mayL R ns gs ↔ x ∈ ns ∧ x ∉ gs ∧ ∃ r ∈ R, r.name = x ∧ ∀ y ∈ r.gone, y ∈ gs := by
  unfold mayL
  simp only [List.mem_filter, Bool.and_eq_true, decide_eq_true_eq, List.any_eq_true, List.all_eq_true]
  constructor
  · rintro ⟨h1, h2, r, ⟨h3, h4⟩, h5⟩
    exact ⟨h1, h2, r, h3, h4, h5⟩
  · rintro ⟨h1, h2, r, h3, h4, h5⟩
    exact ⟨h1, h2, r, ⟨h3, h4⟩, h5⟩
theorem isLot_mayL {R : List RuleD} {ns gs : List Nm} (h : IsLot ns) : IsLot (mayL R ns gs) := h.filter _
/-- M: all who can leave while X stay -/
structure Most (R : List RuleD) (ns X M : List Nm) : Prop where
  lot : IsLot M
  sub : ∀ x ∈ M, x ∈ ns
  out : ∀ x ∈ M, x ∉ X
  fix : ∀ x ∈ ns, x ∉ X → ∀ r ∈ R, r.name = x → (∀ y ∈ r.gone, y ∈ M) → x ∈ M
  least : ∀ C : Nm → Prop, (∀ x ∈ ns, x ∉ X → ∀ r ∈ R, r.name = x → (∀ y ∈ r.gone, C y) → C x) → ∀ x ∈ M, C x
theorem Most.unique {R : List RuleD} {ns X M M' : List Nm} (h : Most R ns X M) (h' : Most R ns X M') : M = M' :=
  lot_ext h.lot h'.lot fun x => ⟨fun hx => h.least (· ∈ M') h'.fix x hx, fun hx => h'.least (· ∈ M) h.fix x hx⟩
open Classical in
noncomputable def mostL (R : List RuleD) (ns X : List Nm) : List Nm := if h : ∃ M, Most R ns X M then h.choose else []
theorem Most.eq {R : List RuleD} {ns X M : List Nm} (h : Most R ns X M) : mostL R ns X = M := by
  have he : ∃ M, Most R ns X M := ⟨M, h⟩
  unfold mostL
  rw [dif_pos he]
  exact he.choose_spec.unique h
/-- what holds between two turns -/
structure MostI (R : List RuleD) (ns X M : List Nm) : Prop where
  lot : IsLot M
  sub : ∀ x ∈ M, x ∈ ns
  out : ∀ x ∈ M, x ∉ X
  least : ∀ C : Nm → Prop, (∀ x ∈ ns, x ∉ X → ∀ r ∈ R, r.name = x → (∀ y ∈ r.gone, C y) → C x) → ∀ x ∈ M, C x
theorem MostI.nil {R : List RuleD} {ns X : List Nm} : MostI R ns X [] := ⟨.nil, (fun x h => by cases h), (fun x h => by cases h), (fun C _ x h => by cases h)⟩
theorem MostI.step {R : List RuleD} {ns X M : List Nm} (h : MostI R ns X M) : MostI R ns X (lotL (M ++ (mayL R ns M).filter fun x => decide (x ∉ X))) := by
  have hm : ∀ x, x ∈ lotL (M ++ (mayL R ns M).filter fun x => decide (x ∉ X)) ↔ x ∈ M ∨ (x ∈ mayL R ns M ∧ x ∉ X) := fun x => by
    rw [mem_lotL, List.mem_append, List.mem_filter, decide_eq_true_eq]
  refine ⟨isLot_lotL _, fun x hx => ?_, fun x hx => ?_, fun C hC x hx => ?_⟩
  · rcases (hm x).mp hx with h1 | h1
    · exact h.sub x h1
    · exact (mem_mayL.mp h1.1).1
  · rcases (hm x).mp hx with h1 | h1
    · exact h.out x h1
    · exact h1.2
  · rcases (hm x).mp hx with h1 | h1
    · exact h.least C hC x h1
    · obtain ⟨g1, g2, r, g3, g4, g5⟩ := mem_mayL.mp h1.1
      exact hC x g1 h1.2 r g3 g4 fun y hy => h.least C hC y (g5 y hy)
theorem MostI.done {R : List RuleD} {ns X M : List Nm} (h : MostI R ns X M) (he : ((mayL R ns M).filter fun x => decide (x ∉ X)) = []) : Most R ns X M := by
  refine ⟨h.lot, h.sub, h.out, fun x hx hX r hr hn hw => ?_, h.least⟩
  by_cases hM : x ∈ M
  · exact hM
  · have : x ∈ (mayL R ns M).filter fun x => decide (x ∉ X) := List.mem_filter.mpr ⟨mem_mayL.mpr ⟨hx, hM, r, hr, hn, hw⟩, decide_eq_true hX⟩
    rw [he] at this
    cases this
theorem MostI.grow {R : List RuleD} {ns X M : List Nm} (h : MostI R ns X M) (he : ((mayL R ns M).filter fun x => decide (x ∉ X)) ≠ []) : M.length < (lotL (M ++ (mayL R ns M).filter fun x => decide (x ∉ X))).length := by
  obtain ⟨y, hy⟩ := List.exists_mem_of_ne_nil _ he
  have hyM : y ∉ M := (mem_mayL.mp (List.mem_filter.mp hy).1).2.1
  have : (y :: M).length ≤ (lotL (M ++ (mayL R ns M).filter fun x => decide (x ∉ X))).length := by
    refine nodup_len (List.nodup_cons.mpr ⟨hyM, h.lot.nodup⟩) fun x hx => ?_
    rw [mem_lotL, List.mem_append]
    rcases List.mem_cons.mp hx with rfl | hx
    · exact .inr hy
    · exact .inl hx
  exact this
theorem MostI.len {R : List RuleD} {ns X M : List Nm} (h : MostI R ns X M) : M.length ≤ ns.length := nodup_len h.lot.nodup h.sub
end Mi
namespace Mi
open PySem L2
open Enc (enc)
theorem nodup_of_ded (xs : List Nm) (h : (ded [] xs).length = xs.length) : xs.Nodup := by
  have key : ∀ (xs acc : List Nm), acc.Nodup → (ded acc xs).length = acc.length + xs.length → (acc ++ xs).Nodup := by
    intro xs
    induction xs with
    | nil => intro acc ha _; simpa using ha
    | cons x xs ih =>
      intro acc ha h
      rw [ded, List.length_cons] at h
      by_cases hx : x ∈ acc
      · rw [if_pos hx] at h
        have := length_ded xs acc
        omega
      · rw [if_neg hx] at h
        have := ih (acc ++ [x]) (by rw [List.nodup_append]; exact ⟨ha, by simp, fun a h1 b h2 => by rw [List.mem_singleton] at h2; subst h2; exact fun e => hx (e ▸ h1)⟩) (by rw [h, List.length_append, List.length_singleton]; omega)
        simpa using this
  simpa using key xs [] .nil (by simpa using h)
end Mi
namespace Mi
open PySem L2
open Enc (enc)
/-- a comprehension whose test draws -/
theorem lcDraw {α : Type} {v : α → Val} {own : List Nat} {tg : Tg} {c : Env → Store → Res Bool} {f : Env → Store → Res Val} {σ : Env} {vs : List Val} {S : Store} {b : Nat} {x s cc : Int} {gd : Gd} (items : List α)
    (hw : walk .val vs (S.set b (boxO x s cc)) = some (items.map v, gd, S.set b (boxO x s cc))) (hg : ∀ x s c, gd.ok (S.set b (boxO x s c)) = true) (hl : items.length ≤ lim)
    (h : ∀ (y : α) (x s cc : Int), ∃ σ', asg tg (v y) (wipeE σ own) (S.set b (boxO x s cc)) = some σ' ∧ ((c σ' (S.set b (boxO x s cc))).Ok fun _ st' => ∃ x' s' c', st' = S.set b (boxO x' s' c')) ∧ ∀ st', f σ' st' = .ok (v y) st') :
    (lcV false .val own tg c f σ vs (S.set b (boxO x s cc))).Ok fun r st' => ∃ (ws : List α) (x' s' c' : Int), r = .fl (ws.map v) ∧ ws.Sublist items ∧ st' = S.set b (boxO x' s' c') := by
  refine lcVR hw (hg _ _ _) (by rw [List.length_map]; exact hl) ?_
  refine lcR (I := fun out rem st' => ∃ (ws rest : List α) (x s c : Int), out = ws.map v ∧ rem = rest.map v ∧ (ws ++ rest).Sublist items ∧ st' = S.set b (boxO x s c)) ?_ ?_ _ _ ⟨[], items, x, s, cc, rfl, rfl, .refl _, rfl⟩
  · rintro out y rem st' ⟨ws, rest, x, s, c, rfl, hrem, hsub, rfl⟩
    cases rest with
    | nil => cases hrem
    | cons z rest =>
      rw [List.map_cons] at hrem
      injection hrem with h1 h2
      subst h1 h2
      obtain ⟨σ', e, hc, hf⟩ := h z x s c
      refine ⟨σ', e, Ok_imp hc ?_⟩
      rintro t _ ⟨x', s', c', rfl⟩
      cases t with
      | true =>
        rw [if_pos rfl, hf]
        exact ⟨hg _ _ _, ws ++ [z], rest, x', s', c', by rw [List.map_append]; rfl, rfl, by simpa using hsub, rfl⟩
      | false =>
        rw [if_neg (by simp)]
        exact ⟨hg _ _ _, ws, rest, x', s', c', rfl, rfl, (List.Sublist.append_left (List.sublist_cons_self _ _) _).trans hsub, rfl⟩
  · rintro out st' ⟨ws, rest, x, s, c, rfl, hrem, hsub, rfl⟩
    have : rest = [] := by cases rest with | nil => rfl | cons => cases hrem
    subst this
    rw [List.append_nil] at hsub
    exact ⟨ws, x, s, c, rfl, hsub, rfl⟩
/-! ### hulls -/
section
variable {R : List RuleD} {ns X Y M N : List Nm}
def hullL (ns M : List Nm) : List Nm := ns.filter fun x => decide (x ∉ M)
theorem mem_hullL {x : Nm} : x ∈ hullL ns M ↔ x ∈ ns ∧ x ∉ M := by unfold hullL; rw [List.mem_filter, decide_eq_true_eq]
theorem Most.mono (h : Most R ns X M) (h' : Most R ns Y N) (hs : ∀ x ∈ ns, x ∈ X → x ∈ Y) : ∀ x ∈ N, x ∈ M := h'.least (· ∈ M) fun x hx hy r hr hn hw => h.fix x hx (fun e => hy (hs x hx e)) r hr hn hw
theorem Most.congr (h : Most R ns X M) (hs : ∀ x ∈ ns, x ∈ X ↔ x ∈ Y) : Most R ns Y M :=
  ⟨h.lot, h.sub, fun x hx hy => h.out x hx ((hs x (h.sub x hx)).mpr hy), fun x hx hy => h.fix x hx fun e => hy ((hs x hx).mp e), fun C hC => h.least C fun x hx hX => hC x hx fun e => hX ((hs x hx).mpr e)⟩
theorem Most.hull (h : Most R ns X M) (hX : ∀ x ∈ X, x ∈ ns) : Most R ns (hullL ns M) M := by
  refine ⟨h.lot, h.sub, fun x hx hh => (mem_hullL.mp hh).2 hx, fun x hx hh r hr hn hw => ?_, fun C hC x hx => ?_⟩
  · apply Decidable.byContradiction
    intro hM
    exact hh (mem_hullL.mpr ⟨hx, hM⟩)
  · refine (h.least (fun y => C y ∧ y ∈ M) (fun y hy hyX r hr hn hw => ?_) x hx).1
    have hyM := h.fix y hy hyX r hr hn fun z hz => (hw z hz).2
    exact ⟨hC y hy (fun hh => (mem_hullL.mp hh).2 hyM) r hr hn fun z hz => (hw z hz).1, hyM⟩
theorem Most.outside (h : Most R ns X M) (hl : IsLot ns) : (ns.filter fun x => decide (x ∉ hullL ns M)) = M := by
  refine lot_ext (hl.filter _) h.lot fun x => ?_
  rw [List.mem_filter, decide_eq_true_eq, mem_hullL]
  constructor
  · rintro ⟨h1, h2⟩
    apply Decidable.byContradiction
    intro hM
    exact h2 ⟨h1, hM⟩
  · intro hx
    exact ⟨h.sub x hx, fun e => e.2 hx⟩
theorem Most.bar (h : Most R ns [] M) (ok : RoomOk R ns) {n : Nm} (hn : n ∈ hullL ns M) {r : RuleD} (hr : r ∈ R) (he : r.name = n) : ∃ x ∈ r.gone, x ∈ hullL ns M := by
  apply Classical.byContradiction
  intro hno
  obtain ⟨h1, h2⟩ := mem_hullL.mp hn
  refine h2 (h.fix n h1 (by simp) r hr he fun y hy => ?_)
  apply Decidable.byContradiction
  intro hM
  exact hno ⟨y, hy, mem_hullL.mpr ⟨(ok.nm y).mpr ⟨r, hr, .inr hy⟩, hM⟩⟩
end
theorem lawOk {R : List (Nm × List Nm)} (hl : R.length ≤ 300) (hR : ∀ p ∈ R, p.2.length ≤ 60) {B : List Nm} (hB : ∀ x ∈ R.flatMap (fun p => p.1 :: p.2), x ∈ B) (hBl : B.length ≤ 300) : RoomOk (toRules R) (peopleL R) := by
  refine ⟨by unfold toRules; rw [List.length_map]; exact hl, ?_, ?_, isLot_lotL _, fun x => ?_⟩
  · refine Nat.le_trans (nodup_len (isLot_lotL _).nodup fun x hx => hB x (mem_lotL.mp hx)) hBl
  · intro r hr
    obtain ⟨p, hp, rfl⟩ := List.mem_map.mp hr
    exact Nat.le_trans (length_lotL _) (hR p hp)
  · unfold peopleL
    rw [mem_lotL, ← mem_people, List.mem_flatMap]
    constructor
    · rintro ⟨r, hr, h⟩
      exact ⟨r, hr, List.mem_cons.mp h⟩
    · rintro ⟨r, hr, h⟩
      exact ⟨r, hr, List.mem_cons.mpr h⟩
end Mi
namespace Mi
open PySem L2
open Enc (enc)
theorem cmp_ne_nil (xs : List Nm) (st : Store) : cmpop .NotEq (.fl (xs.map enc)) (.fl []) st = some (decide (xs ≠ [])) := cmp_ne_flN xs [] st
theorem cmp_eq_nil (xs : List Nm) (st : Store) : cmpop .Eq (.fl (xs.map enc)) (.fl []) st = some (decide (xs = [])) := cmp_eq_flN xs [] st
theorem asgS_tp2 (i j : Nat) (σ : Env) (a b : Val) (st : Store) (hi : i < σ.length) (hj : j < σ.length) : asgS (.tp [.nm i, .nm j]) σ (.tup [a, b]) st = .ok (.nx, (σ.set i (some a)).set j (some b)) st := by
  simp [asgS, asg, asgL, seqOf, hi, hj]
theorem asgS_tp3 (i j k : Nat) (σ : Env) (a b c : Val) (st : Store) (hi : i < σ.length) (hj : j < σ.length) (hk : k < σ.length) : asgS (.tp [.nm i, .nm j, .nm k]) σ (.tup [a, b, c]) st = .ok (.nx, ((σ.set i (some a)).set j (some b)).set k (some c)) st := by
  simp [asgS, asg, asgL, seqOf, hi, hj, hk]
end Mi

/-! Rn, part 8: orders. -/
namespace Mi
open PySem L2
open Enc (enc)
theorem iterV_rngG (k : Int) (h : -1000000 ≤ k ∧ k ≤ 1000000) (st : Store) : iterV .rng [.int k] st = .ok (rngL 0 k.toNat, .none) st := by
  unfold iterV walk walkRng
  dsimp only
  rw [if_pos ((inRng_iff _).mpr (by omega))]
theorem rngL_eq : ∀ (n i : Nat), rngL (i : Int) n = (List.range' i n).map fun (j : Nat) => Val.int (j : Int)
  | 0, i => rfl
  | n + 1, i => by
    rw [rngL, List.range'_succ, List.map_cons]
    have := rngL_eq n (i + 1)
    rw [← this]
    rfl
theorem rngL_range (n : Nat) : rngL 0 n = (List.range n).map fun (j : Nat) => Val.int (j : Int) := by
  rw [List.range_eq_range']
  exact rngL_eq n 0
/-- a tuple or list made at run time -/
def SeqF (g : Val) (xs : List Val) : Prop := g = .tup xs ∨ g = .fl xs
theorem SeqF.v {g : Val} {xs : List Val} (h : SeqF g xs) : SeqV g xs := by
  rcases h with rfl | rfl
  · exact SeqV.tup
  · exact SeqV.fl
theorem SeqF.take {g : Val} {xs : List Val} (h : SeqF g xs) (n : Nat) (st : Store) : ∃ g', slcV false g none (some (n : Int)) st = .ok g' st ∧ SeqF g' (xs.take n) := by
  rcases h with rfl | rfl
  · exact ⟨.tup (xs.take n), by show Res.ok (Val.tup (cutL xs none (some (n : Int)))) st = _; rw [cut_take], .inl rfl⟩
  · exact ⟨.fl (xs.take n), slc_fl_take xs n st, .inr rfl⟩
theorem SeqF.drop {g : Val} {xs : List Val} (h : SeqF g xs) (n : Nat) (st : Store) : ∃ g', slcV false g (some (n : Int)) none st = .ok g' st ∧ SeqF g' (xs.drop n) := by
  rcases h with rfl | rfl
  · exact ⟨.tup (xs.drop n), by show Res.ok (Val.tup (cutL xs (some (n : Int)) none)) st = _; rw [cut_drop], .inl rfl⟩
  · exact ⟨.fl (xs.drop n), slc_fl_drop xs n st, .inr rfl⟩
theorem atI_nat {α : Type} {xs : List α} {k : Nat} {y : α} (h : xs[k]? = some y) : atI xs (k : Int) = some y := by
  have hk := (List.getElem?_eq_some_iff.mp h).1
  unfold atI ixN
  rw [if_pos (by omega), if_pos (by omega)]
  show xs[((k : Int)).toNat]? = _
  rw [show ((k : Int)).toNat = k by omega, h]
theorem SeqV.idx {g : Val} {xs : List Val} (h : SeqV g xs) {k : Nat} {y : Val} (hy : xs[k]? = some y) (st : Store) : idxV g (.int (k : Int)) st = .ok y st := by
  have e : index g (.int (k : Int)) st = indexS g (.int (k : Int)) st := by
    rcases h with rfl | rfl | rfl | rfl <;> rfl
  unfold idxV
  rw [e]
  unfold indexS
  rw [h.seqOf]
  dsimp only
  rw [atI_nat hy]
theorem starV_seq {g : Val} {xs : List Val} (h : SeqV g xs) (f : Store → Res (List Val)) (st : Store) : starV f g st = (f st).bnd fun vs st => .ok (xs ++ vs) st := by
  unfold starV
  rw [h.seqOf]
theorem lstV_ok {vs : List Val} (h : vs.length ≤ lim) (mt : Bool) (st : Store) : lstV mt vs st = newL mt vs st := by
  unfold lstV
  rw [if_pos h]
theorem tupV_ok {vs : List Val} (h : vs.length ≤ lim) (st : Store) : tupV vs st = .ok (.tup vs) st := by
  unfold tupV
  rw [if_pos h]
theorem mayL_congr {R : List RuleD} {ns gs hs : List Nm} (h : ∀ x, x ∈ gs ↔ x ∈ hs) (hl : IsLot ns) : mayL R ns gs = mayL R ns hs := by
  refine lot_ext (isLot_mayL hl) (isLot_mayL hl) fun x => ?_
  rw [mem_mayL, mem_mayL, h]
  constructor
  · rintro ⟨h1, h2, r, h3, h4, h5⟩
    exact ⟨h1, h2, r, h3, h4, fun y hy => (h y).mp (h5 y hy)⟩
  · rintro ⟨h1, h2, r, h3, h4, h5⟩
    exact ⟨h1, h2, r, h3, h4, fun y hy => (h y).mpr (h5 y hy)⟩
/-- whether all leave in an order, some being gone -/
def ordB (R : List RuleD) (ns : List Nm) : List Nm → List Nm → Bool
  | gone, [] => decide (mayL R ns gone = [])
  | gone, x :: xs => decide (x ∈ mayL R ns gone) && ordB R ns (gone ++ [x]) xs
theorem ordB_congr {R : List RuleD} {ns : List Nm} (hl : IsLot ns) : ∀ (xs gs hs : List Nm), (∀ x, x ∈ gs ↔ x ∈ hs) → ordB R ns gs xs = ordB R ns hs xs
  | [], gs, hs, h => by unfold ordB; rw [mayL_congr h hl]
  | y :: xs, gs, hs, h => by
    unfold ordB
    rw [mayL_congr h hl, ordB_congr hl xs (gs ++ [y]) (hs ++ [y]) fun x => by rw [List.mem_append, List.mem_append, h]]
def turned (xs : List Nm) (k : Nat) : List Nm := xs.take k ++ (xs[k + 1]?.toList ++ xs[k]?.toList) ++ xs.drop (k + 2)
def swL (R : List RuleD) (ns xs : List Nm) : List Int := ((List.range (xs.length - 1)).filter fun k => ordB R ns [] (turned xs k)).map fun (k : Nat) => (k : Int)
theorem foldl_appN (p : Nat → Bool) : ∀ (xs : List Nat) (o : Option Val × Option Val) (acc : List Nat) (f : (Option Val × Option Val) → Nat → Option Val × Option Val), (xs.foldl (fun (s : (Option Val × Option Val) × List Nat) x => (f s.1 x, if p x then s.2 ++ [x] else s.2)) (o, acc)).2 = acc ++ xs.filter p
  | [], _, acc, f => by simp
  | x :: xs, o, acc, f => by
    rw [List.foldl_cons, foldl_appN p xs]
    cases h : p x with
    | true => rw [if_pos rfl, List.filter_cons_of_pos h, List.append_assoc]; rfl
    | false => rw [if_neg (by simp), List.filter_cons_of_neg (by simp [h])]
end Mi
namespace Mi
open PySem L2
open Enc (enc)
theorem gCmp_eq_lot0 (xs : List Nm) (st : Store) : gCmp .Eq (enc xs) (.tup []) st = .ok (.bl (decide (xs = []))) st := by
  unfold gCmp
  rw [show cmpop .Eq (enc xs) (.tup []) st = some (decide (xs = [])) from cmp_eq_lot xs [] st]
  rfl
end Mi
namespace Mi
open PySem L2
open Enc (enc)
theorem bin_catT (xs ys : List Val) (st : Store) (h : xs.length + ys.length ≤ lim) : binop false .Add (.tup xs) (.tup ys) st = .ok (.tup (xs ++ ys)) st := by
  show (if _ then _ else _) = _
  rw [if_pos h]
theorem extendV_at {st : Store} {i : Nat} {xs ys : List Val} (h : st[i]? = some (.lst xs)) (hl : xs.length + ys.length ≤ lim) : extendV (.ref i) [.fl ys] st = .ok .non (st.set i (.lst (xs ++ ys))) := by
  unfold extendV
  dsimp only [lstJ, lstOf]
  rw [h]
  dsimp only
  rw [if_pos hl]
def nmA : Nm := ⟨"a", by decide +kernel⟩
theorem slc_tup_take (xs : List Val) (n : Nat) (st : Store) : slcV false (.tup xs) none (some (n : Int)) st = .ok (.tup (xs.take n)) st := by
  show Res.ok (Val.tup (cutL xs none (some (n : Int)))) st = _
  rw [cut_take]
theorem slc_tup_drop (xs : List Val) (n : Nat) (st : Store) : slcV false (.tup xs) (some (n : Int)) none st = .ok (.tup (xs.drop n)) st := by
  show Res.ok (Val.tup (cutL xs (some (n : Int)) none)) st = _
  rw [cut_drop]
end Mi
namespace Mi
theorem andV_t (f : Store → Res Val) (st : Store) : andV f (.bl true) st = f st := rfl
theorem andV_f (f : Store → Res Val) (st : Store) : andV f (.bl false) st = .ok (.bl false) st := rfl
theorem orV_t (f : Store → Res Val) (st : Store) : orV f (.bl true) st = .ok (.bl true) st := rfl
theorem orV_f (f : Store → Res Val) (st : Store) : orV f (.bl false) st = f st := rfl
end Mi

/-! Rn, part 9: all lots that can be gone. -/
namespace Mi
open PySem L2
open Enc (enc)
inductive Feas (R : List RuleD) (ns : List Nm) : List Nm → Prop where
  | nil : Feas R ns []
  | step {L : List Nm} {n : Nm} : Feas R ns L → n ∈ mayL R ns L → Feas R ns (lotL (L ++ [n]))
theorem Feas.lot {R : List RuleD} {ns L : List Nm} (h : Feas R ns L) : IsLot L := by
  cases h with
  | nil => exact .nil
  | step _ _ => exact isLot_lotL _
theorem Feas.sub {R : List RuleD} {ns L : List Nm} (h : Feas R ns L) : ∀ x ∈ L, x ∈ ns := by
  induction h with
  | nil => intro x hx; cases hx
  | step h1 h2 ih =>
    intro x hx
    rw [mem_lotL, List.mem_append, List.mem_singleton] at hx
    rcases hx with hx | rfl
    · exact ih x hx
    · exact (mem_mayL.mp h2).1
/-! ### how many there can be -/
def pw : List Nm → List (List Nm)
  | [] => [[]]
  | x :: xs => pw xs ++ (pw xs).map (x :: ·)
theorem pw_len : ∀ xs : List Nm, (pw xs).length = 2 ^ xs.length
  | [] => rfl
  | x :: xs => by rw [pw, List.length_append, List.length_map, pw_len xs, List.length_cons, Nat.pow_succ]; omega
theorem mem_pw {ys : List Nm} : ∀ {xs : List Nm}, ys.Sublist xs → ys ∈ pw xs
  | [], h => by
    cases h
    simp [pw]
  | x :: xs, h => by
    rw [pw, List.mem_append]
    cases h with
    | cons _ h => exact .inl (mem_pw h)
    | cons_cons _ h => exact .inr (List.mem_map.mpr ⟨_, mem_pw h, rfl⟩)
theorem lot_sublist {L ns : List Nm} (hL : IsLot L) (hn : IsLot ns) (h : ∀ x ∈ L, x ∈ ns) : L.Sublist ns := by
  have : ns.filter (fun x => decide (x ∈ L)) = L := lot_ext (hn.filter _) hL fun x => by
    rw [List.mem_filter, decide_eq_true_eq]
    exact ⟨fun h => h.2, fun hx => ⟨h x hx, hx⟩⟩
  rw [← this]
  exact List.filter_sublist
theorem feas_len {R : List RuleD} {ns : List Nm} (hn : IsLot ns) {F : List (List Nm)} (hd : F.Nodup) (hF : ∀ L ∈ F, Feas R ns L) : F.length ≤ 2 ^ ns.length := by
  rw [← pw_len]
  exact nodup_len hd fun L hL => mem_pw (lot_sublist (hF L hL).lot hn (hF L hL).sub)
/-! ### the dict of lots -/
def dkl (F : List (List Nm)) : List (Val × Val) := F.map fun L => (enc L, .bl true)
theorem enc_nm_inj {x y : Nm} (h : (enc x : Val) = enc y) : x = y := by
  have h : Val.str x.1 = Val.str y.1 := h
  injection h with h
  exact Nm.ext h
theorem map_enc_inj : ∀ {xs ys : List Nm}, (xs.map enc : List Val) = ys.map enc → xs = ys
  | [], [], _ => rfl
  | [], _ :: _, h => by cases h
  | _ :: _, [], h => by cases h
  | x :: xs, y :: ys, h => by
    rw [List.map_cons, List.map_cons] at h
    injection h with h1 h2
    rw [enc_nm_inj h1, map_enc_inj h2]
theorem enc_lot_inj {x y : List Nm} (h : (enc x : Val) = enc y) : x = y := by
  have h : Val.tup (x.map enc) = Val.tup (y.map enc) := h
  injection h with h
  exact map_enc_inj h
theorem any_dkl (F : List (List Nm)) (L : List Nm) : ((dkl F).any fun kv => decide (kv.1 = enc L)) = decide (L ∈ F) := by
  unfold dkl
  rw [List.any_map, Bool.eq_iff_iff, List.any_eq_true, decide_eq_true_eq]
  constructor
  · rintro ⟨K, hK, e⟩
    have e := of_decide_eq_true e
    rw [← enc_lot_inj e]
    exact hK
  · intro h
    exact ⟨L, h, decide_eq_true rfl⟩
theorem dget_dkl (F : List (List Nm)) (L : List Nm) : (dget (dkl F) (enc L)).isSome = decide (L ∈ F) := by
  unfold dget
  rw [Option.isSome_map, ← any_dkl, Bool.eq_iff_iff, List.find?_isSome, List.any_eq_true]
theorem dput_dkl (F : List (List Nm)) {L : List Nm} (h : L ∉ F) : dput (dkl F) (enc L) (.bl true) = dkl (F ++ [L]) := by
  unfold dput
  rw [any_dkl, if_neg (by simpa using h)]
  unfold dkl
  rw [List.map_append]
  rfl
theorem isKey_lot (L : List Nm) : isKey (enc L) = true := by
  show (L.map enc).all scalarKey = true
  rw [List.all_map, List.all_eq_true]
  intro x _
  rfl
theorem keyFits_dkl {F : List (List Nm)} (h : F ≠ []) (lk : Bool) (L : List Nm) : keyFits (dkl F) lk (enc L) = true := by
  unfold keyFits
  rw [isKey_lot]
  cases F with
  | nil => exact absurd rfl h
  | cons K F => rfl
theorem pyIn_dkl {st : Store} {i : Nat} {F : List (List Nm)} {lk : Bool} (h : st[i]? = some (.dic (dkl F) lk)) (hF : F ≠ []) (L : List Nm) : pyIn st (enc L) (.ref i) = some (decide (L ∈ F)) := by
  show pyInS st (enc L) (.ref i) = _
  unfold pyInS seqOf lstOf dicOf
  dsimp only
  rw [h]
  dsimp only
  rw [if_pos (keyFits_dkl hF lk L), dget_dkl]
theorem setI_dkl {st : Store} {i : Nat} {F : List (List Nm)} (h : st[i]? = some (.dic (dkl F) false)) (hF : F ≠ []) (hl : F.length < lim) {L : List Nm} (hL : L ∉ F) : setIV (.ref i) (enc L) (.bl true) st = .ok () (st.set i (.dic (dkl (F ++ [L])) false)) := by
  unfold setIV
  dsimp only
  rw [h]
  dsimp only
  have : (dkl F).length < lim := by unfold dkl; rw [List.length_map]; exact hl
  rw [if_pos (by rw [keyFits_dkl hF, decide_eq_true this]; rfl), dput_dkl F hL]
/-! ### sorting lots -/
def ltL (a b : List Nm) : Bool := ltSS (a.map (·.1)) (b.map (·.1))
theorem mapv_inj : ∀ {xs ys : List Nm}, xs.map (·.1) = ys.map (·.1) → xs = ys
  | [], [], _ => rfl
  | [], _ :: _, h => by cases h
  | _ :: _, [], h => by cases h
  | x :: xs, y :: ys, h => by
    rw [List.map_cons, List.map_cons] at h
    injection h with h1 h2
    rw [Nm.ext h1, mapv_inj h2]
/-- all lots that can be gone, ascending -/
structure LotsOf (R : List RuleD) (ns : List Nm) (F : List (List Nm)) : Prop where
  mem : ∀ L, L ∈ F ↔ Feas R ns L
  asc : F.Pairwise fun a b => ltL a b = true
theorem ltL_asymm (a b : List Nm) (h : ltL a b = true) : ltL b a = false := ltSS_asymm _ _ h
theorem ltL_trans (a b c : List Nm) (h : ltL b a = false) (g : ltL c b = false) : ltL c a = false := ltSS_trans _ _ _ h g
theorem ltL_irrefl (a : List Nm) : ltL a a = false := by
  cases h : ltL a a with
  | false => rfl
  | true => rw [ltL_asymm a a h] at h; cases h
theorem asc_nodup {F : List (List Nm)} (h : F.Pairwise fun a b => ltL a b = true) : F.Nodup := List.Pairwise.imp (fun {a b} e q => by subst q; rw [ltL_irrefl] at e; cases e) h
theorem asc_ext {F G : List (List Nm)} (h : F.Pairwise fun a b => ltL a b = true) (g : G.Pairwise fun a b => ltL a b = true) (hm : ∀ L, L ∈ F ↔ L ∈ G) : F = G := by
  have hp : F.Perm G := (List.perm_ext_iff_of_nodup (asc_nodup h) (asc_nodup g)).mpr hm
  exact List.Perm.eq_of_pairwise (le := fun a b => ltL a b = true) (fun a b _ _ h g => by rw [ltL_asymm _ _ h] at g; cases g) h g hp
theorem LotsOf.unique {R : List RuleD} {ns : List Nm} {F G : List (List Nm)} (h : LotsOf R ns F) (g : LotsOf R ns G) : F = G := asc_ext h.asc g.asc fun L => by rw [h.mem, g.mem]
open Classical in
noncomputable def lotsL (R : List RuleD) (ns : List Nm) : List (List Nm) := if h : ∃ F, LotsOf R ns F then h.choose else []
theorem LotsOf.eq {R : List RuleD} {ns : List Nm} {F : List (List Nm)} (h : LotsOf R ns F) : lotsL R ns = F := by
  have he : ∃ F, LotsOf R ns F := ⟨F, h⟩
  unfold lotsL
  rw [dif_pos he]
  exact he.choose_spec.unique h
theorem ltSS_antisymm' : ∀ a b : List Str, ltSS a b = false → ltSS b a = false → a = b
  | [], [], _, _ => rfl
  | [], _ :: _, h, _ => by cases h
  | _ :: _, [], _, h => by cases h
  | x :: xs, y :: ys, h, g => by
    unfold ltSS at h g
    by_cases e : x = y
    · subst e
      rw [if_pos rfl] at h g
      rw [ltSS_antisymm' xs ys h g]
    · rw [if_neg e] at h
      rw [if_neg (fun z => e z.symm)] at g
      exact absurd (ltS_antisymm x y g h) e
theorem isort_asc {F : List (List Nm)} (hd : F.Nodup) : (isort ltL F).Pairwise fun a b => ltL a b = true := by
  have h1 := isort_pw ltL_asymm ltL_trans F
  have h2 : (isort ltL F).Nodup := (isort_perm F).nodup_iff.mpr hd
  refine (List.pairwise_and_iff.mpr ⟨h1, h2⟩).imp fun {a b} q => ?_
  cases e : ltL a b with
  | true => rfl
  | false => exact absurd (mapv_inj (ltSS_antisymm' _ _ e q.1)) q.2
theorem sortAV_lots (F : List (List Nm)) (st : Store) : sortAV false [.fl (F.map enc)] st = .ok (.fl ((isort ltL F).map enc)) st := by
  cases F with
  | nil => rfl
  | cons L F =>
    show sortTV false [.fl ((L :: F).map enc)] st = _
    unfold sortTV
    dsimp only [lstOf]
    rw [mapO_some (f := asSS) (v := enc) (u := fun L : List Nm => L.map (·.1)) (fun L => by
      show mapO asS (L.map enc) = _
      exact mapO_some (f := asS) (v := enc) (u := fun x : Nm => x.1) (fun x => rfl) L)]
    dsimp only
    rw [isort_map (lt := ltL) (fun L : List Nm => L.map (·.1)) (fun a b => rfl), newL_false, List.map_map]
    congr 2
    apply List.map_congr_left
    intro K _
    show Val.tup ((K.map (·.1)).map .str) = _
    rw [List.map_map]
    rfl
end Mi
namespace Mi
open PySem L2
open Enc (enc)
theorem idx_ref {st : Store} {i k : Nat} {xs : List Val} {y : Val} (h : st[i]? = some (.lst xs)) (hy : xs[k]? = some y) : idxV (.ref i) (.int (k : Int)) st = .ok y st := by
  unfold idxV index indexS
  dsimp only
  rw [seqOf_ref h]
  dsimp only
  rw [atI_nat hy]
theorem cmp_notin_dkl {st : Store} {i : Nat} {F : List (List Nm)} {lk : Bool} (h : st[i]? = some (.dic (dkl F) lk)) (hF : F ≠ []) (L : List Nm) : cmpop .NotIn (enc L) (.ref i) st = some (decide (L ∉ F)) := by
  show (pyIn st (enc L) (.ref i)).map (!·) = _
  rw [pyIn_dkl h hF]
  simp
theorem cmp_in_dkl {st : Store} {i : Nat} {F : List (List Nm)} {lk : Bool} (h : st[i]? = some (.dic (dkl F) lk)) (hF : F ≠ []) (L : List Nm) : cmpop .In (enc L) (.ref i) st = some (decide (L ∈ F)) := pyIn_dkl h hF L
end Mi

/-! Rn, part a: reasons and rings. -/
namespace Mi
open PySem L2
open Enc (enc)
def subB (K L : List Nm) : Bool := K.all fun x => decide (x ∈ L)
theorem subB_iff {K L : List Nm} : subB K L = true ↔ ∀ x ∈ K, x ∈ L := by
  unfold subB
  rw [List.all_eq_true]
  simp
def leastW (n : Nm) (F : List (List Nm)) : List (List Nm) := (F.filter fun L => decide (n ∈ L)).filter fun L => !((F.filter fun L => decide (n ∈ L)).any fun K => decide (K.length < L.length) && subB K L)
def reasL (F : List (List Nm)) (ns : List Nm) : List (Nm × List Nm) := ns.flatMap fun n => (leastW n F).map fun L => (n, L)
theorem mem_leastW {n : Nm} {F : List (List Nm)} {L : List Nm} : L ∈ leastW n F ↔ L ∈ F ∧ n ∈ L ∧ ∀ K ∈ F, n ∈ K → (∀ x ∈ K, x ∈ L) → L.length ≤ K.length := by
  unfold leastW
  simp only [List.mem_filter, decide_eq_true_eq, Bool.not_eq_true', List.any_eq_false, Bool.and_eq_true, subB_iff, not_and]
  constructor
  · rintro ⟨⟨h1, h2⟩, h3⟩
    refine ⟨h1, h2, fun K hK hn hs => ?_⟩
    apply Nat.le_of_not_lt
    intro hlt
    exact h3 K ⟨hK, hn⟩ hlt hs
  · rintro ⟨h1, h2, h3⟩
    exact ⟨⟨h1, h2⟩, fun K hK hlt hs => by have := h3 K hK.1 hK.2 hs; omega⟩
theorem mem_reasL {F : List (List Nm)} {ns : List Nm} {p : Nm × List Nm} : p ∈ reasL F ns ↔ p.1 ∈ ns ∧ p.2 ∈ leastW p.1 F := by
  unfold reasL
  rw [List.mem_flatMap]
  constructor
  · rintro ⟨n, hn, h⟩
    obtain ⟨L, hL, rfl⟩ := List.mem_map.mp h
    exact ⟨hn, hL⟩
  · rintro ⟨h1, h2⟩
    exact ⟨p.1, h1, List.mem_map.mpr ⟨p.2, h2, rfl⟩⟩
theorem leastW_len (n : Nm) (F : List (List Nm)) : (leastW n F).length ≤ F.length := Nat.le_trans (List.length_filter_le _ _) (List.length_filter_le _ _)
theorem reasL_len (F : List (List Nm)) (ns : List Nm) : (reasL F ns).length ≤ ns.length * F.length := by
  unfold reasL
  induction ns with
  | nil => simp
  | cons n ns ih =>
    rw [List.flatMap_cons, List.length_append, List.length_map, List.length_cons, Nat.succ_mul]
    have := leastW_len n F
    omega
/-! ### parts -/
def partsF (ns : List Nm) : List (List Nm) := ns.foldl (fun F x => F ++ F.map fun p => p ++ [x]) [[]]
theorem partsF_mem (ns : List Nm) : ∀ p, p ∈ partsF ns ↔ p.Sublist ns := by
  have key : ∀ (xs done : List Nm) (F : List (List Nm)), (∀ p, p ∈ F ↔ p.Sublist done) → ∀ p, p ∈ xs.foldl (fun F x => F ++ F.map fun p => p ++ [x]) F ↔ p.Sublist (done ++ xs) := by
    intro xs
    induction xs with
    | nil => intro done F h p; simpa using h p
    | cons x xs ih =>
      intro done F h p
      rw [List.foldl_cons, ih (done ++ [x]) _ ?_ p, List.append_assoc]
      · rfl
      · intro q
        rw [List.mem_append, List.mem_map, h]
        constructor
        · rintro (h1 | ⟨r, hr, rfl⟩)
          · exact h1.trans (List.sublist_append_left _ _)
          · exact ((h r).mp hr).append (.refl _)
        · intro hq
          rw [List.sublist_append_iff] at hq
          obtain ⟨a, b, rfl, ha, hb⟩ := hq
          cases b with
          | nil => rw [List.append_nil]; exact .inl ha
          | cons z b =>
            have hlb := hb.length_le
            rw [List.length_cons, List.length_singleton] at hlb
            have hb0 : b = [] := List.length_eq_zero_iff.mp (by omega)
            subst hb0
            have hz := hb.subset List.mem_cons_self
            rw [List.mem_singleton] at hz
            subst hz
            exact .inr ⟨a, (h a).mpr ha, rfl⟩
  intro p
  have := key ns [] [[]] (fun p => by rw [List.mem_singleton]; simp) p
  rw [List.nil_append] at this
  exact this
theorem partsF_len (ns : List Nm) : (partsF ns).length = 2 ^ ns.length := by
  have key : ∀ (xs : List Nm) (F : List (List Nm)), (xs.foldl (fun F x => F ++ F.map fun p => p ++ [x]) F).length = F.length * 2 ^ xs.length := by
    intro xs
    induction xs with
    | nil => intro F; simp
    | cons x xs ih =>
      intro F
      rw [List.foldl_cons, ih, List.length_append, List.length_map, List.length_cons, Nat.pow_succ]
      rw [Nat.mul_comm (2 ^ xs.length) 2, ← Nat.mul_assoc]
      congr 1
      omega
  unfold partsF
  rw [key]
  simp
def partsL (ns : List Nm) : List (List Nm) := (List.range (ns.length + 1)).flatMap fun k => (partsF ns).filter fun p => decide (p.length = k)
theorem mem_partsL {ns p : List Nm} : p ∈ partsL ns ↔ p.Sublist ns := by
  unfold partsL
  simp only [List.mem_flatMap, List.mem_range, List.mem_filter, partsF_mem, decide_eq_true_eq]
  constructor
  · rintro ⟨k, _, h, _⟩; exact h
  · intro h
    exact ⟨p.length, by have := h.length_le; omega, h, rfl⟩
theorem partsL_asc (ns : List Nm) : (partsL ns).Pairwise fun a b => a.length ≤ b.length := by
  unfold partsL
  have key : ∀ (ks : List Nat), ks.Pairwise (· < ·) → (ks.flatMap fun k => (partsF ns).filter fun p => decide (p.length = k)).Pairwise fun a b => a.length ≤ b.length := by
    intro ks
    induction ks with
    | nil => intro _; exact .nil
    | cons k ks ih =>
      intro h
      rw [List.pairwise_cons] at h
      rw [List.flatMap_cons, List.pairwise_append]
      refine ⟨?_, ih h.2, fun a ha b hb => ?_⟩
      · refine List.pairwise_of_forall_mem_list fun a ha b hb => ?_
        rw [List.mem_filter, decide_eq_true_eq] at ha hb
        omega
      · rw [List.mem_filter, decide_eq_true_eq] at ha
        obtain ⟨j, hj, hb⟩ := List.mem_flatMap.mp hb
        rw [List.mem_filter, decide_eq_true_eq] at hb
        have := h.1 j hj
        omega
  exact key _ List.pairwise_lt_range
/-! ### rings -/
def meetsB (W : List (List Nm)) (p : List Nm) : Bool := W.all fun w => p.any fun x => decide (x ∈ w)
theorem meetsB_iff {W : List (List Nm)} {p : List Nm} : meetsB W p = true ↔ ∀ w ∈ W, ∃ x ∈ p, x ∈ w := by
  unfold meetsB
  simp only [List.all_eq_true, List.any_eq_true, decide_eq_true_eq]
def ringStep (W : List (List Nm)) (acc : List (List Nm)) (p : List Nm) : List (List Nm) := if meetsB W p && !(acc.any fun r => subB r p) then acc ++ [p] else acc
def ringF (W : List (List Nm)) (ps : List (List Nm)) : List (List Nm) := ps.foldl (ringStep W) []
/-- what the least parts are -/
theorem ringF_spec (W : List (List Nm)) (ps : List (List Nm)) (hasc : ps.Pairwise fun a b => a.length ≤ b.length) :
    (∀ r ∈ ringF W ps, r ∈ ps ∧ meetsB W r = true) ∧ (∀ p ∈ ps, meetsB W p = true → ∃ r ∈ ringF W ps, ∀ x ∈ r, x ∈ p) ∧ (ringF W ps).Pairwise (fun a b => ¬ ∀ x ∈ a, x ∈ b) ∧ (ringF W ps).Pairwise (fun a b => a.length ≤ b.length) := by
  have key : ∀ (xs done acc : List (List Nm)), (done ++ xs).Pairwise (fun a b => a.length ≤ b.length) →
      (∀ r ∈ acc, r ∈ done ∧ meetsB W r = true) → (∀ p ∈ done, meetsB W p = true → ∃ r ∈ acc, ∀ x ∈ r, x ∈ p) → acc.Pairwise (fun a b => ¬ ∀ x ∈ a, x ∈ b) → acc.Pairwise (fun a b => a.length ≤ b.length) →
      (∀ r ∈ xs.foldl (ringStep W) acc, r ∈ done ++ xs ∧ meetsB W r = true) ∧ (∀ p ∈ done ++ xs, meetsB W p = true → ∃ r ∈ xs.foldl (ringStep W) acc, ∀ x ∈ r, x ∈ p) ∧ (xs.foldl (ringStep W) acc).Pairwise (fun a b => ¬ ∀ x ∈ a, x ∈ b) ∧ (xs.foldl (ringStep W) acc).Pairwise (fun a b => a.length ≤ b.length) := by
    intro xs
    induction xs with
    | nil => intro done acc _ h1 h2 h3 h4; rw [List.append_nil]; exact ⟨h1, h2, h3, h4⟩
    | cons p xs ih =>
      intro done acc ha h1 h2 h3 h4
      rw [List.foldl_cons]
      have e : done ++ p :: xs = (done ++ [p]) ++ xs := by simp
      rw [e] at ha ⊢
      refine ih (done ++ [p]) (ringStep W acc p) ha ?_ ?_ ?_ ?_
      · intro r hr
        unfold ringStep at hr
        split at hr
        · rename_i hc
          rcases List.mem_append.mp hr with hr | hr
          · exact ⟨List.mem_append.mpr (.inl (h1 r hr).1), (h1 r hr).2⟩
          · rw [List.mem_singleton] at hr; subst hr
            rw [Bool.and_eq_true] at hc
            exact ⟨List.mem_append.mpr (.inr (List.mem_singleton.mpr rfl)), hc.1⟩
        · exact ⟨List.mem_append.mpr (.inl (h1 r hr).1), (h1 r hr).2⟩
      · intro q hq hm
        unfold ringStep
        split
        · rename_i hc
          rcases List.mem_append.mp hq with hq | hq
          · obtain ⟨r, hr, hs⟩ := h2 q hq hm
            exact ⟨r, List.mem_append.mpr (.inl hr), hs⟩
          · rw [List.mem_singleton] at hq; subst hq
            exact ⟨q, List.mem_append.mpr (.inr (List.mem_singleton.mpr rfl)), fun x hx => hx⟩
        · rename_i hc
          rcases List.mem_append.mp hq with hq | hq
          · exact h2 q hq hm
          · rw [List.mem_singleton] at hq; subst hq
            rw [hm, Bool.true_and, Bool.not_eq_true, Bool.not_eq_false'] at hc
            obtain ⟨r, hr, hs⟩ := List.any_eq_true.mp hc
            exact ⟨r, hr, subB_iff.mp hs⟩
      · unfold ringStep
        split
        · rename_i hc
          rw [Bool.and_eq_true] at hc
          rw [List.pairwise_append]
          refine ⟨h3, by simp, fun a haa b hb hs => ?_⟩
          rw [List.mem_singleton] at hb; subst hb
          have := hc.2
          rw [Bool.not_eq_true', List.any_eq_false] at this
          exact this a haa (subB_iff.mpr hs)
        · exact h3
      · unfold ringStep
        split
        · rw [List.pairwise_append]
          refine ⟨h4, by simp, fun a ha' b hb => ?_⟩
          rw [List.mem_singleton] at hb; subst hb
          rw [List.append_assoc, List.pairwise_append] at ha
          exact ha.2.2 a (h1 a ha').1 b (by simp)
        · exact h4
  have := key ps [] [] (by simpa using hasc) (fun r hr => by cases hr) (fun p hp => by cases hp) .nil .nil
  rw [List.nil_append] at this
  exact this
end Mi
namespace Mi
open PySem L2
open Enc (enc)
theorem pow14 {n : Nat} (h : n ≤ 14) : 2 ^ n ≤ 20000 := Nat.le_trans (Nat.pow_le_pow_right (by decide : 0 < 2) h) (by decide)
theorem partsF_le {ns : List Nm} (h : ns.length ≤ 14) : (partsF ns).length ≤ 20000 := by rw [partsF_len]; exact pow14 h
theorem partsF_snoc (ns : List Nm) (x : Nm) : partsF (ns ++ [x]) = partsF ns ++ (partsF ns).map fun p => p ++ [x] := by
  unfold partsF
  rw [List.foldl_append]
  rfl
theorem partsF_pl {ns p : List Nm} (hp : p ∈ partsF ns) : p.length ≤ ns.length := ((partsF_mem ns p).mp hp).length_le
end Mi
namespace Mi
open PySem L2
open Enc (enc)
theorem partsF_key : ∀ (ms : List Nm) (acc : List (List Nm)) (o : Option Val), (ms.foldl (fun (s : Option Val × List (List Nm)) n => (some (enc n), s.2 ++ s.2.map fun p => p ++ [n])) (o, acc)).2 = ms.foldl (fun F x => F ++ F.map fun p => p ++ [x]) acc := by
  intro ms
  induction ms with
  | nil => intro acc o; rfl
  | cons n ms ih => intro acc o; rw [List.foldl_cons, List.foldl_cons, ih]
theorem partsF_fold (ns : List Nm) : (ns.foldl (fun (s : Option Val × List (List Nm)) n => (some (enc n), s.2 ++ s.2.map fun p => p ++ [n])) (none, [[]])).2 = partsF ns := partsF_key ns [[]] none
end Mi
namespace Mi
open PySem L2
open Enc (enc)
theorem partsL_le {ns : List Nm} (h : ns.length ≤ 14) : (partsL ns).length ≤ 300000 := by
  have key : ∀ ks : List Nat, (ks.flatMap fun k => (partsF ns).filter fun p => decide (p.length = k)).length ≤ ks.length * 20000 := by
    intro ks
    induction ks with
    | nil => simp
    | cons k ks ih =>
      rw [List.flatMap_cons, List.length_append, List.length_cons, Nat.succ_mul]
      have := Nat.le_trans (List.length_filter_le (fun p : List Nm => decide (p.length = k)) (partsF ns)) (partsF_le h)
      omega
  have := key (List.range (ns.length + 1))
  rw [List.length_range] at this
  unfold partsL
  omega
theorem ringF_fold (W : List (List Nm)) (PL : List (List Nm)) : (PL.foldl (fun (s : (Option Val × Option Val) × List (List Nm)) p => ((some (enc p), some (.bl (meetsB W p))), ringStep W s.2 p)) ((none, none), [])).2 = ringF W PL := by
  have key : ∀ (ps acc : List (List Nm)) (o : Option Val × Option Val), (ps.foldl (fun (s : (Option Val × Option Val) × List (List Nm)) p => ((some (enc p), some (.bl (meetsB W p))), ringStep W s.2 p)) (o, acc)).2 = ps.foldl (ringStep W) acc := by
    intro ps
    induction ps with
    | nil => intro acc o; rfl
    | cons p ps ih => intro acc o; rw [List.foldl_cons, List.foldl_cons, ih]
  exact key PL [] (none, none)
/-- those who can leave -/
noncomputable def hullC (R : List RuleD) (ns : List Nm) : List Nm := ns.filter fun x => decide (x ∉ hullL ns (mostL R ns []))
end Mi
namespace Mi
open PySem L2
open Enc (enc)
theorem ringF_le (W : List (List Nm)) {ns : List Nm} (h : ns.length ≤ 14) : (ringF W (partsL ns)).length ≤ 20000 := by
  obtain ⟨h1, _, h3, _⟩ := ringF_spec W (partsL ns) (partsL_asc ns)
  refine Nat.le_trans (nodup_len (ys := partsF ns) (h3.imp fun {a b} q e => ?_) fun r hr => ?_) (partsF_le h)
  · subst e; exact q fun x hx => hx
  · exact (partsF_mem ns r).mpr (mem_partsL.mp (h1 r hr).1)
def wantN (Q : List (Nm × List Nm)) (n : Nm) : List (List Nm) := (Q.filter fun p => decide (p.1 = n)).map fun p => p.2.filter fun x => decide (x ≠ n)
def ringsN (Q : List (Nm × List Nm)) (P : List Nm) (n : Nm) : List (List Nm) := isort ltL (ringF (wantN Q n) (partsL (P.filter fun x => decide (x ≠ n))))
noncomputable def ringsL (R : List RuleD) (ns : List Nm) : List (Nm × List Nm) := (hullC R ns).flatMap fun n => (ringsN (reasL (lotsL R ns) ns) (hullC R ns) n).map fun r => (n, r)
theorem ringsN_le (Q : List (Nm × List Nm)) {P : List Nm} (n : Nm) (h : P.length ≤ 14) : (ringsN Q P n).length ≤ 20000 := by
  unfold ringsN
  rw [(isort_perm _).length_eq]
  exact ringF_le _ (Nat.le_trans (List.length_filter_le _ _) h)
end Mi

/-! Rn, part b: what holds of lots, reasons and rings. -/
namespace Mi
open PySem L2
open Enc (enc)
theorem exists_min {α : Type} (p : α → Prop) (f : α → Nat) (h : ∃ a, p a) : ∃ a, p a ∧ ∀ b, p b → f a ≤ f b := by
  have key : ∀ n a, p a → f a ≤ n → ∃ a, p a ∧ ∀ b, p b → f a ≤ f b := by
    intro n
    induction n with
    | zero => intro a ha hn; exact ⟨a, ha, fun b _ => by omega⟩
    | succ n ih =>
      intro a ha hn
      by_cases hb : ∃ b, p b ∧ f b < f a
      · obtain ⟨b, hb1, hb2⟩ := hb
        exact ih b hb1 (by omega)
      · refine ⟨a, ha, fun b hb' => ?_⟩
        apply Nat.le_of_not_lt
        intro hlt
        exact hb ⟨b, hb', hlt⟩
  obtain ⟨a, ha⟩ := h
  exact key _ a ha (Nat.le_refl _)
section
variable {R : List RuleD} {ns : List Nm}
theorem Feas.inMost {X M L : List Nm} (hM : Most R ns X M) (h : Feas R ns L) (hX : ∀ x ∈ L, x ∉ X) : ∀ x ∈ L, x ∈ M := by
  induction h with
  | nil => intro x hx; cases hx
  | step h1 h2 ih =>
    rename_i K n
    have ih := ih fun x hx => hX x (mem_lotL.mpr (List.mem_append.mpr (.inl hx)))
    intro x hx
    rw [mem_lotL, List.mem_append, List.mem_singleton] at hx
    rcases hx with hx | rfl
    · exact ih x hx
    · obtain ⟨g1, g2, r, g3, g4, g5⟩ := mem_mayL.mp h2
      exact hM.fix x g1 (hX x (mem_lotL.mpr (List.mem_append.mpr (.inr (List.mem_singleton.mpr rfl))))) r g3 g4 fun y hy => ih y (g5 y hy)
theorem Feas.most {L M : List Nm} (h : Feas R ns L) (hM : Most R ns (ns.filter fun x => decide (x ∉ L)) M) : M = L := by
  refine lot_ext hM.lot h.lot fun x => ⟨fun hx => ?_, fun hx => ?_⟩
  · apply Decidable.byContradiction
    intro hn
    exact hM.out x hx (List.mem_filter.mpr ⟨hM.sub x hx, decide_eq_true hn⟩)
  · refine h.inMost hM (fun y hy hy' => ?_) x hx
    exact (of_decide_eq_true (List.mem_filter.mp hy').2) hy
theorem Feas.add {M : List Nm} (h : Feas R ns M) : ∀ (fs K : List Nm), Feas R ns K → (∀ x ∈ M, x ∈ K) → (∀ n ∈ fs, n ∈ mayL R ns M) → Feas R ns (lotL (K ++ fs))
  | [], K, hK, _, _ => by rw [List.append_nil, lotL_self hK.lot]; exact hK
  | n :: fs, K, hK, hs, hf => by
    have hn := hf n List.mem_cons_self
    by_cases hin : n ∈ K
    · have := Feas.add h fs K hK hs fun m hm => hf m (List.mem_cons_of_mem _ hm)
      rw [show lotL (K ++ n :: fs) = lotL (K ++ fs) from lotL_congr fun x => by
        rw [List.mem_append, List.mem_append, List.mem_cons]
        constructor
        · rintro (h1 | rfl | h1)
          · exact .inl h1
          · exact .inl hin
          · exact .inr h1
        · rintro (h1 | h1)
          · exact .inl h1
          · exact .inr (.inr h1)]
      exact this
    · obtain ⟨g1, g2, r, g3, g4, g5⟩ := mem_mayL.mp hn
      have hK' : Feas R ns (lotL (K ++ [n])) := .step hK (mem_mayL.mpr ⟨g1, hin, r, g3, g4, fun y hy => hs y (g5 y hy)⟩)
      have := Feas.add h fs (lotL (K ++ [n])) hK' (fun x hx => mem_lotL.mpr (List.mem_append.mpr (.inl (hs x hx)))) fun m hm => hf m (List.mem_cons_of_mem _ hm)
      rw [show lotL (K ++ n :: fs) = lotL (lotL (K ++ [n]) ++ fs) from lotL_congr fun x => by
        simp only [List.mem_append, mem_lotL, List.mem_cons, List.mem_singleton, List.not_mem_nil, or_false, or_assoc]]
      exact this
theorem most_exists (hn : IsLot ns) (X : List Nm) : ∃ M, Most R ns X M ∧ Feas R ns M := by
  have key : ∀ k M, MostI R ns X M → Feas R ns M → ns.length - M.length ≤ k → ∃ M, Most R ns X M ∧ Feas R ns M := by
    intro k
    induction k with
    | zero =>
      intro M hM hF hk
      by_cases he : ((mayL R ns M).filter fun x => decide (x ∉ X)) = []
      · exact ⟨M, hM.done he, hF⟩
      · have h1 := hM.grow he
        have h2 := hM.step.len
        omega
    | succ k ih =>
      intro M hM hF hk
      by_cases he : ((mayL R ns M).filter fun x => decide (x ∉ X)) = []
      · exact ⟨M, hM.done he, hF⟩
      · have h1 := hM.grow he
        have h2 := hM.step.len
        exact ih _ hM.step (hF.add _ M hF (fun x hx => hx) fun n hn => (List.mem_filter.mp hn).1) (by omega)
  exact key _ [] MostI.nil .nil (Nat.le_refl _)
theorem most_feas {X M : List Nm} (hn : IsLot ns) (h : Most R ns X M) : Feas R ns M := by
  obtain ⟨M', h1, h2⟩ := most_exists (R := R) hn X
  rw [h.unique h1]
  exact h2
/-- within a lot there is a reason of each one of it -/
theorem reason_in {F : List (List Nm)} (hF : ∀ L, L ∈ F ↔ Feas R ns L) {L : List Nm} (hL : Feas R ns L) {x : Nm} (hx : x ∈ L) : ∃ K ∈ leastW x F, ∀ y ∈ K, y ∈ L := by
  obtain ⟨K, ⟨h1, h2, h3⟩, hm⟩ := exists_min (fun K => K ∈ F ∧ x ∈ K ∧ ∀ y ∈ K, y ∈ L) List.length ⟨L, (hF L).mpr hL, hx, fun y hy => hy⟩
  exact ⟨K, mem_leastW.mpr ⟨h1, h2, fun K' g1 g2 g3 => hm K' ⟨g1, g2, fun y hy => h3 y (g3 y hy)⟩⟩, h3⟩
/-- a reason without its name -/
theorem reason_rest {F : List (List Nm)} (hF : ∀ L, L ∈ F ↔ Feas R ns L) {K : List Nm} {x : Nm} (hK : K ∈ leastW x F) : Feas R ns (K.filter fun y => decide (y ≠ x)) := by
  obtain ⟨h1, h2, h3⟩ := mem_leastW.mp hK
  have hf := (hF K).mp h1
  cases hf with
  | nil => cases h2
  | step g1 g2 =>
    rename_i K0 n
    have hn0 : n ∉ K0 := (mem_mayL.mp g2).2.1
    have hnx : n = x := by
      apply Decidable.byContradiction
      intro hne
      have hx0 : x ∈ K0 := by
        rw [mem_lotL, List.mem_append, List.mem_singleton] at h2
        exact h2.resolve_right fun e => hne e.symm
      have hle := h3 K0 ((hF K0).mpr g1) hx0 fun y hy => mem_lotL.mpr (List.mem_append.mpr (.inl hy))
      have hlt : (n :: K0).length ≤ (lotL (K0 ++ [n])).length := nodup_len (List.nodup_cons.mpr ⟨hn0, g1.lot.nodup⟩) fun y hy => by
        rw [mem_lotL, List.mem_append, List.mem_singleton]
        rcases List.mem_cons.mp hy with rfl | hy
        · exact .inr rfl
        · exact .inl hy
      rw [List.length_cons] at hlt
      omega
    subst hnx
    have : (lotL (K0 ++ [n])).filter (fun y => decide (y ≠ n)) = K0 := lot_ext ((isLot_lotL _).filter _) g1.lot fun y => by
      rw [List.mem_filter, mem_lotL, List.mem_append, List.mem_singleton, decide_eq_true_eq]
      constructor
      · rintro ⟨h | h, hne⟩
        · exact h
        · exact absurd h hne
      · intro h
        exact ⟨.inl h, fun e => hn0 (e ▸ h)⟩
    rw [this]
    exact g1
end
theorem pw_two {α : Type} {P : α → α → Prop} {l : List α} (h : l.Pairwise P) {a b : α} (ha : a ∈ l) (hb : b ∈ l) : a = b ∨ P a b ∨ P b a := by
  induction l with
  | nil => cases ha
  | cons c l ih =>
    rw [List.pairwise_cons] at h
    rcases List.mem_cons.mp ha with e1 | ha1
    · rcases List.mem_cons.mp hb with e2 | hb1
      · exact .inl (e1.trans e2.symm)
      · rw [e1]; exact .inr (.inl (h.1 b hb1))
    · rcases List.mem_cons.mp hb with e2 | hb1
      · rw [e2]; exact .inr (.inr (h.1 a ha1))
      · exact ih h.2 ha1 hb1
theorem mem_wantN {Q : List (Nm × List Nm)} {n : Nm} {w : List Nm} : w ∈ wantN Q n ↔ ∃ K, (n, K) ∈ Q ∧ w = K.filter fun x => decide (x ≠ n) := by
  unfold wantN
  rw [List.mem_map]
  constructor
  · rintro ⟨p, hp, rfl⟩
    obtain ⟨h1, h2⟩ := List.mem_filter.mp hp
    have := of_decide_eq_true h2
    subst this
    exact ⟨p.2, h1, rfl⟩
  · rintro ⟨K, hK, rfl⟩
    exact ⟨(n, K), List.mem_filter.mpr ⟨hK, decide_eq_true rfl⟩, rfl⟩
theorem mem_ringsN {Q : List (Nm × List Nm)} {P : List Nm} {n : Nm} {r : List Nm} : r ∈ ringsN Q P n ↔ r ∈ ringF (wantN Q n) (partsL (P.filter fun x => decide (x ≠ n))) := by
  unfold ringsN
  exact (isort_perm _).mem_iff
/-- a ring meets all reasons -/
theorem ring_meets {Q : List (Nm × List Nm)} {P : List Nm} {n : Nm} {r : List Nm} (h : r ∈ ringsN Q P n) : r.Sublist (P.filter fun x => decide (x ≠ n)) ∧ ∀ K, (n, K) ∈ Q → ∃ x ∈ r, x ∈ K ∧ x ≠ n := by
  obtain ⟨h1, _⟩ := ringF_spec (wantN Q n) _ (partsL_asc (P.filter fun x => decide (x ≠ n)))
  obtain ⟨g1, g2⟩ := h1 r (mem_ringsN.mp h)
  refine ⟨mem_partsL.mp g1, fun K hK => ?_⟩
  obtain ⟨x, hx, hxw⟩ := meetsB_iff.mp g2 _ (mem_wantN.mpr ⟨K, hK, rfl⟩)
  rw [List.mem_filter, decide_eq_true_eq] at hxw
  exact ⟨x, hx, hxw⟩
/-- .. and no part of it does -/
theorem ring_least {Q : List (Nm × List Nm)} {P : List Nm} (hP : P.Nodup) {n : Nm} {r p : List Nm} (h : r ∈ ringsN Q P n) (hp : p.Sublist r) (hl : p.length < r.length) (hm : ∀ K, (n, K) ∈ Q → ∃ x ∈ p, x ∈ K) : False := by
  obtain ⟨h1, h2, h3, h4⟩ := ringF_spec (wantN Q n) _ (partsL_asc (P.filter fun x => decide (x ≠ n)))
  have hr := mem_ringsN.mp h
  have hrs := (ring_meets h).1
  obtain ⟨r2, g1, g2⟩ := h2 p (mem_partsL.mpr (hp.trans hrs)) (meetsB_iff.mpr fun w hw => by
    obtain ⟨K, hK, rfl⟩ := mem_wantN.mp hw
    obtain ⟨x, hx, hxK⟩ := hm K hK
    refine ⟨x, hx, List.mem_filter.mpr ⟨hxK, ?_⟩⟩
    exact (List.mem_filter.mp ((hp.trans hrs).subset hx)).2)
  have hr2n : r2.Nodup := ((hP.filter _).sublist (mem_partsL.mp (h1 r2 g1).1))
  have hlen : r2.length ≤ p.length := nodup_len hr2n g2
  rcases pw_two (List.pairwise_and_iff.mpr ⟨h3, h4⟩) g1 hr with e | e | e
  · rw [e] at hlen; omega
  · exact e.1 fun x hx => hp.subset (g2 x hx)
  · have := e.2; omega
theorem ring_some {Q : List (Nm × List Nm)} {P : List Nm} {n : Nm} (hm : ∀ K, (n, K) ∈ Q → ∃ x ∈ P, x ∈ K ∧ x ≠ n) : ∃ r, r ∈ ringsN Q P n := by
  obtain ⟨h1, h2, h3, h4⟩ := ringF_spec (wantN Q n) _ (partsL_asc (P.filter fun x => decide (x ≠ n)))
  obtain ⟨r, g1, _⟩ := h2 (P.filter fun x => decide (x ≠ n)) (mem_partsL.mpr (.refl _)) (meetsB_iff.mpr fun w hw => by
    obtain ⟨K, hK, rfl⟩ := mem_wantN.mp hw
    obtain ⟨x, hx, hxK, hne⟩ := hm K hK
    exact ⟨x, List.mem_filter.mpr ⟨hx, decide_eq_true hne⟩, List.mem_filter.mpr ⟨hxK, decide_eq_true hne⟩⟩)
  exact ⟨r, mem_ringsN.mpr g1⟩
theorem mem_ringsL {R : List RuleD} {ns : List Nm} {p : Nm × List Nm} : p ∈ ringsL R ns ↔ p.1 ∈ hullC R ns ∧ p.2 ∈ ringsN (reasL (lotsL R ns) ns) (hullC R ns) p.1 := by
  unfold ringsL
  rw [List.mem_flatMap]
  constructor
  · rintro ⟨n, hn, h⟩
    obtain ⟨r, hr, rfl⟩ := List.mem_map.mp h
    exact ⟨hn, hr⟩
  · rintro ⟨h1, h2⟩
    exact ⟨p.1, h1, List.mem_map.mpr ⟨p.2, h2, rfl⟩⟩
end Mi

/-! Rn, part c: texts of rules and rooms, split. -/
namespace Mi
open PySem L2 TL
open Enc (enc)
theorem str_tl {a b : Str} (h : tl a = tl b) : a = b := by
  rw [← mk_tl a, ← mk_tl b, h]
theorem str_emp (a : Str) : Str.empty ++ a = a := str_tl (by rw [tl_append]; rfl)
theorem str_assoc (a b c : Str) : a ++ b ++ c = a ++ (b ++ c) := str_tl (by simp only [tl_append, List.append_assoc])
theorem not_in_join {c : Nat} {y : Str} (hy : c ∉ tl y) : ∀ parts : List Str, (∀ p ∈ parts, c ∉ tl p) → c ∉ tl (Txt.join y parts)
  | [], _ => by rw [join_eq]; exact fun h => by cases h
  | [p], h => by rw [join_eq]; exact h p List.mem_cons_self
  | p :: q :: r, h => by
    have ih := not_in_join hy (q :: r) (fun z hz => h z (List.mem_cons_of_mem _ hz))
    rw [join_eq] at ih ⊢
    show c ∉ tl (p ++ y ++ Str.join y (q :: r))
    rw [tl_append, tl_append, List.mem_append, List.mem_append]
    rintro ((h1 | h1) | h1)
    · exact h p List.mem_cons_self h1
    · exact hy h1
    · exact ih h1
theorem not_in_name {c : Nat} (hc : c < 97) (n : Nm) : c ∉ tl n.1 := by
  have h := n.ok
  unfold isName at h
  rw [Bool.and_eq_true] at h
  have h := h.2
  intro hm
  have hm : c ∈ n.1.cps := Array.mem_toList_iff.mp hm
  have := (Array.all_eq_true_iff_forall_mem.mp h) c hm
  rw [Bool.and_eq_true] at this
  have := of_decide_eq_true this.1
  omega
def wordsL (r : RuleD) : List Str := r.name.1 :: (if r.gone = [] then [] else Str.ofString "if" :: r.gone.map (·.1))
theorem ruleTxt_join (r : RuleD) : ruleTxt r = Txt.join (" " : Str) (wordsL r) := by
  unfold ruleTxt wordsL
  by_cases h : r.gone = []
  · rw [if_pos h, if_pos h, join_eq]; rfl
  · rw [if_neg h, if_neg h]
    obtain ⟨g, gs, e⟩ := List.exists_cons_of_ne_nil h
    rw [e, List.map_cons, join_eq, join_eq, str_emp]
    show r.name.1 ++ (" if " : Str) ++ Str.join (" " : Str) (g.1 :: gs.map (·.1)) = r.name.1 ++ (" " : Str) ++ (Str.ofString "if" ++ (" " : Str) ++ Str.join (" " : Str) (g.1 :: gs.map (·.1)))
    refine str_tl ?_
    simp only [tl_append, List.append_assoc]
    rfl
theorem not_in_ruleTxt {c : Nat} (h1 : c < 97) (h2 : c ≠ 32) (r : RuleD) : c ∉ tl (ruleTxt r) := by
  rw [ruleTxt_join]
  refine not_in_join (fun h => ?_) _ fun p hp => ?_
  · have : tl (" " : Str) = [32] := rfl
    rw [this, List.mem_singleton] at h
    exact h2 h
  · unfold wordsL at hp
    rcases List.mem_cons.mp hp with rfl | hp
    · exact not_in_name h1 _
    · split at hp
      · cases hp
      · rcases List.mem_cons.mp hp with rfl | hp
        · intro h
          have : tl (Str.ofString "if") = [105, 102] := rfl
          rw [this] at h
          simp at h
          omega
        · obtain ⟨n, _, rfl⟩ := List.mem_map.mp hp
          exact not_in_name h1 n
theorem roomTxt_fold : ∀ (R : List RuleD) (acc : Str), R.foldl (fun acc x => Str.empty ++ acc ++ ("\n" : Str) ++ ruleTxt x) acc = Str.join ("\n" : Str) (acc :: R.map ruleTxt)
  | [], acc => rfl
  | x :: R, acc => by
    rw [List.foldl_cons, roomTxt_fold R, str_emp, StrLaws.join_shift]
    rfl
theorem roomTxt_join {R : List RuleD} (h : R ≠ []) : roomTxt R = Txt.join ("\n" : Str) (R.map ruleTxt) := by
  obtain ⟨r, R', rfl⟩ := List.exists_cons_of_ne_nil h
  rw [join_eq]
  exact roomTxt_fold R' (ruleTxt r)
theorem split_room {R : List RuleD} (h : R ≠ []) : Txt.split (roomTxt R) ("\n" : Str) = R.map ruleTxt := by
  rw [roomTxt_join h]
  refine split_join (s := 10) (S := []) rfl (by decide +kernel) (fun e => h (List.map_eq_nil_iff.mp e)) fun p hp => ?_
  obtain ⟨r, _, rfl⟩ := List.mem_map.mp hp
  exact not_in_ruleTxt (by decide) (by decide) r
theorem split_rule (r : RuleD) : Txt.split (ruleTxt r) (" " : Str) = wordsL r := by
  rw [ruleTxt_join]
  refine split_join (s := 32) (S := []) rfl (by decide +kernel) (by unfold wordsL; simp) fun p hp => ?_
  unfold wordsL at hp
  rcases List.mem_cons.mp hp with rfl | hp
  · exact not_in_name (by decide) _
  · split at hp
    · cases hp
    · rcases List.mem_cons.mp hp with rfl | hp
      · decide +kernel
      · obtain ⟨n, _, rfl⟩ := List.mem_map.mp hp
        exact not_in_name (by decide) n
theorem roomTxt_ne {R : List RuleD} (h : R ≠ []) : roomTxt R ≠ ("" : Str) := by
  obtain ⟨r, R', rfl⟩ := List.exists_cons_of_ne_nil h
  intro e
  rw [roomTxt_join (by simp), join_eq] at e
  have h0 : 0 < (ruleTxt r).length := by
    have hn := (isName_len r.name.ok).2
    rw [ruleTxt_join, join_eq]
    unfold wordsL
    split
    · exact hn
    · show 0 < (r.name.1 ++ (" " : Str) ++ _).length
      rw [len_app, len_app]
      omega
  have e := congrArg Str.length e
  rw [show (("" : Str).length) = 0 from rfl] at e
  cases R' with
  | nil =>
    have e : (ruleTxt r).length = 0 := e
    omega
  | cons q Q =>
    have e : (ruleTxt r ++ ("\n" : Str) ++ Str.join ("\n" : Str) (ruleTxt q :: Q.map ruleTxt)).length = 0 := e
    rw [len_app, len_app] at e
    omega
end Mi

/-! Rn, part d: rows of people, partings of two rooms. -/
namespace Mi
open PySem L2
open Enc (enc)
/-- whether a row can leave one behind the other, some being gone -/
def canB (R : List RuleD) (ns : List Nm) : List Nm → List Nm → Bool
  | _, [] => true
  | gs, x :: xs => decide (x ∈ mayL R ns gs) && canB R ns (gs ++ [x]) xs
theorem canB_snoc {R : List RuleD} {ns : List Nm} (x : Nm) : ∀ (xs gs : List Nm), canB R ns gs (xs ++ [x]) = (canB R ns gs xs && decide (x ∈ mayL R ns (gs ++ xs)))
  | [], gs => by simp [canB]
  | y :: xs, gs => by
    rw [List.cons_append, canB, canB, canB_snoc x xs, Bool.and_assoc, List.append_assoc]
    rfl
theorem Feas.rule {R : List RuleD} {ns X : List Nm} (h : Feas R ns X) {n : Nm} (hn : n ∈ X) : ∃ r ∈ R, r.name = n ∧ ∀ y ∈ r.gone, y ∈ X ∧ y ≠ n := by
  induction h with
  | nil => cases hn
  | @step L m hL hm ih =>
    have hs : ∀ y ∈ L, y ∈ lotL (L ++ [m]) := fun y hy => mem_lotL.mpr (List.mem_append.mpr (.inl hy))
    by_cases hnL : n ∈ L
    · obtain ⟨r, hr, h1, h2⟩ := ih hnL
      exact ⟨r, hr, h1, fun y hy => ⟨hs y (h2 y hy).1, (h2 y hy).2⟩⟩
    · have hn1 : n = m := by
        rcases List.mem_append.mp (mem_lotL.mp hn) with h | h
        · exact absurd h hnL
        · exact List.mem_singleton.mp h
      subst hn1
      obtain ⟨h1, h2, r, hr, h3, h4⟩ := mem_mayL.mp hm
      exact ⟨r, hr, h3, fun y hy => ⟨hs y (h4 y hy), fun e => h2 (e ▸ h4 y hy)⟩⟩
theorem Feas.mayOf {R : List RuleD} {ns L : List Nm} {n : Nm} (h : Feas R ns (lotL (L ++ [n]))) (hn : n ∉ L) : n ∈ mayL R ns L := by
  have hin : n ∈ lotL (L ++ [n]) := mem_lotL.mpr (List.mem_append.mpr (.inr (List.mem_singleton.mpr rfl)))
  obtain ⟨r, hr, h1, h2⟩ := h.rule hin
  refine mem_mayL.mpr ⟨h.sub n hin, hn, r, hr, h1, fun y hy => ?_⟩
  obtain ⟨h3, h4⟩ := h2 y hy
  rcases List.mem_append.mp (mem_lotL.mp h3) with h | h
  · exact h
  · exact absurd (List.mem_singleton.mp h) h4
theorem may_len {R : List RuleD} {ns L : List Nm} {m : Nm} (h : IsLot L) (hm : m ∉ L) : (L ++ [m]).Nodup ∧ (lotL (L ++ [m])).length = L.length + 1 := by
  have hnd : (L ++ [m]).Nodup := by
    rw [List.nodup_append]
    exact ⟨h.nodup, by simp, fun a ha b hb => by rw [List.mem_singleton] at hb; subst hb; exact fun e => hm (e ▸ ha)⟩
  have h1 := nodup_len (ys := lotL (L ++ [m])) hnd fun x hx => mem_lotL.mpr hx
  have h2 := length_lotL (L ++ [m])
  rw [List.length_append, List.length_singleton] at h1 h2
  exact ⟨hnd, by omega⟩
/-- lots that are known, each with a row that leads there in both rooms -/
structure Com (P : List RuleD) (ns : List Nm) (Q : List RuleD) (ms : List Nm) (p : List Nm × List Nm) : Prop where
  fp : Feas P ns p.1
  fq : Feas Q ms p.1
  cp : canB P ns [] p.2 = true
  cq : canB Q ms [] p.2 = true
  mem : ∀ x, x ∈ p.1 ↔ x ∈ p.2
  len : p.2.length = p.1.length
/-- a parting -/
structure Part (P : List RuleD) (ns : List Nm) (Q : List RuleD) (ms : List Nm) (row : List Nm) : Prop where
  pos : 0 < row.length
  one : canB P ns [] row ≠ canB Q ms [] row
  some : ∃ X, X.length = row.length ∧ (Feas P ns X ↔ ¬ Feas Q ms X)
  least : ∀ X, (Feas P ns X ↔ ¬ Feas Q ms X) → row.length ≤ X.length
/-- the search, up to a place -/
structure Srch (P : List RuleD) (ns : List Nm) (Q : List RuleD) (ms : List Nm) (F : List (List Nm × List Nm)) (k : Nat) : Prop where
  com : ∀ p ∈ F, Com P ns Q ms p
  nd : (F.map (·.1)).Nodup
  nil : [] ∈ F.map (·.1)
  asc : F.Pairwise fun a b => a.1.length ≤ b.1.length
  done : ∀ i, i < k → ∀ p, F[i]? = some p → mayL P ns p.1 = mayL Q ms p.1 ∧ ∀ n ∈ mayL P ns p.1, lotL (p.1 ++ [n]) ∈ F.map (·.1)
theorem Srch.init (P : List RuleD) (ns : List Nm) (Q : List RuleD) (ms : List Nm) : Srch P ns Q ms [([], [])] 0 :=
  ⟨fun p hp => by rw [List.mem_singleton] at hp; subst hp; exact ⟨.nil, .nil, rfl, rfl, fun x => Iff.rfl, rfl⟩, by simp, by simp, by simp, fun i hi => absurd hi (Nat.not_lt_zero _)⟩
section
variable {P Q : List RuleD} {ns ms : List Nm} {F : List (List Nm × List Nm)} {k : Nat}
theorem Srch.below (h : Srch P ns Q ms F k) {L : List Nm × List Nm} (hk : F[k]? = some L) {K : List Nm} (hK : K ∈ F.map (·.1)) (hl : K.length < L.1.length) : ∃ i, i < k ∧ ∃ p, F[i]? = some p ∧ p.1 = K := by
  obtain ⟨p, hp, rfl⟩ := List.mem_map.mp hK
  obtain ⟨i, hi⟩ := List.mem_iff_getElem?.mp hp
  refine ⟨i, Decidable.byContradiction fun hn => ?_, p, hi, rfl⟩
  rcases Nat.lt_or_eq_of_le (Nat.le_of_not_lt hn) with h1 | h1
  · obtain ⟨hi1, hi2⟩ := List.getElem?_eq_some_iff.mp hi
    obtain ⟨hk1, hk2⟩ := List.getElem?_eq_some_iff.mp hk
    have := List.pairwise_iff_getElem.mp h.asc k i hk1 hi1 h1
    rw [hi2, hk2] at this
    omega
  · subst h1
    rw [hk] at hi
    cases hi
    omega
theorem Srch.allP (h : Srch P ns Q ms F k) {L : List Nm × List Nm} (hk : F[k]? = some L) {X : List Nm} (hX : Feas P ns X) (hl : X.length ≤ L.1.length) : X ∈ F.map (·.1) := by
  induction hX with
  | nil => exact h.nil
  | @step K m hK hm ih =>
    have h1 := (may_len (R := P) (ns := ns) hK.lot (mem_mayL.mp hm).2.1).2
    obtain ⟨i, hi, p, hp, rfl⟩ := h.below hk (ih (by omega)) (by omega)
    exact (h.done i hi p hp).2 m hm
theorem Srch.allQ (h : Srch P ns Q ms F k) {L : List Nm × List Nm} (hk : F[k]? = some L) {X : List Nm} (hX : Feas Q ms X) (hl : X.length ≤ L.1.length) : X ∈ F.map (·.1) := by
  induction hX with
  | nil => exact h.nil
  | @step K m hK hm ih =>
    have h1 := (may_len (R := P) (ns := ns) hK.lot (mem_mayL.mp hm).2.1).2
    obtain ⟨i, hi, p, hp, rfl⟩ := h.below hk (ih (by omega)) (by omega)
    obtain ⟨h2, h3⟩ := h.done i hi p hp
    exact h3 m (h2 ▸ hm)
theorem Srch.end_ (h : Srch P ns Q ms F k) (hk : F.length ≤ k) : ∀ X, Feas P ns X ↔ Feas Q ms X := by
  have both : ∀ p ∈ F, Feas P ns p.1 ∧ Feas Q ms p.1 := fun p hp => ⟨(h.com p hp).fp, (h.com p hp).fq⟩
  have key : ∀ K ∈ F.map (·.1), mayL P ns K = mayL Q ms K ∧ ∀ n ∈ mayL P ns K, lotL (K ++ [n]) ∈ F.map (·.1) := by
    intro K hK
    obtain ⟨p, hp, rfl⟩ := List.mem_map.mp hK
    obtain ⟨i, hi⟩ := List.mem_iff_getElem?.mp hp
    exact h.done i (by have := (List.getElem?_eq_some_iff.mp hi).1; omega) p hi
  intro X
  constructor
  · intro hX
    have : X ∈ F.map (·.1) := by
      induction hX with
      | nil => exact h.nil
      | @step K m hK hm ih => exact (key K ih).2 m hm
    obtain ⟨p, hp, rfl⟩ := List.mem_map.mp this
    exact (both p hp).2
  · intro hX
    have : X ∈ F.map (·.1) := by
      induction hX with
      | nil => exact h.nil
      | @step K m hK hm ih => exact (key K ih).2 m ((key K ih).1 ▸ hm)
    obtain ⟨p, hp, rfl⟩ := List.mem_map.mp this
    exact (both p hp).1
theorem Srch.part (h : Srch P ns Q ms F k) (hns : IsLot ns) (hms : IsLot ms) {L : List Nm × List Nm} (hk : F[k]? = some L) {n : Nm} (hn : n ∈ mayL P ns L.1 ↔ n ∉ mayL Q ms L.1) : Part P ns Q ms (L.2 ++ [n]) := by
  have hc := h.com L (List.mem_of_getElem? hk)
  have e1 : mayL P ns L.2 = mayL P ns L.1 := mayL_congr (fun x => (hc.mem x).symm) hns
  have e2 : mayL Q ms L.2 = mayL Q ms L.1 := mayL_congr (fun x => (hc.mem x).symm) hms
  have hnL : n ∉ L.1 := by
    by_cases h1 : n ∈ mayL P ns L.1
    · exact (mem_mayL.mp h1).2.1
    · have h2 : n ∈ mayL Q ms L.1 := Decidable.byContradiction fun h3 => h1 (hn.mpr h3)
      exact (mem_mayL.mp h2).2.1
  have hln := (may_len (R := P) (ns := ns) hc.fp.lot hnL).2
  refine ⟨by simp, ?_, ⟨lotL (L.1 ++ [n]), by rw [hln, List.length_append, hc.len]; rfl, ?_⟩, fun X hX => ?_⟩
  · rw [canB_snoc, canB_snoc, hc.cp, hc.cq, List.nil_append, e1, e2, Bool.true_and, Bool.true_and]
    intro e
    have e := decide_eq_decide.mp e
    by_cases h1 : n ∈ mayL P ns L.1
    · exact hn.mp h1 (e.mp h1)
    · exact h1 (hn.mpr fun h2 => h1 (e.mpr h2))
  · constructor
    · intro h1 h2
      exact hn.mp (h1.mayOf hnL) (h2.mayOf hnL)
    · intro h1
      refine .step hc.fp (hn.mpr fun h2 => h1 (.step hc.fq h2))
  · rw [List.length_append, List.length_singleton, hc.len]
    refine Decidable.byContradiction fun hl => ?_
    have hl : X.length ≤ L.1.length := by omega
    have hin : X ∈ F.map (·.1) := by
      by_cases h1 : Feas P ns X
      · exact h.allP hk h1 hl
      · have : Feas Q ms X := Classical.byContradiction fun h2 => h1 (hX.mpr h2)
        exact h.allQ hk this hl
    obtain ⟨p, hp, rfl⟩ := List.mem_map.mp hin
    exact hX.mp (h.com p hp).fp (h.com p hp).fq
/-- a lot more, behind the place -/
theorem Com.step (hc : Com P ns Q ms p) (hns : IsLot ns) (hms : IsLot ms) {n : Nm} (h1 : n ∈ mayL P ns p.1) (h2 : n ∈ mayL Q ms p.1) : Com P ns Q ms (lotL (p.1 ++ [n]), p.2 ++ [n]) := by
  have e1 : mayL P ns p.2 = mayL P ns p.1 := mayL_congr (fun x => (hc.mem x).symm) hns
  have e2 : mayL Q ms p.2 = mayL Q ms p.1 := mayL_congr (fun x => (hc.mem x).symm) hms
  refine ⟨.step hc.fp h1, .step hc.fq h2, ?_, ?_, fun x => ?_, ?_⟩
  · rw [canB_snoc, hc.cp, List.nil_append, e1, decide_eq_true h1]; rfl
  · rw [canB_snoc, hc.cq, List.nil_append, e2, decide_eq_true h2]; rfl
  · rw [mem_lotL, List.mem_append, List.mem_append, hc.mem]
  · rw [(may_len (R := P) (ns := ns) hc.fp.lot (mem_mayL.mp h1).2.1).2, List.length_append, hc.len]; rfl
theorem Srch.more (h : Srch P ns Q ms F k) {q : List Nm × List Nm} (hq : Com P ns Q ms q) (hn : q.1 ∉ F.map (·.1)) (hl : ∀ p ∈ F, p.1.length ≤ q.1.length) (hk : k ≤ F.length) : Srch P ns Q ms (F ++ [q]) k := by
  refine ⟨fun p hp => ?_, ?_, ?_, ?_, fun i hi p hp => ?_⟩
  · rcases List.mem_append.mp hp with h1 | h1
    · exact h.com p h1
    · rw [List.mem_singleton] at h1; subst h1; exact hq
  · rw [List.map_append, List.nodup_append]
    exact ⟨h.nd, by simp, fun a ha b hb => by rw [List.map_cons, List.map_nil, List.mem_singleton] at hb; subst hb; exact fun e => hn (e ▸ ha)⟩
  · rw [List.map_append]; exact List.mem_append.mpr (.inl h.nil)
  · rw [List.pairwise_append]
    exact ⟨h.asc, by simp, fun a ha b hb => by rw [List.mem_singleton] at hb; subst hb; exact hl a ha⟩
  · rw [List.getElem?_append_left (by omega)] at hp
    obtain ⟨h1, h2⟩ := h.done i hi p hp
    exact ⟨h1, fun n hn => by rw [List.map_append]; exact List.mem_append.mpr (.inl (h2 n hn))⟩
theorem Srch.next (h : Srch P ns Q ms F k) {L : List Nm × List Nm} (hk : F[k]? = some L) (h1 : mayL P ns L.1 = mayL Q ms L.1) (h2 : ∀ n ∈ mayL P ns L.1, lotL (L.1 ++ [n]) ∈ F.map (·.1)) : Srch P ns Q ms F (k + 1) :=
  ⟨h.com, h.nd, h.nil, h.asc, fun i hi p hp => by
    by_cases e : i = k
    · subst e
      rw [hk] at hp
      cases hp
      exact ⟨h1, h2⟩
    · exact h.done i (by omega) p hp⟩
end
/-! ### the dict of lots and rows -/
def dkw (F : List (List Nm × List Nm)) : List (Val × Val) := F.map fun p => (enc p.1, enc p.2)
theorem any_dkw (F : List (List Nm × List Nm)) (L : List Nm) : ((dkw F).any fun kv => decide (kv.1 = enc L)) = decide (L ∈ F.map (·.1)) := by
  unfold dkw
  rw [List.any_map, Bool.eq_iff_iff, List.any_eq_true, decide_eq_true_eq, List.mem_map]
  constructor
  · rintro ⟨p, hp, e⟩
    exact ⟨p, hp, enc_lot_inj (of_decide_eq_true e)⟩
  · rintro ⟨p, hp, e⟩
    exact ⟨p, hp, decide_eq_true (by show (enc p.1 : Val) = enc L; rw [e])⟩
theorem dget_dkw {F : List (List Nm × List Nm)} {p : List Nm × List Nm} (hn : (F.map (·.1)).Nodup) (hp : p ∈ F) : dget (dkw F) (enc p.1) = some (enc p.2) := by
  induction F with
  | nil => cases hp
  | cons q F ih =>
    rw [List.map_cons, List.nodup_cons] at hn
    unfold dget dkw
    rw [List.map_cons, List.find?_cons]
    by_cases e : q.1 = p.1
    · rw [show decide ((enc q.1 : Val) = enc p.1) = true from decide_eq_true (by rw [e])]
      have : q = p := by
        rcases List.mem_cons.mp hp with h | h
        · exact h.symm
        · exact absurd (List.mem_map.mpr ⟨p, h, e.symm⟩) hn.1
      rw [this]
      rfl
    · rw [show decide ((enc q.1 : Val) = enc p.1) = false from decide_eq_false fun h => e (enc_lot_inj h)]
      refine ih hn.2 ?_
      rcases List.mem_cons.mp hp with h | h
      · exact absurd (congrArg (·.1) h.symm) e
      · exact h
theorem isSome_dkw (F : List (List Nm × List Nm)) (L : List Nm) : (dget (dkw F) (enc L)).isSome = decide (L ∈ F.map (·.1)) := by
  rw [← any_dkw]
  unfold dget
  rw [Option.isSome_map, Bool.eq_iff_iff, List.find?_isSome, List.any_eq_true]
theorem dput_dkw (F : List (List Nm × List Nm)) {p : List Nm × List Nm} (h : p.1 ∉ F.map (·.1)) : dput (dkw F) (enc p.1) (enc p.2) = dkw (F ++ [p]) := by
  unfold dput
  rw [if_neg (by rw [any_dkw]; simpa using h)]
  unfold dkw
  rw [List.map_append]
  rfl
theorem keyFits_dkw {F : List (List Nm × List Nm)} (h : F ≠ []) (lk : Bool) (L : List Nm) : keyFits (dkw F) lk (enc L) = true := by
  cases F with
  | nil => exact absurd rfl h
  | cons p F =>
    unfold keyFits
    rw [isKey_lot]
    rfl
theorem cmp_notin_dkw {st : Store} {i : Nat} {F : List (List Nm × List Nm)} {lk : Bool} (h : st[i]? = some (.dic (dkw F) lk)) (hF : F ≠ []) (L : List Nm) : cmpop .NotIn (enc L) (.ref i) st = some (decide (L ∉ F.map (·.1))) := by
  show (pyIn st (enc L) (.ref i)).map (!·) = _
  have e : pyIn st (enc L) (.ref i) = some (decide (L ∈ F.map (·.1))) := by
    show pyInS st (enc L) (.ref i) = _
    unfold pyInS
    rw [show seqOf st (.ref i) = none from by show lstOf st (.ref i) = none; unfold lstOf; dsimp only; rw [h]]
    dsimp only
    rw [show dicOf st (.ref i) = some (dkw F, lk) from by unfold dicOf; dsimp only; rw [h]]
    dsimp only
    rw [if_pos (keyFits_dkw hF lk L), isSome_dkw]
  rw [e]
  simp
theorem idx_dkw {st : Store} {i : Nat} {F : List (List Nm × List Nm)} {lk : Bool} {p : List Nm × List Nm} (h : st[i]? = some (.dic (dkw F) lk)) (hn : (F.map (·.1)).Nodup) (hp : p ∈ F) : idxV (.ref i) (enc p.1) st = .ok (enc p.2) st := by
  have hF : F ≠ [] := fun e => by rw [e] at hp; cases hp
  unfold idxV index
  dsimp only
  unfold indexS
  rw [show seqOf st (.ref i) = none from by show lstOf st (.ref i) = none; unfold lstOf; dsimp only; rw [h]]
  dsimp only
  rw [show dicOf st (.ref i) = some (dkw F, lk) from by unfold dicOf; dsimp only; rw [h]]
  dsimp only
  rw [if_pos (keyFits_dkw hF lk p.1), dget_dkw hn hp]
theorem setI_dkw {st : Store} {i : Nat} {F : List (List Nm × List Nm)} (h : st[i]? = some (.dic (dkw F) false)) (hF : F ≠ []) (hl : F.length < lim) {p : List Nm × List Nm} (hp : p.1 ∉ F.map (·.1)) : setIV (.ref i) (enc p.1) (enc p.2) st = .ok () (st.set i (.dic (dkw (F ++ [p])) false)) := by
  unfold setIV
  dsimp only
  rw [h]
  dsimp only
  have hl' : (dkw F).length < lim := by unfold dkw; rw [List.length_map]; exact hl
  rw [if_pos (by simp [keyFits_dkw hF, hl']), dput_dkw F hp]
theorem walk_rng (n : Nat) (h : n ≤ 1000000) (st : Store) : walk .rng [.int (n : Int)] st = some ((List.range n).map (fun (k : Nat) => Val.int (k : Int)), .none, st) := by
  unfold walk walkRng
  dsimp only
  rw [if_pos ((inRng_iff _).mpr (by omega)), Int.toNat_natCast, rngL_range]
end Mi

/-! Rn, part e: plain rooms; reasons as texts. -/
namespace Mi
open PySem L2
open Enc (enc)
/-! ### lots joined -/
theorem Feas.join {R : List RuleD} {ns X K : List Nm} (hX : Feas R ns X) (hK : Feas R ns K) : Feas R ns (lotL (X ++ K)) := by
  induction hK with
  | nil => rw [List.append_nil, lotL_self hX.lot]; exact hX
  | @step K m hK hm ih =>
    obtain ⟨h1, h2, r, hr, h3, h4⟩ := mem_mayL.mp hm
    by_cases hin : m ∈ lotL (X ++ K)
    · rw [show lotL (X ++ lotL (K ++ [m])) = lotL (X ++ K) from lotL_congr fun x => by
        rw [List.mem_append, mem_lotL, List.mem_append, List.mem_append, List.mem_singleton]
        constructor
        · rintro (h | h | h)
          · exact .inl h
          · exact .inr h
          · subst h; exact List.mem_append.mp (mem_lotL.mp hin)
        · rintro (h | h)
          · exact .inl h
          · exact .inr (.inl h)]
      exact ih
    · rw [show lotL (X ++ lotL (K ++ [m])) = lotL (lotL (X ++ K) ++ [m]) from lotL_congr fun x => by
        rw [List.mem_append, mem_lotL, List.mem_append, List.mem_append, List.mem_singleton, mem_lotL, List.mem_append, or_assoc]]
      exact .step ih (mem_mayL.mpr ⟨h1, hin, r, hr, h3, fun y hy => mem_lotL.mpr (List.mem_append.mpr (.inr (h4 y hy)))⟩)
/-! ### plain rooms -/
def plainL (Q : List (Nm × List Nm)) : List (Nm × List Nm) := Q.map fun p => (p.1, p.2.filter fun x => decide (x ≠ p.1))
section
variable {R : List RuleD} {ns : List Nm} {T : List (List Nm)}
theorem plain_feas (hT : ∀ L, L ∈ T ↔ Feas R ns L) (X : List Nm) : Feas (toRules (plainL (reasL T ns))) (peopleL (plainL (reasL T ns))) X ↔ Feas R ns X := by
  have hr : ∀ r, r ∈ toRules (plainL (reasL T ns)) ↔ ∃ n K, n ∈ ns ∧ K ∈ leastW n T ∧ r = ⟨n, lotL (K.filter fun x => decide (x ≠ n))⟩ := by
    intro r
    unfold toRules plainL
    rw [List.map_map, List.mem_map]
    constructor
    · rintro ⟨p, hp, rfl⟩
      obtain ⟨h1, h2⟩ := mem_reasL.mp hp
      exact ⟨p.1, p.2, h1, h2, rfl⟩
    · rintro ⟨n, K, h1, h2, rfl⟩
      exact ⟨(n, K), mem_reasL.mpr ⟨h1, h2⟩, rfl⟩
  constructor
  · intro h
    induction h with
    | nil => exact .nil
    | @step X m hX hm ih =>
      obtain ⟨_, h2, r, h3, h4, h5⟩ := mem_mayL.mp hm
      obtain ⟨n, K, h6, h7, rfl⟩ := (hr r).mp h3
      have h4 : n = m := h4
      subst h4
      obtain ⟨g1, g2, _⟩ := mem_leastW.mp h7
      have hK := (hT K).mp g1
      have := ih.join hK
      rw [show lotL (X ++ K) = lotL (X ++ [n]) from lotL_congr fun x => by
        rw [List.mem_append, List.mem_append, List.mem_singleton]
        constructor
        · rintro (h | h)
          · exact .inl h
          · by_cases e : x = n
            · exact .inr e
            · exact .inl (h5 x (mem_lotL.mpr (List.mem_filter.mpr ⟨h, decide_eq_true e⟩)))
        · rintro (h | h)
          · exact .inl h
          · subst h; exact .inr g2] at this
      exact this
  · intro h
    induction h with
    | nil => exact .nil
    | @step X m hX hm ih =>
      have hF : Feas R ns (lotL (X ++ [m])) := .step hX hm
      have hmX : m ∈ lotL (X ++ [m]) := mem_lotL.mpr (List.mem_append.mpr (.inr (List.mem_singleton.mpr rfl)))
      obtain ⟨K, hK, hs⟩ := reason_in hT hF hmX
      obtain ⟨h1, h2, _⟩ := mem_mayL.mp hm
      refine .step ih (mem_mayL.mpr ⟨?_, h2, ⟨m, lotL (K.filter fun x => decide (x ≠ m))⟩, (hr _).mpr ⟨m, K, h1, hK, rfl⟩, rfl, fun y hy => ?_⟩)
      · unfold peopleL plainL
        refine mem_lotL.mpr (List.mem_flatMap.mpr ⟨(m, K.filter fun x => decide (x ≠ m)), List.mem_map.mpr ⟨(m, K), mem_reasL.mpr ⟨h1, hK⟩, rfl⟩, List.mem_cons_self⟩)
      · obtain ⟨h3, h4⟩ := List.mem_filter.mp (mem_lotL.mp hy)
        rcases List.mem_append.mp (mem_lotL.mp (hs y h3)) with h | h
        · exact h
        · exact absurd (List.mem_singleton.mp h) (of_decide_eq_true h4)
theorem plain_people (hT : ∀ L, L ∈ T ↔ Feas R ns L) (x : Nm) : x ∈ peopleL (plainL (reasL T ns)) ↔ ∃ L ∈ T, x ∈ L := by
  unfold peopleL
  rw [mem_lotL, List.mem_flatMap]
  constructor
  · rintro ⟨q, hq, hx⟩
    unfold plainL at hq
    obtain ⟨p, hp, rfl⟩ := List.mem_map.mp hq
    obtain ⟨h1, h2⟩ := mem_reasL.mp hp
    obtain ⟨h3, h4, _⟩ := mem_leastW.mp h2
    refine ⟨p.2, h3, ?_⟩
    rcases List.mem_cons.mp hx with h | h
    · rw [h]; exact h4
    · exact (List.mem_filter.mp h).1
  · rintro ⟨L, hL, hx⟩
    obtain ⟨K, hK, hs⟩ := reason_in hT ((hT L).mp hL) hx
    have hn : x ∈ ns := ((hT L).mp hL).sub x hx
    exact ⟨(x, K.filter fun y => decide (y ≠ x)), List.mem_map.mpr ⟨(x, K), mem_reasL.mpr ⟨hn, hK⟩, rfl⟩, List.mem_cons_self⟩
theorem reasL_part {T : List (List Nm)} {ns ms : List Nm} (hn : IsLot ns) (hm : IsLot ms) (hs : ∀ x ∈ ms, x ∈ ns) (hT : ∀ x ∈ ns, x ∉ ms → ∀ L ∈ T, x ∉ L) : reasL T ms = reasL T ns := by
  have e : ms = ns.filter fun x => decide (x ∈ ms) := lot_ext hm (hn.filter _) fun x => by
    rw [List.mem_filter, decide_eq_true_eq]
    exact ⟨fun h => ⟨hs x h, h⟩, fun h => h.2⟩
  have key : ∀ l : List Nm, (∀ x ∈ l, x ∈ ns) → (l.filter fun x => decide (x ∈ ms)).flatMap (fun n => (leastW n T).map fun L => (n, L)) = l.flatMap fun n => (leastW n T).map fun L => (n, L) := by
    intro l
    induction l with
    | nil => intro _; rfl
    | cons x l ih =>
      intro h
      have ih := ih fun y hy => h y (List.mem_cons_of_mem _ hy)
      by_cases hx : x ∈ ms
      · rw [List.filter_cons_of_pos (by simpa using hx), List.flatMap_cons, List.flatMap_cons, ih]
      · rw [List.filter_cons_of_neg (by simpa using hx), List.flatMap_cons, ih]
        have : leastW x T = [] := by
          rw [List.eq_nil_iff_forall_not_mem]
          intro L hL
          obtain ⟨h1, h2, _⟩ := mem_leastW.mp hL
          exact hT x (h x List.mem_cons_self) hx L h1 h2
        rw [this]
        rfl
  unfold reasL
  conv => lhs; rw [e]
  exact key ns fun x h => h
end
/-! ### how many reasons -/
theorem leastW_pow {n : Nm} {T : List (List Nm)} {ns : List Nm} (hd : T.Nodup) (hl : ∀ L ∈ T, IsLot L ∧ ∀ x ∈ L, x ∈ ns) (hn : IsLot ns) : (leastW n T).length ≤ 2 ^ (ns.filter fun x => decide (x ≠ n)).length := by
  have hm : ∀ L ∈ leastW n T, L ∈ T ∧ n ∈ L := fun L h => ⟨(mem_leastW.mp h).1, (mem_leastW.mp h).2.1⟩
  have hnd : (leastW n T).Nodup := by
    unfold leastW
    exact (hd.sublist List.filter_sublist).sublist List.filter_sublist
  rw [← pw_len]
  have h1 : ((leastW n T).map fun L => L.filter fun x => decide (x ≠ n)).Nodup := by
    refine (List.pairwise_map).mpr ?_
    refine List.Pairwise.imp_of_mem (fun {a b} ha hb hab e => hab ?_) hnd
    obtain ⟨a1, a2⟩ := hm a ha
    obtain ⟨b1, b2⟩ := hm b hb
    refine lot_ext (hl a a1).1 (hl b b1).1 fun x => ?_
    by_cases hx : x = n
    · subst hx; exact ⟨fun _ => b2, fun _ => a2⟩
    · have : x ∈ a.filter (fun x => decide (x ≠ n)) ↔ x ∈ b.filter (fun x => decide (x ≠ n)) := by rw [e]
      simp only [List.mem_filter, decide_eq_true_eq] at this
      exact ⟨fun h => (this.mp ⟨h, hx⟩).1, fun h => (this.mpr ⟨h, hx⟩).1⟩
  have := nodup_len (ys := pw (ns.filter fun x => decide (x ≠ n))) h1 fun Y hY => by
    obtain ⟨L, hL, rfl⟩ := List.mem_map.mp hY
    obtain ⟨g1, g2⟩ := hm L hL
    refine mem_pw (lot_sublist ((hl L g1).1.filter _) (hn.filter _) fun x hx => ?_)
    obtain ⟨h3, h4⟩ := List.mem_filter.mp hx
    exact List.mem_filter.mpr ⟨(hl L g1).2 x h3, h4⟩
  rwa [List.length_map] at this
theorem reasL_le {T : List (List Nm)} {ns : List Nm} (hd : T.Nodup) (hl : ∀ L ∈ T, IsLot L ∧ ∀ x ∈ L, x ∈ ns) (hn : IsLot ns) (h6 : ns.length ≤ 6) : (reasL T ns).length ≤ 200 := by
  have key : ∀ l : List Nm, (∀ x ∈ l, x ∈ ns) → (l.flatMap fun n => (leastW n T).map fun L => (n, L)).length ≤ 32 * l.length := by
    intro l
    induction l with
    | nil => intro _; simp
    | cons x l ih =>
      intro h
      have h1 := ih fun y hy => h y (List.mem_cons_of_mem _ hy)
      have h2 := leastW_pow (n := x) hd hl hn
      have h3 : (ns.filter fun y => decide (y ≠ x)).length ≤ 5 := by
        have h4 := nodup_len (xs := x :: ns.filter fun y => decide (y ≠ x)) (ys := ns) (List.nodup_cons.mpr ⟨by simp, (hn.filter _).nodup⟩) fun y hy => by
          rcases List.mem_cons.mp hy with rfl | hy
          · exact h _ List.mem_cons_self
          · exact (List.mem_filter.mp hy).1
        rw [List.length_cons] at h4
        omega
      have h5 : 2 ^ (ns.filter fun y => decide (y ≠ x)).length ≤ 2 ^ 5 := Nat.pow_le_pow_right (by decide) h3
      rw [List.flatMap_cons, List.length_append, List.length_map, List.length_cons]
      omega
  have := key ns fun x h => h
  unfold reasL
  omega
/-! ### reasons as texts -/
theorem lexA {s : Nat} : ∀ {a b x y : List Nat}, (∀ c ∈ b, s < c) → (x = [] ∨ ∃ x', x = s :: x') → a < b → a ++ x < b ++ y
  | [], [], _, _, _, _, h => by cases h
  | [], c :: b, x, y, hb, hx, _ => by
    rcases hx with rfl | ⟨x', rfl⟩
    · exact .nil
    · exact .rel (hb c List.mem_cons_self)
  | d :: a, [], _, _, _, _, h => by cases h
  | d :: a, c :: b, x, y, hb, hx, h => by
    cases h with
    | rel h => exact .rel h
    | cons h => exact .cons (lexA (fun e he => hb e (List.mem_cons_of_mem _ he)) hx h)
theorem lexP : ∀ (p : List Nat) {a b : List Nat}, a < b → p ++ a < p ++ b
  | [], _, _, h => h
  | c :: p, _, _, h => .cons (lexP p h)
def jnC (L : List Nm) : Str := Txt.join ("," : Str) (L.map (·.1))
def keyC (p : Nm × List Nm) : Str := p.1.1 ++ (" " : Str) ++ jnC p.2
open TL (tl)
theorem tl_jnC_cons (a b : Nm) (L : List Nm) : tl (jnC (a :: b :: L)) = tl a.1 ++ 44 :: tl (jnC (b :: L)) := by
  unfold jnC
  rw [List.map_cons, TL.join_eq, TL.join_eq]
  show tl (a.1 ++ ("," : Str) ++ _) = _
  rw [TL.tl_append, TL.tl_append, List.append_assoc]
  rfl
theorem name_big (n : Nm) {s : Nat} (hs : s < 97) : ∀ c ∈ tl n.1, s < c := fun c hc => by
  have := (isName_chars n.ok c hc).1
  omega
theorem tl_jnC_tail (a : Nm) (L : List Nm) : ∃ x, tl (jnC (a :: L)) = tl a.1 ++ x ∧ (x = [] ∨ ∃ x', x = 44 :: x') := by
  cases L with
  | nil => exact ⟨[], by rw [List.append_nil]; rfl, .inl rfl⟩
  | cons b L => exact ⟨_, tl_jnC_cons a b L, .inr ⟨_, rfl⟩⟩
theorem jnC_lt : ∀ {L K : List Nm}, ltL L K = true → tl (jnC L) < tl (jnC K)
  | [], [], h => by cases h
  | [], b :: K, _ => by
    obtain ⟨x, e, _⟩ := tl_jnC_tail b K
    rw [e]
    have hp := (isName_len b.ok).2
    have : tl b.1 ≠ [] := fun e => by
      have : (tl b.1).length = 0 := by rw [e]; rfl
      have h2 : (tl b.1).length = b.1.length := by unfold tl; exact Array.length_toList
      omega
    obtain ⟨c, r, e2⟩ := List.exists_cons_of_ne_nil this
    rw [e2]
    exact .nil
  | a :: L, [], h => by cases h
  | a :: L, b :: K, h => by
    unfold ltL at h
    rw [List.map_cons, List.map_cons, ltSS] at h
    by_cases e : a.1 = b.1
    · rw [if_pos e] at h
      have e : a = b := Nm.ext e
      subst e
      have hK : K ≠ [] := fun e => by subst e; cases L <;> cases h
      obtain ⟨b, K, rfl⟩ := List.exists_cons_of_ne_nil hK
      cases L with
      | nil =>
        rw [tl_jnC_cons]
        have : tl (jnC [a]) = tl a.1 := rfl
        rw [this]
        have := lexP (tl a.1) (a := []) (b := 44 :: tl (jnC (b :: K))) .nil
        rwa [List.append_nil] at this
      | cons c L =>
        rw [tl_jnC_cons, tl_jnC_cons]
        exact lexP _ (.cons (jnC_lt h))
    · rw [if_neg e, ltS_eq, decide_eq_true_eq] at h
      obtain ⟨x, e1, hx⟩ := tl_jnC_tail a L
      obtain ⟨y, e2, _⟩ := tl_jnC_tail b K
      rw [e1, e2]
      exact lexA (name_big b (by decide)) hx h
theorem keyC_lt {p q : Nm × List Nm} (h : ltN p.1 q.1 = true ∨ (p.1 = q.1 ∧ ltL p.2 q.2 = true)) : ltS (keyC p) (keyC q) = true := by
  rw [ltS_eq, decide_eq_true_eq]
  show tl (keyC p) < tl (keyC q)
  unfold keyC
  rw [TL.tl_append, TL.tl_append, TL.tl_append, TL.tl_append, List.append_assoc, List.append_assoc]
  rcases h with h | ⟨h1, h2⟩
  · unfold ltN at h
    rw [ltS_eq, decide_eq_true_eq] at h
    exact lexA (s := 32) (name_big q.1 (by decide)) (.inr ⟨_, rfl⟩) h
  · rw [h1]
    exact lexP _ (lexP _ (jnC_lt h2))
theorem reasL_pw {T : List (List Nm)} {ns : List Nm} (ht : T.Pairwise fun a b => ltL a b = true) (hn : IsLot ns) : (reasL T ns).Pairwise fun p q => ltS (keyC p) (keyC q) = true := by
  unfold reasL
  rw [List.pairwise_flatMap]
  refine ⟨fun n _ => ?_, ?_⟩
  · refine List.pairwise_map.mpr ?_
    have : (leastW n T).Pairwise fun a b => ltL a b = true := by
      unfold leastW
      exact (ht.sublist List.filter_sublist).sublist List.filter_sublist
    refine List.Pairwise.imp (fun {a b} h => ?_) this
    exact keyC_lt (p := (n, a)) (q := (n, b)) (.inr ⟨rfl, h⟩)
  · refine List.Pairwise.imp (fun {a b} h => ?_) hn
    intro p hp q hq
    obtain ⟨L, _, rfl⟩ := List.mem_map.mp hp
    obtain ⟨K, _, rfl⟩ := List.mem_map.mp hq
    exact keyC_lt (p := (a, L)) (q := (b, K)) (.inl h)
/-! ### the texts cut -/
theorem not_in_jnC {c : Nat} (h1 : c < 97) (h2 : c ≠ 44) (L : List Nm) : c ∉ tl (jnC L) := by
  refine not_in_join (y := ("," : Str)) (fun h => ?_) _ fun p hp => ?_
  · have e : tl ("," : Str) = [44] := rfl
    rw [e, List.mem_singleton] at h
    exact h2 h
  · obtain ⟨n, _, rfl⟩ := List.mem_map.mp hp
    exact not_in_name h1 n
theorem split_key (p : Nm × List Nm) : Txt.split (keyC p) (" " : Str) = [p.1.1, jnC p.2] := by
  have e : keyC p = Txt.join (" " : Str) [p.1.1, jnC p.2] := by
    unfold keyC
    rw [TL.join_eq]
    rfl
  rw [e]
  refine TL.split_join (s := 32) (S := []) rfl (by decide +kernel) (by simp) fun q hq => ?_
  rcases List.mem_cons.mp hq with rfl | hq
  · exact not_in_name (by decide) p.1
  · rw [List.mem_singleton] at hq
    subst hq
    exact not_in_jnC (by decide) (by decide) p.2
theorem split_jnC {L : List Nm} (h : L ≠ []) : Txt.split (jnC L) ("," : Str) = L.map (·.1) := by
  refine TL.split_join (s := 44) (S := []) rfl (by decide +kernel) (by simpa using h) fun p hp => ?_
  obtain ⟨n, _, rfl⟩ := List.mem_map.mp hp
  exact not_in_name (by decide) n
theorem len_jnC (L : List Nm) : (jnC L).length ≤ 4 * L.length := by
  unfold jnC
  have h1 := len_join ("," : Str) (L.map (·.1))
  have h2 := sum_len L
  rw [List.map_map, List.length_map] at h1
  have h3 : ("," : Str).length = 1 := rfl
  rw [h3] at h1
  have h4 : (L.map ((fun x => x.length) ∘ fun (x : Nm) => x.1)).sum = (L.map fun x => x.1.length).sum := rfl
  omega
theorem len_keyC (p : Nm × List Nm) : (keyC p).length ≤ 4 + 4 * p.2.length := by
  unfold keyC
  rw [len_app, len_app]
  have h1 := (isName_len p.1.ok).1
  have h2 := len_jnC p.2
  have h3 : (" " : Str).length = 1 := rfl
  omega
end Mi

/-! Rn, part f: a list within a list, in the store. -/
namespace Mi
open PySem L2
open Enc (enc)
/-- at b a list of a list (at c) and a number -/
def dl (S : Store) (b c : Nat) (xs : List Int) (s : Int) : Store := (S.set b (.lst [.ref c, .int s])).set c (.lst (xs.map .int))
structure DlOk (S : Store) (b c : Nat) : Prop where
  hb : b < S.length
  hc : c < S.length
  ne : b ≠ c
  wf : Wf S
section
variable {S : Store} {b c : Nat} {xs : List Int} {s : Int}
theorem dl_len : (dl S b c xs s).length = S.length := by unfold dl; rw [List.length_set, List.length_set]
theorem dl_b (h : DlOk S b c) : (dl S b c xs s)[b]? = some (.lst [.ref c, .int s]) := by
  unfold dl
  rw [List.getElem?_set_ne h.ne.symm, List.getElem?_set_self h.hb]
theorem dl_c (h : DlOk S b c) : (dl S b c xs s)[c]? = some (.lst (xs.map .int)) := by
  unfold dl
  rw [List.getElem?_set_self (by rw [List.length_set]; exact h.hc)]
theorem dl_setc (ys : List Int) : (dl S b c xs s).set c (.lst (ys.map .int)) = dl S b c ys s := by
  unfold dl
  rw [List.set_set]
theorem dl_setb (h : DlOk S b c) (t : Int) : (dl S b c xs s).set b (.lst [.ref c, .int t]) = dl S b c xs t := by
  unfold dl
  rw [List.set_comm _ _ h.ne.symm, List.set_set]
theorem dl_app (h : DlOk S b c) (T : Store) : dl S b c xs s ++ T = dl (S ++ T) b c xs s := by
  unfold dl
  rw [List.set_append_left _ _ h.hb, List.set_append_left _ _ (by rw [List.length_set]; exact h.hc)]
theorem DlOk.push (h : DlOk S b c) {o : Ob} (ho : o.blw S.length = true) : DlOk (S ++ [o]) b c := ⟨by have := h.hb; simp; omega, by have := h.hc; simp; omega, h.ne, h.wf.push ho⟩
theorem dl_wf (h : DlOk S b c) : Wf (dl S b c xs s) := by
  have h1 : (Ob.lst [.ref c, .int s]).blw S.length = true := by simp [Ob.blw, Val.blwL, Val.blw, h.hc]
  have h2 : Wf (S.set b (.lst [.ref c, .int s])) := h.wf.set h1 b
  unfold dl
  refine h2.set ?_ c
  exact blwL_ints _ xs
theorem dl_get (h : DlOk S b c) {i : Nat} (hi : S.length ≤ i) (T : Store) : (dl (S ++ T) b c xs s)[i]? = T[i - S.length]? := by
  unfold dl
  rw [List.getElem?_set_ne (by have := h.hc; omega), List.getElem?_set_ne (by have := h.hb; omega), List.getElem?_append_right hi]
theorem dl_set (h : DlOk S b c) {i : Nat} (hi : S.length ≤ i) (T : Store) (o : Ob) : (dl (S ++ T) b c xs s).set i o = dl (S ++ T.set (i - S.length) o) b c xs s := by
  unfold dl
  rw [List.set_comm _ _ (by have := h.hc; omega : c ≠ i), List.set_comm _ _ (by have := h.hb; omega : b ≠ i), List.set_append_right _ _ hi]
theorem dl_take (h : DlOk S b c) (T : Store) : (dl (S ++ T) b c xs s).take S.length = dl S b c xs s := by
  unfold dl
  rw [List.take_set, List.take_set, List.take_left']
  rfl
theorem dl_allT (h : DlOk S b c) (T : Store) : ((dl (S ++ T) b c xs s).take S.length).all (Ob.blw S.length) = true := by
  rw [dl_take h]
  have := dl_wf (xs := xs) (s := s) h
  unfold Wf at this
  rwa [dl_len] at this
theorem dl_all (h : DlOk S b c) : ((dl S b c xs s).take S.length).all (Ob.blw S.length) = true := by
  have := dl_allT (xs := xs) (s := s) h []
  rwa [List.append_nil] at this
theorem idx_dl0 (h : DlOk S b c) : idxV (.ref b) (.int 0) (dl S b c xs s) = .ok (.ref c) (dl S b c xs s) := idx_ref (k := 0) (dl_b h) rfl
theorem idx_dl1 (h : DlOk S b c) : idxV (.ref b) (.int 1) (dl S b c xs s) = .ok (.int s) (dl S b c xs s) := idx_ref (k := 1) (dl_b h) rfl
theorem set_dl1 (h : DlOk S b c) (t : Int) : setIV (.ref b) (.int 1) (.int t) (dl S b c xs s) = .ok () (dl S b c xs t) := by
  rw [← dl_setb (s := s) h t]
  unfold setIV
  dsimp only
  rw [dl_b h]
  simp [ixN]
theorem popV_at {st : Store} {i : Nat} {ys : List Val} {y : Val} (h : st[i]? = some (.lst (ys ++ [y]))) : popV (.ref i) [] st = .ok y (st.set i (.lst ys)) := by
  unfold popV
  dsimp only
  rw [h]
  dsimp only
  rw [show (ys ++ [y])[(ys ++ [y]).length - 1]? = some y from by simp]
  dsimp only
  rw [List.dropLast_concat]
end
end Mi

/-! Rn, part g: who may leave, by rings. -/
namespace Mi
open PySem L2
open Enc (enc)
section
variable {R : List RuleD} {ns : List Nm}
theorem mem_hullC {x : Nm} (hM : Most R ns [] (mostL R ns [])) : x ∈ hullC R ns ↔ x ∈ mostL R ns [] := by
  unfold hullC
  rw [List.mem_filter, decide_eq_true_eq, mem_hullL]
  constructor
  · rintro ⟨h1, h2⟩
    exact Decidable.byContradiction fun h => h2 ⟨h1, h⟩
  · intro h
    exact ⟨hM.sub x h, fun h2 => h2.2 h⟩
theorem feas_hullC (hM : Most R ns [] (mostL R ns [])) {L : List Nm} (h : Feas R ns L) : ∀ x ∈ L, x ∈ hullC R ns := fun x hx => (mem_hullC hM).mpr (Feas.inMost hM h (fun y _ => by simp) x hx)
theorem may_rest {T : List (List Nm)} (hT : ∀ L, L ∈ T ↔ Feas R ns L) {K L : List Nm} {n : Nm} (hK : K ∈ leastW n T) (hn : n ∉ L) (h : ∀ x ∈ K, x ≠ n → x ∈ L) : n ∈ mayL R ns L := by
  obtain ⟨h1, h2, _⟩ := mem_leastW.mp hK
  have hf := (hT K).mp h1
  obtain ⟨r, hr, e, hg⟩ := hf.rule h2
  exact mem_mayL.mpr ⟨hf.sub n h2, hn, r, hr, e, fun y hy => h y (hg y hy).1 (hg y hy).2⟩
theorem may_rings {T : List (List Nm)} (hLO : LotsOf R ns T) (hns : IsLot ns) (hM : Most R ns [] (mostL R ns [])) {L : List Nm} (hL : Feas R ns L) {n : Nm} (hn : n ∈ hullC R ns) :
    n ∈ mayL R ns L ↔ n ∉ L ∧ ∀ r, (n, r) ∈ ringsL R ns → ∃ x ∈ r, x ∈ L := by
  have hT := hLO.mem
  constructor
  · intro h
    have hnL : n ∉ L := (mem_mayL.mp h).2.1
    refine ⟨hnL, fun r hr => ?_⟩
    have hF : Feas R ns (lotL (L ++ [n])) := .step hL h
    obtain ⟨K, hK, hs⟩ := reason_in hT hF (x := n) (mem_lotL.mpr (List.mem_append.mpr (.inr (List.mem_singleton.mpr rfl))))
    have h1 := (mem_ringsL.mp hr).2
    rw [hLO.eq] at h1
    obtain ⟨x, hx, hxK, hxn⟩ := (ring_meets h1).2 K (mem_reasL.mpr ⟨(mem_mayL.mp h).1, hK⟩)
    refine ⟨x, hx, ?_⟩
    rcases List.mem_append.mp (mem_lotL.mp (hs x hxK)) with h2 | h2
    · exact h2
    · exact absurd (List.mem_singleton.mp h2) hxn
  · rintro ⟨hnL, hr⟩
    refine Decidable.byContradiction fun hno => ?_
    have hC : (((hullC R ns).filter fun x => decide (x ≠ n)).filter fun x => decide (x ∉ L)).Sublist ((hullC R ns).filter fun x => decide (x ≠ n)) := List.filter_sublist
    have hmeet : meetsB (wantN (reasL T ns) n) (((hullC R ns).filter fun x => decide (x ≠ n)).filter fun x => decide (x ∉ L)) = true := by
      rw [meetsB_iff]
      intro w hw
      obtain ⟨K, hK, rfl⟩ := mem_wantN.mp hw
      have hK2 := (mem_reasL.mp hK).2
      refine Classical.byContradiction fun hne => hno (may_rest hT hK2 hnL fun x hx hxn => Decidable.byContradiction fun hxL => hne ⟨x, ?_, List.mem_filter.mpr ⟨hx, decide_eq_true hxn⟩⟩)
      have hf := (hT K).mp (mem_leastW.mp hK2).1
      exact List.mem_filter.mpr ⟨List.mem_filter.mpr ⟨feas_hullC hM hf x hx, decide_eq_true hxn⟩, decide_eq_true hxL⟩
    obtain ⟨r, h1, h2⟩ := (ringF_spec (wantN (reasL T ns) n) (partsL ((hullC R ns).filter fun x => decide (x ≠ n))) (partsL_asc _)).2.1 _ (mem_partsL.mpr hC) hmeet
    have hin : (n, r) ∈ ringsL R ns := mem_ringsL.mpr ⟨hn, by rw [hLO.eq]; exact mem_ringsN.mpr h1⟩
    obtain ⟨x, hx, hxL⟩ := hr r hin
    exact (of_decide_eq_true (List.mem_filter.mp (h2 x hx)).2) hxL
theorem ring_sub {n : Nm} {r : List Nm} (h : (n, r) ∈ ringsL R ns) : ∀ x ∈ r, x ∈ hullC R ns := fun x hx => by
  have h1 := (ring_meets (mem_ringsL.mp h).2).1
  exact (List.mem_filter.mp (h1.subset hx)).1
theorem hullC_sub {x : Nm} (h : x ∈ hullC R ns) : x ∈ ns := (List.mem_filter.mp h).1
theorem ring_reason {T : List (List Nm)} (hLO : LotsOf R ns T) {n : Nm} {r K : List Nm} (h : (n, r) ∈ ringsL R ns) (hK : (n, K) ∈ reasL T ns) : ∃ x ∈ r, x ∈ K := by
  have h1 := (mem_ringsL.mp h).2
  rw [hLO.eq] at h1
  obtain ⟨x, h2, h3, _⟩ := (ring_meets h1).2 K hK
  exact ⟨x, h2, h3⟩
theorem ring_less {T : List (List Nm)} (hLO : LotsOf R ns T) (hns : IsLot ns) {n one : Nm} {r M : List Nm} (h : (n, r) ∈ ringsL R ns) (ho : one ∈ r) (hM : Most R ns (r.filter fun x => decide (x ≠ one)) M) : n ∈ M := by
  have h1 := (mem_ringsL.mp h).2
  rw [hLO.eq] at h1
  refine Classical.byContradiction fun hn => ?_
  have hP : (hullC R ns).Nodup := (hns.filter _).nodup
  have hlt : (r.filter fun x => decide (x ≠ one)).length < r.length := by
    have : r.filter (fun x => decide (x ≠ one)) ≠ r := fun e => by
      have h2 : one ∈ r.filter (fun x => decide (x ≠ one)) := by rw [e]; exact ho
      simp at h2
    have hle := List.length_filter_le (fun x => decide (x ≠ one)) r
    rcases Nat.lt_or_eq_of_le hle with h3 | h3
    · exact h3
    · exact absurd (List.filter_sublist.eq_of_length h3) this
  refine ring_least hP h1 List.filter_sublist hlt fun K hK => Classical.byContradiction fun hne => hn ?_
  have hK2 := (mem_reasL.mp hK).2
  obtain ⟨g1, g2, _⟩ := mem_leastW.mp hK2
  exact Feas.inMost hM ((hLO.mem K).mp g1) (fun x hx hxp => hne ⟨x, hxp, hx⟩) n g2
end
end Mi

/-! Rn, part h: two rooms beside one another. -/
namespace Mi
open PySem L2
open Enc (enc)
section
variable {A B : List RuleD} {ns ms us : List Nm}
/-- rooms with unlike names; us all of them -/
structure Bes (A : List RuleD) (ns : List Nm) (B : List RuleD) (ms us : List Nm) : Prop where
  u : ∀ x, x ∈ us ↔ x ∈ ns ∨ x ∈ ms
  d : ∀ x ∈ ns, x ∉ ms
  a : ∀ r ∈ A, r.name ∈ ns ∧ ∀ y ∈ r.gone, y ∈ ns
  b : ∀ r ∈ B, r.name ∈ ms ∧ ∀ y ∈ r.gone, y ∈ ms
theorem Bes.left (h : Bes A ns B ms us) {K : List Nm} (hK : Feas A ns K) : Feas (A ++ B) us K := by
  induction hK with
  | nil => exact .nil
  | step h1 h2 ih =>
    obtain ⟨m1, m2, r, hr, e, g⟩ := mem_mayL.mp h2
    exact .step ih (mem_mayL.mpr ⟨(h.u _).mpr (.inl m1), m2, r, List.mem_append_left _ hr, e, g⟩)
theorem Bes.both (h : Bes A ns B ms us) {K L : List Nm} (hK : Feas A ns K) (hL : Feas B ms L) : Feas (A ++ B) us (lotL (K ++ L)) := by
  induction hL with
  | nil => rw [List.append_nil, lotL_self hK.lot]; exact h.left hK
  | @step L n h1 h2 ih =>
    obtain ⟨m1, m2, r, hr, e, g⟩ := mem_mayL.mp h2
    have e1 : lotL (K ++ lotL (L ++ [n])) = lotL (lotL (K ++ L) ++ [n]) := lotL_congr fun x => by
      simp only [List.mem_append, mem_lotL, or_assoc]
    rw [e1]
    refine .step ih (mem_mayL.mpr ⟨(h.u _).mpr (.inr m1), ?_, r, List.mem_append_right _ hr, e, fun y hy => ?_⟩)
    · rw [mem_lotL, List.mem_append]
      rintro (z | z)
      · exact h.d _ (hK.sub _ z) m1
      · exact m2 z
    · rw [mem_lotL, List.mem_append]
      exact .inr (g y hy)
theorem Bes.split (h : Bes A ns B ms us) {X : List Nm} (hX : Feas (A ++ B) us X) : Feas A ns (X.filter fun x => decide (x ∈ ns)) ∧ Feas B ms (X.filter fun x => decide (x ∈ ms)) := by
  induction hX with
  | nil => exact ⟨.nil, .nil⟩
  | @step L n h1 h2 ih =>
    obtain ⟨m1, m2, r, hr, e, g⟩ := mem_mayL.mp h2
    have key : ∀ (ps : List Nm), n ∈ ps → (lotL (L ++ [n])).filter (fun x => decide (x ∈ ps)) = lotL ((L.filter fun x => decide (x ∈ ps)) ++ [n]) := fun ps hp => by
      refine lot_ext ((isLot_lotL _).filter _) (isLot_lotL _) fun x => ?_
      simp only [List.mem_filter, mem_lotL, List.mem_append, List.mem_singleton, decide_eq_true_eq]
      constructor
      · rintro ⟨z | z, y⟩
        · exact .inl ⟨z, y⟩
        · exact .inr z
      · rintro (⟨z, y⟩ | z)
        · exact ⟨.inl z, y⟩
        · exact ⟨.inr z, by rw [z]; exact hp⟩
    have not : ∀ (ps : List Nm), n ∉ ps → (lotL (L ++ [n])).filter (fun x => decide (x ∈ ps)) = L.filter fun x => decide (x ∈ ps) := fun ps hp => by
      refine lot_ext ((isLot_lotL _).filter _) (h1.lot.filter _) fun x => ?_
      simp only [List.mem_filter, mem_lotL, List.mem_append, List.mem_singleton, decide_eq_true_eq]
      constructor
      · rintro ⟨z | z, y⟩
        · exact ⟨z, y⟩
        · rw [z] at y; exact absurd y hp
      · rintro ⟨z, y⟩
        exact ⟨.inl z, y⟩
    rcases List.mem_append.mp hr with hr | hr
    · have hn : n ∈ ns := e ▸ (h.a r hr).1
      rw [key ns hn, not ms (h.d n hn)]
      refine ⟨.step ih.1 (mem_mayL.mpr ⟨hn, fun z => m2 (List.mem_filter.mp z).1, r, hr, e, fun y hy => List.mem_filter.mpr ⟨g y hy, decide_eq_true ((h.a r hr).2 y hy)⟩⟩), ih.2⟩
    · have hn : n ∈ ms := e ▸ (h.b r hr).1
      rw [key ms hn, not ns fun z => h.d n z hn]
      refine ⟨ih.1, .step ih.2 (mem_mayL.mpr ⟨hn, fun z => m2 (List.mem_filter.mp z).1, r, hr, e, fun y hy => List.mem_filter.mpr ⟨g y hy, decide_eq_true ((h.b r hr).2 y hy)⟩⟩)⟩
/-- the lots of both -/
def pairL (F G : List (List Nm)) : List (List Nm) := F.flatMap fun K => G.map fun L => lotL (K ++ L)
theorem Bes.mem (h : Bes A ns B ms us) {F G : List (List Nm)} (hF : ∀ X, X ∈ F ↔ Feas A ns X) (hG : ∀ X, X ∈ G ↔ Feas B ms X) (X : List Nm) : X ∈ pairL F G ↔ Feas (A ++ B) us X := by
  unfold pairL
  rw [List.mem_flatMap]
  constructor
  · rintro ⟨K, hK, hX⟩
    obtain ⟨L, hL, rfl⟩ := List.mem_map.mp hX
    exact h.both ((hF K).mp hK) ((hG L).mp hL)
  · intro hX
    obtain ⟨h1, h2⟩ := h.split hX
    refine ⟨_, (hF _).mpr h1, List.mem_map.mpr ⟨_, (hG _).mpr h2, lotL_eq hX.lot fun x => ?_⟩⟩
    simp only [List.mem_append, List.mem_filter, decide_eq_true_eq]
    constructor
    · rintro (z | z)
      · exact z.1
      · exact z.1
    · intro z
      rcases (h.u x).mp (hX.sub x z) with y | y
      · exact .inl ⟨z, y⟩
      · exact .inr ⟨z, y⟩
theorem Bes.inj (h : Bes A ns B ms us) {K L K' L' : List Nm} (hK : Feas A ns K) (hL : Feas B ms L) (hK' : Feas A ns K') (hL' : Feas B ms L') (e : lotL (K ++ L) = lotL (K' ++ L')) : K = K' ∧ L = L' := by
  have m : ∀ x, (x ∈ K ∨ x ∈ L) ↔ (x ∈ K' ∨ x ∈ L') := fun x => by
    rw [← List.mem_append, ← mem_lotL, e, mem_lotL, List.mem_append]
  constructor
  · refine lot_ext hK.lot hK'.lot fun x => ⟨fun z => ?_, fun z => ?_⟩
    · rcases (m x).mp (.inl z) with y | y
      · exact y
      · exact absurd (hL'.sub x y) (h.d x (hK.sub x z))
    · rcases (m x).mpr (.inl z) with y | y
      · exact y
      · exact absurd (hL.sub x y) (h.d x (hK'.sub x z))
  · refine lot_ext hL.lot hL'.lot fun x => ⟨fun z => ?_, fun z => ?_⟩
    · rcases (m x).mp (.inr z) with y | y
      · exact absurd (hL.sub x z) (h.d x (hK'.sub x y))
      · exact y
    · rcases (m x).mpr (.inr z) with y | y
      · exact absurd (hL'.sub x z) (h.d x (hK.sub x y))
      · exact y
theorem pw_flat {α β : Type} {P : β → β → Prop} {f : α → List β} : ∀ {l : List α}, l.Pairwise (fun a b => ∀ x ∈ f a, ∀ y ∈ f b, P x y) → (∀ a ∈ l, (f a).Pairwise P) → (l.flatMap f).Pairwise P
  | [], _, _ => .nil
  | a :: l, h, g => by
    rw [List.flatMap_cons, List.pairwise_append]
    rw [List.pairwise_cons] at h
    refine ⟨g a List.mem_cons_self, pw_flat h.2 fun b hb => g b (List.mem_cons_of_mem _ hb), fun x hx y hy => ?_⟩
    obtain ⟨b, hb, hy⟩ := List.mem_flatMap.mp hy
    exact h.1 b hb x hx y hy
theorem Bes.nodup (h : Bes A ns B ms us) {F G : List (List Nm)} (hF : ∀ X ∈ F, Feas A ns X) (hG : ∀ X ∈ G, Feas B ms X) (dF : F.Nodup) (dG : G.Nodup) : (pairL F G).Nodup := by
  refine pw_flat ?_ fun K hK => ?_
  · refine List.Pairwise.imp_of_mem ?_ dF
    intro K K' hK hK' ne x hx y hy e
    obtain ⟨L, hL, rfl⟩ := List.mem_map.mp hx
    obtain ⟨L', hL', rfl⟩ := List.mem_map.mp hy
    exact ne (h.inj (hF K hK) (hG L hL) (hF K' hK') (hG L' hL') e).1
  · rw [List.pairwise_map]
    refine List.Pairwise.imp_of_mem ?_ dG
    intro L L' hL hL' ne e
    exact ne (h.inj (hF K hK) (hG L hL) (hF K hK) (hG L' hL') e).2
/-- as many lots as both times one another -/
theorem Bes.len (h : Bes A ns B ms us) {F G T : List (List Nm)} (hF : ∀ X, X ∈ F ↔ Feas A ns X) (hG : ∀ X, X ∈ G ↔ Feas B ms X) (dF : F.Nodup) (dG : G.Nodup) (hT : ∀ X, X ∈ T ↔ Feas (A ++ B) us X) (dT : T.Nodup) : T.length = (pairL F G).length := by
  refine List.Perm.length_eq ((List.perm_ext_iff_of_nodup dT (h.nodup (fun X hX => (hF X).mp hX) (fun X hX => (hG X).mp hX) dF dG)).mpr fun X => ?_)
  rw [hT, h.mem hF hG]
end
end Mi

/-! Rn, part i: runs that may let an error out. -/
namespace Mi
open PySem L2
open Enc (enc)
/-- where a ends well, b does the same -/
def Res.le {α : Type} (a b : Res α) : Prop := ∀ r st, a = .ok r st → b = .ok r st
theorem le_refl {α : Type} (a : Res α) : a.le a := fun _ _ h => h
theorem le_no {α : Type} (b : Res α) : (Res.no : Res α).le b := fun _ _ h => by cases h
theorem le_qX {α : Type} (a : Res α) : a.le (qX a) := fun r st h => by rw [h]; rfl
theorem le_bnd {α β : Type} {a a' : Res α} {f f' : α → Store → Res β} (h : a.le a') (g : ∀ x st, (f x st).le (f' x st)) : (a.bnd f).le (a'.bnd f') := by
  intro r st e
  cases q : a with
  | ok x st1 => rw [q] at e; rw [h x st1 q]; exact g x st1 r st e
  | exc => rw [q] at e; cases e
  | no => rw [q] at e; cases e
theorem le_ite {α : Type} {c : Bool} {a a' b b' : Res α} (h : a.le a') (g : b.le b') : (if c = true then a else b).le (if c = true then a' else b') := by
  cases c
  · rw [if_neg (by simp), if_neg (by simp)]; exact g
  · rw [if_pos rfl, if_pos rfl]; exact h
theorem le_seq {a a' b b' : Env → Store → Res (Fw × Env)} {σ : Env} {st : Store} (h : ∀ σ st, (a σ st).le (a' σ st)) (g : ∀ σ st, (b σ st).le (b' σ st)) : (seqF a b σ st).le (seqF a' b' σ st) := by
  unfold seqF
  refine le_bnd (h σ st) fun r st => ?_
  obtain ⟨fw, σ'⟩ := r
  cases fw with
  | nx => exact g _ _
  | _ => exact le_refl _
theorem le_for {gd : Gd} {tg : Tg} {b b' : Env → Store → Res (Fw × Env)} (h : ∀ σ st, (b σ st).le (b' σ st)) : ∀ (items : List Val) (σ : Env) (st : Store), (forL gd tg b items σ st).le (forL gd tg b' items σ st)
  | [], σ, st => le_refl _
  | x :: xs, σ, st => by
    unfold forL
    cases asg tg x σ st with
    | none => exact le_refl _
    | some σ' =>
      refine le_bnd (h σ' st) fun r st => ?_
      obtain ⟨fw, σ2⟩ := r
      cases fw with
      | nx => exact le_ite (le_for h xs σ2 st) (le_refl _)
      | ct => exact le_ite (le_for h xs σ2 st) (le_refl _)
      | brk => exact le_refl _
      | ret v => exact le_refl _
/-- a call that handed back None -/
theorem callV_non {np N : Nat} {rm : Bool} {body : Env → Store → Res (Fw × Env)} {ws : List Val} {st st2 : Store} (h : callV np rm N body ws st = .ok .non st2) (hz : Val.blwL 0 ws = false) : ws.length = np ∧ ∃ r st1, body (startE N ws) st = .ok r st1 ∧ retOf r.1 = some .non := by
  unfold callV at h
  split at h
  · rename_i hn
    refine ⟨hn, ?_⟩
    rw [if_neg (by rw [hz]; exact Bool.false_ne_true)] at h
    cases q : body (startE N ws) st with
    | ok r st1 =>
      rw [q] at h
      dsimp only at h
      cases q2 : retOf r.1 with
      | none => rw [q2] at h; cases h
      | some v =>
        rw [q2] at h
        dsimp only at h
        refine ⟨r, st1, rfl, ?_⟩
        unfold finN at h
        split at h
        · split at h
          · cases h; exact q2
          · rw [q2]
            cases v with
            | non => rfl
            | ref k =>
              exfalso
              dsimp only at h
              revert h
              (repeat' split) <;> simp
            | _ => dsimp only at h; cases h
        · cases h; exact q2
    | exc e st1 => rw [q] at h; cases h
    | no => rw [q] at h; cases h
  · cases h
theorem callX_le {np N : Nat} {rm : Bool} {body bodyX : Env → Store → Res (Fw × Env)} {ws : List Val} {st st2 : Store} (hle : ∀ σ st, (body σ st).le (bodyX σ st)) (h : callV np rm N body ws st = .ok .non st2) (hz : Val.blwL 0 ws = false) : ∃ st1, callX np N bodyX ws st = .ok .non st1 := by
  obtain ⟨hn, r, st1, e, e2⟩ := callV_non h hz
  unfold callX
  rw [if_pos hn, hle _ _ _ _ e]
  dsimp only
  rw [e2]
  exact ⟨_, rfl⟩
theorem forL_exc {g : Gd} {tg : Tg} {b : Env → Store → Res (Fw × Env)} {α : Type} {v : α → Val} {E : Option Val → Env} {st : Store} {p : α → Bool} {ex : α → Exc} (hg : g.ok st = true)
    (h : ∀ o x, ∃ σ', asg tg (v x) (E o) st = some σ' ∧ b σ' st = if p x = true then .exc (ex x) st else .ok (.nx, E (some (v x))) st) :
    ∀ {items : List α} {o : Option Val} {x : α}, items.find? p = some x → forL g tg b (items.map v) (E o) st = .exc (ex x) st
  | [], o, x, hf => by cases hf
  | y :: xs, o, x, hf => by
    obtain ⟨σ', e1, e2⟩ := h o y
    rw [List.map_cons, forL, e1]
    dsimp only
    rw [e2]
    rw [List.find?_cons] at hf
    by_cases hp : p y = true
    · rw [if_pos hp]
      rw [hp] at hf
      cases hf
      rfl
    · rw [if_neg hp]
      rw [Bool.not_eq_true] at hp
      rw [hp] at hf
      dsimp only [Res.bnd]
      rw [if_pos hg]
      exact forL_exc hg h hf
/-- the first one that raises, by what stands ahead of it -/
theorem forL_raise {g : Gd} {tg : Tg} {b : Env → Store → Res (Fw × Env)} {st : Store} {I : Env → Prop} {e : Exc} (hg : g.ok st = true) {x : Val} {post : List Val} :
    ∀ (pre : List Val) (σ : Env), I σ → (∀ y ∈ pre, ∀ σ, I σ → ∃ σ', asg tg y σ st = some σ' ∧ ∃ σ2, b σ' st = .ok (.nx, σ2) st ∧ I σ2) → (∀ σ, I σ → ∃ σ', asg tg x σ st = some σ' ∧ b σ' st = .exc e st) → forL g tg b (pre ++ x :: post) σ st = .exc e st
  | [], σ, hI, _, hx => by
    obtain ⟨σ', e1, e2⟩ := hx σ hI
    rw [List.nil_append, forL, e1]
    dsimp only
    rw [e2]
    rfl
  | y :: pre, σ, hI, hp, hx => by
    obtain ⟨σ', e1, σ2, e2, h2⟩ := hp y List.mem_cons_self σ hI
    rw [List.cons_append, forL, e1]
    dsimp only
    rw [e2]
    dsimp only [Res.bnd]
    rw [if_pos hg]
    exact forL_raise hg pre σ2 h2 (fun z hz => hp z (List.mem_cons_of_mem _ hz)) hx
end Mi

set_option maxHeartbeats 4000000
namespace K13
open PySem PySem.Spec PyProof.Rows L2 Mi
def top (i : Nat) : Stmt := PySem.Challenge.pw_leavelots_k13_who_has_to_stay.main.body.getD i (.Pass ⟨0, 0, 0, 0⟩)
abbrev s__law_box : Stmt := top 30
theorem sc__law_box : FnScope ["_law_script", "_law_k", "_law_own", "_law_cell", "_law_seed"] ["_law_script", "_law_k", "_law_own"] (defScope s__law_box) := ⟨rfl, rfl, rfl, by decide +kernel, rfl, by decide +kernel, by decide +kernel⟩
abbrev s_is_name : Stmt := top 13
theorem sc_is_name : FnScope ["value", "letter"] ["value"] (defScope s_is_name) := ⟨rfl, rfl, rfl, by decide +kernel, rfl, by decide +kernel, by decide +kernel⟩
abbrev s_need_names : Stmt := top 20
theorem sc_need_names : FnScope ["room", "names", "name"] ["room", "names"] (defScope s_need_names) := ⟨rfl, rfl, rfl, by decide +kernel, rfl, by decide +kernel, by decide +kernel⟩
abbrev s_rest_of : Stmt := top 19
theorem sc_rest_of : FnScope ["room", "gone", "name"] ["room", "gone"] (defScope s_rest_of) := ⟨rfl, rfl, rfl, by decide +kernel, rfl, by decide +kernel, by decide +kernel⟩
abbrev s_lot_of : Stmt := top 14
theorem sc_lot_of : FnScope ["names", "name"] ["names"] (defScope s_lot_of) := ⟨rfl, rfl, rfl, by decide +kernel, rfl, by decide +kernel, by decide +kernel⟩
abbrev s_is_fulfilled : Stmt := top 16
theorem sc_is_fulfilled : FnScope ["wants", "gone", "name"] ["wants", "gone"] (defScope s_is_fulfilled) := ⟨rfl, rfl, rfl, by decide +kernel, rfl, by decide +kernel, by decide +kernel⟩
abbrev s_Room_wants_of : Stmt := inClass (top 27) 2
theorem sc_Room_wants_of : FnScope ["self", "name", "rule"] ["self", "name"] (defScope s_Room_wants_of) := ⟨rfl, rfl, rfl, by decide +kernel, rfl, by decide +kernel, by decide +kernel⟩
abbrev s_may : Stmt := top 17
theorem sc_may : FnScope ["room", "gone", "found", "name", "wants"] ["room", "gone"] (defScope s_may) := ⟨rfl, rfl, rfl, by decide +kernel, rfl, by decide +kernel, by decide +kernel⟩
abbrev s_most_gone : Stmt := top 18
theorem sc_most_gone : FnScope ["room", "staying", "gone", "free", "name"] ["room", "staying"] (defScope s_most_gone) := ⟨rfl, rfl, rfl, by decide +kernel, rfl, by decide +kernel, by decide +kernel⟩
abbrev s_hull : Stmt := top 21
theorem sc_hull : FnScope ["room", "staying"] ["room", "staying"] (defScope s_hull) := ⟨rfl, rfl, rfl, by decide +kernel, rfl, by decide +kernel, by decide +kernel⟩
abbrev s__law_take : Stmt := top 31
theorem sc__law_take : FnScope ["_law_box_here", "_law_bound", "_law_digit", "_law_raw", "_law_wide"] ["_law_box_here", "_law_bound"] (defScope s__law_take) := ⟨rfl, rfl, rfl, by decide +kernel, rfl, by decide +kernel, by decide +kernel⟩
abbrev s__law_mixed : Stmt := top 33
theorem sc__law_mixed : FnScope ["_law_box_here", "_law_items", "_law_left", "_law_found", "_law_turn"] ["_law_box_here", "_law_items"] (defScope s__law_mixed) := ⟨rfl, rfl, rfl, by decide +kernel, rfl, by decide +kernel, by decide +kernel⟩
abbrev s__law_names : Stmt := top 34
theorem sc__law_names : FnScope ["_law_box_here", "_law_bound", "_law_some"] ["_law_box_here", "_law_bound"] (defScope s__law_names) := ⟨rfl, rfl, rfl, by decide +kernel, rfl, by decide +kernel, by decide +kernel⟩
abbrev s__law_rules : Stmt := top 35
theorem sc__law_rules : FnScope ["_law_box_here", "_law_most", "_law_names_here", "_law_found", "_law_is_calm", "_law_at", "_law_name", "_law_others", "_law_turn", "_law_wants", "_law_other"] ["_law_box_here", "_law_most"] (defScope s__law_rules) := ⟨rfl, rfl, rfl, by decide +kernel, rfl, by decide +kernel, by decide +kernel⟩
abbrev s_text_of_rules : Stmt := top 28
theorem sc_text_of_rules : FnScope ["rules", "found", "at", "rule"] ["rules"] (defScope s_text_of_rules) := ⟨rfl, rfl, rfl, by decide +kernel, rfl, by decide +kernel, by decide +kernel⟩
abbrev s_is_sequence : Stmt := top 12
theorem sc_is_sequence : FnScope ["value"] ["value"] (defScope s_is_sequence) := ⟨rfl, rfl, rfl, by decide +kernel, rfl, by decide +kernel, by decide +kernel⟩
abbrev s_RoomX_initX : Stmt := inClass (top 27) 0
theorem sc_RoomX_initX : FnScope ["self", "rules", "at", "rule", "name"] ["self", "rules"] (defScope s_RoomX_initX) := ⟨rfl, rfl, rfl, by decide +kernel, rfl, by decide +kernel, by decide +kernel⟩
abbrev s_text_of : Stmt := top 24
theorem sc_text_of : FnScope ["name", "gone"] ["name", "gone"] (defScope s_text_of) := ⟨rfl, rfl, rfl, by decide +kernel, rfl, by decide +kernel, by decide +kernel⟩
abbrev s_RuleX_initX : Stmt := inClass (top 23) 0
theorem sc_RuleX_initX : FnScope ["self", "name", "gone", "one"] ["self", "name", "gone"] (defScope s_RuleX_initX) := ⟨rfl, rfl, rfl, by decide +kernel, rfl, by decide +kernel, by decide +kernel⟩
abbrev s__law_made : Stmt := top 37
theorem sc__law_made : FnScope ["_law_rules_here", "_law_name", "_law_wants"] ["_law_rules_here"] (defScope s__law_made) := ⟨rfl, rfl, rfl, by decide +kernel, rfl, by decide +kernel, by decide +kernel⟩
abbrev s__law_lot : Stmt := top 36
theorem sc__law_lot : FnScope ["_law_some", "_law_found", "_law_name", "_law_one"] ["_law_some"] (defScope s__law_lot) := ⟨rfl, rfl, rfl, by decide +kernel, rfl, by decide +kernel, by decide +kernel⟩
abbrev s__law_may : Stmt := top 39
theorem sc__law_may : FnScope ["_law_rules_here", "_law_gone", "_law_found", "_law_name", "_law_wants", "_law_one"] ["_law_rules_here", "_law_gone"] (defScope s__law_may) := ⟨rfl, rfl, rfl, by decide +kernel, rfl, by decide +kernel, by decide +kernel⟩
abbrev s__law_lots : Stmt := top 40
theorem sc__law_lots : FnScope ["_law_rules_here", "_law_found", "_law_at", "_law_name", "_law_later"] ["_law_rules_here"] (defScope s__law_lots) := ⟨rfl, rfl, rfl, by decide +kernel, rfl, by decide +kernel, by decide +kernel⟩
abbrev s__law_people : Stmt := top 38
theorem sc__law_people : FnScope ["_law_rules_here", "_law_found", "_law_name", "_law_wants"] ["_law_rules_here"] (defScope s__law_people) := ⟨rfl, rfl, rfl, by decide +kernel, rfl, by decide +kernel, by decide +kernel⟩
abbrev s__law_pick : Stmt := top 32
theorem sc__law_pick : FnScope ["_law_box_here", "_law_items"] ["_law_box_here", "_law_items"] (defScope s__law_pick) := ⟨rfl, rfl, rfl, by decide +kernel, rfl, by decide +kernel, by decide +kernel⟩
abbrev s__law_heard : Stmt := top 41
theorem sc__law_heard : FnScope ["_law_made_here", "_law_staying", "_law_found", "e"] ["_law_made_here", "_law_staying"] (defScope s__law_heard) := ⟨rfl, rfl, rfl, by decide +kernel, rfl, by decide +kernel, by decide +kernel⟩
abbrev s_law : Stmt := top 42
theorem sc_law : FnScope ["_law_script", "_law_k", "_law_box_here", "_law_turn", "_law_rules_here", "_law_made_here", "_law_every", "_law_people_here", "_law_more", "_law_some", "_law_gone", "_law_lot_here", "_law_due", "_law_handed", "_law_odd", "_law_at", "_law_wrong", "_law_heard_here", "_law_name"] ["_law_script"] (defScope s_law) := ⟨rfl, rfl, rfl, by decide +kernel, rfl, by decide +kernel, by decide +kernel⟩
abbrev s_EInvalidName : Stmt := inClass (top 6) 0
theorem sc_EInvalidName : FnScope ["self", "name"] ["self", "name"] (defScope s_EInvalidName) := ⟨rfl, rfl, rfl, by decide +kernel, rfl, by decide +kernel, by decide +kernel⟩
def oc_t : Nat → Bool := fun c => decide (c < 2)
def okL : List (Nat × Str) := [(0, "name"), (0, "gone"), (0, "text"), (1, "rules"), (1, "names"), (1, "text")]
def okA (c : Nat) (f : Str) : Bool := okL.any fun p => p.1 == c && p.2 == f
def isi_str : Kd → Option Bool
  | .non => some false
  | .bl => some false
  | .int => some false
  | .str => some true
  | .lst => some false
  | .tup => some false
  | .dic => some false
  | .cls c => if c < 2 then some (false) else none
def isi_list_tuple : Kd → Option Bool
  | .non => some false
  | .bl => some false
  | .int => some false
  | .str => some false
  | .lst => some true
  | .tup => some true
  | .dic => some false
  | .cls c => if c < 2 then some (false) else none
def isi_Rule : Kd → Option Bool
  | .non => some false
  | .bl => some false
  | .int => some false
  | .str => some false
  | .lst => some false
  | .tup => some false
  | .dic => some false
  | .cls c => if c < 2 then some (c == 0) else none
def tyL : List String := ["list", "str", "tuple"]
theorem okL_oc : ∀ p ∈ okL, oc_t p.1 = true := by decide
theorem mem_okL {p : Nat × Str} (h : p ∈ okL) : p = ((0 : Nat), ("name" : Str)) ∨ p = ((0 : Nat), ("gone" : Str)) ∨ p = ((0 : Nat), ("text" : Str)) ∨ p = ((1 : Nat), ("rules" : Str)) ∨ p = ((1 : Nat), ("names" : Str)) ∨ p = ((1 : Nat), ("text" : Str)) := by simpa [okL] using h
theorem mem_tys {t : String} (h : t ∈ tyL) : t = "list" ∨ t = "str" ∨ t = "tuple" := by simpa [tyL] using h
structure Tb (G : Gm) (mg : Str → Option Value) (f : Nat → Addr) (fd : Nat → FuncData) (em : Nat → Addr) (pr : Addr) (mc : Value) (dT : Nat → Addr) : Prop where
  F__law_box : MFun G.K "_law_box" "_law_box" s__law_box .none (f 0) (fd 0)
  b__law_box : Binds G.K (fd 0) ["_law_script", "_law_k", "_law_own"] []
  g__law_box : mg "_law_box" = some (.ref (f 0))
  F_is_name : MFun G.K "is_name" "is_name" s_is_name .none (f 1) (fd 1)
  b_is_name : Binds G.K (fd 1) ["value"] []
  g_is_name : mg "is_name" = some (.ref (f 1))
  F_need_names : MFun G.K "need_names" "need_names" s_need_names .none (f 2) (fd 2)
  b_need_names : Binds G.K (fd 2) ["room", "names"] []
  g_need_names : mg "need_names" = some (.ref (f 2))
  F_rest_of : MFun G.K "rest_of" "rest_of" s_rest_of .none (f 3) (fd 3)
  b_rest_of : Binds G.K (fd 3) ["room", "gone"] []
  g_rest_of : mg "rest_of" = some (.ref (f 3))
  F_lot_of : MFun G.K "lot_of" "lot_of" s_lot_of .none (f 4) (fd 4)
  b_lot_of : Binds G.K (fd 4) ["names"] []
  g_lot_of : mg "lot_of" = some (.ref (f 4))
  F_is_fulfilled : MFun G.K "is_fulfilled" "is_fulfilled" s_is_fulfilled .none (f 5) (fd 5)
  b_is_fulfilled : Binds G.K (fd 5) ["wants", "gone"] []
  g_is_fulfilled : mg "is_fulfilled" = some (.ref (f 5))
  F_Room_wants_of : MFun G.K "wants_of" "Room.wants_of" s_Room_wants_of .none (f 6) (fd 6)
  b_Room_wants_of : Binds G.K (fd 6) ["self", "name"] []
  me_Room_wants_of : Meth G.K (G.cad 1) "wants_of" (f 6)
  F_may : MFun G.K "may" "may" s_may .none (f 7) (fd 7)
  b_may : Binds G.K (fd 7) ["room", "gone"] []
  g_may : mg "may" = some (.ref (f 7))
  F_most_gone : MFun G.K "most_gone" "most_gone" s_most_gone .none (f 8) (fd 8)
  b_most_gone : Binds G.K (fd 8) ["room", "staying"] []
  g_most_gone : mg "most_gone" = some (.ref (f 8))
  F_hull : MFun G.K "hull" "hull" s_hull .none (f 9) (fd 9)
  b_hull : Binds G.K (fd 9) ["room", "staying"] []
  g_hull : mg "hull" = some (.ref (f 9))
  F__law_take : MFun G.K "_law_take" "_law_take" s__law_take .none (f 10) (fd 10)
  b__law_take : Binds G.K (fd 10) ["_law_box_here", "_law_bound"] []
  g__law_take : mg "_law_take" = some (.ref (f 10))
  F__law_mixed : MFun G.K "_law_mixed" "_law_mixed" s__law_mixed .none (f 11) (fd 11)
  b__law_mixed : Binds G.K (fd 11) ["_law_box_here", "_law_items"] []
  g__law_mixed : mg "_law_mixed" = some (.ref (f 11))
  F__law_names : MFun G.K "_law_names" "_law_names" s__law_names .none (f 12) (fd 12)
  b__law_names : Binds G.K (fd 12) ["_law_box_here", "_law_bound"] []
  g__law_names : mg "_law_names" = some (.ref (f 12))
  F__law_rules : MFun G.K "_law_rules" "_law_rules" s__law_rules .none (f 13) (fd 13)
  b__law_rules : Binds G.K (fd 13) ["_law_box_here", "_law_most"] []
  g__law_rules : mg "_law_rules" = some (.ref (f 13))
  F_text_of_rules : MFun G.K "text_of_rules" "text_of_rules" s_text_of_rules .none (f 14) (fd 14)
  b_text_of_rules : Binds G.K (fd 14) ["rules"] []
  g_text_of_rules : mg "text_of_rules" = some (.ref (f 14))
  F_is_sequence : MFun G.K "is_sequence" "is_sequence" s_is_sequence .none (f 15) (fd 15)
  b_is_sequence : Binds G.K (fd 15) ["value"] []
  g_is_sequence : mg "is_sequence" = some (.ref (f 15))
  F_RoomX_initX : MFun G.K "__init__" "Room.__init__" s_RoomX_initX (.ref (dT 16)) (f 16) (fd 16)
  b_RoomX_initX : Binds G.K (fd 16) ["self", "rules"] []
  bd_RoomX_initX : Binds G.K (fd 16) ["self", "rules"] [.ref (em 16)]
  es_RoomX_initX : ∀ F : Hp, SqT G.K F (em 16) []
  mk_Room : Mk G.K (G.cad 1) (f 16)
  F_text_of : MFun G.K "text_of" "text_of" s_text_of .none (f 17) (fd 17)
  b_text_of : Binds G.K (fd 17) ["name", "gone"] []
  g_text_of : mg "text_of" = some (.ref (f 17))
  F_RuleX_initX : MFun G.K "__init__" "Rule.__init__" s_RuleX_initX (.ref (dT 18)) (f 18) (fd 18)
  b_RuleX_initX : Binds G.K (fd 18) ["self", "name", "gone"] []
  bd_RuleX_initX : Binds G.K (fd 18) ["self", "name", "gone"] [.ref (em 18)]
  es_RuleX_initX : ∀ F : Hp, SqT G.K F (em 18) []
  mk_Rule : Mk G.K (G.cad 0) (f 18)
  F__law_made : MFun G.K "_law_made" "_law_made" s__law_made .none (f 19) (fd 19)
  b__law_made : Binds G.K (fd 19) ["_law_rules_here"] []
  g__law_made : mg "_law_made" = some (.ref (f 19))
  F__law_lot : MFun G.K "_law_lot" "_law_lot" s__law_lot .none (f 20) (fd 20)
  b__law_lot : Binds G.K (fd 20) ["_law_some"] []
  g__law_lot : mg "_law_lot" = some (.ref (f 20))
  F__law_may : MFun G.K "_law_may" "_law_may" s__law_may .none (f 21) (fd 21)
  b__law_may : Binds G.K (fd 21) ["_law_rules_here", "_law_gone"] []
  g__law_may : mg "_law_may" = some (.ref (f 21))
  F__law_lots : MFun G.K "_law_lots" "_law_lots" s__law_lots .none (f 22) (fd 22)
  b__law_lots : Binds G.K (fd 22) ["_law_rules_here"] []
  g__law_lots : mg "_law_lots" = some (.ref (f 22))
  F__law_people : MFun G.K "_law_people" "_law_people" s__law_people .none (f 23) (fd 23)
  b__law_people : Binds G.K (fd 23) ["_law_rules_here"] []
  g__law_people : mg "_law_people" = some (.ref (f 23))
  F__law_pick : MFun G.K "_law_pick" "_law_pick" s__law_pick .none (f 24) (fd 24)
  b__law_pick : Binds G.K (fd 24) ["_law_box_here", "_law_items"] []
  g__law_pick : mg "_law_pick" = some (.ref (f 24))
  F__law_heard : MFun G.K "_law_heard" "_law_heard" s__law_heard .none (f 25) (fd 25)
  b__law_heard : Binds G.K (fd 25) ["_law_made_here", "_law_staying"] []
  g__law_heard : mg "_law_heard" = some (.ref (f 25))
  F_law : MFun G.K "law" "law" s_law .none (f 26) (fd 26)
  b_law : Binds G.K (fd 26) ["_law_script"] []
  g_law : mg "law" = some (.ref (f 26))
  gc_Rule : mg "Rule" = some (.ref (G.cad 0))
  gc_Room : mg "Room" = some (.ref (G.cad 1))
  ER_InvalidName : OexC G.K (G.cad 2)
  F_EInvalidName : MFun G.K "__init__" "InvalidName.__init__" s_EInvalidName .none (f 27) (fd 27)
  b_EInvalidName : Binds G.K (fd 27) ["self", "name"] []
  ei_InvalidName : PySem.W.findIn G.K (.ref (G.cad 2)) "__init__" = some (some (.ref (f 27)))
  et_InvalidName : PySem.W.typeIn G.K (.ref (f 27)) = some (.type "function")
  en_InvalidName : PySem.W.findIn G.K (.ref (G.cad 2)) "name" = some none
  xf_InvalidName : XfC G.K (G.cad 2)
  xc_InvalidName : L2.ExcC G.K (G.cad 2)
  ex_InvalidName : PySem.W.exmOne G.K (.ref (G.cad 2)) (.ref (G.cad 2)) = some true
  ek_InvalidName_LeaveError : PySem.W.kitOne G.K (.ref (G.cad 2)) (.ref (G.cad 3)) = some true
  ek_InvalidName_InvalidOrder : PySem.W.kitOne G.K (.ref (G.cad 2)) (.ref (G.cad 4)) = some false
  eg_InvalidName : mg "InvalidName" = some (.ref (G.cad 2))
  eg_LeaveError : mg "LeaveError" = some (.ref (G.cad 3))
  eg_InvalidOrder : mg "InvalidOrder" = some (.ref (G.cad 4))
  eb_r : ClX.CRead G.K (G.cad 3) (.type "type")
  eb_v : PySem.W.findCls G.K (.ref (G.cad 3)) (.type "type") "__init__" = some (.val (.builtin "ValueError.__init__"))
  kb : ∀ c, oc_t c = true → ∀ t ∈ tyL, PySem.W.kitOne G.K (.ref (G.cad c)) (.type t) = some false
  ci : ∀ c, oc_t c = true → CI G.K (G.cad c)
  na : ∀ p ∈ okL, NoAttr G.K (G.cad p.1) p.2
  z_abs : mg "abs" = none
  z_all : mg "all" = none
  z_any : mg "any" = none
  z_enumerate : mg "enumerate" = none
  z_int : mg "int" = none
  z_isinstance : mg "isinstance" = none
  z_len : mg "len" = none
  z_list : mg "list" = none
  z_max : mg "max" = none
  z_min : mg "min" = none
  z_range : mg "range" = none
  z_repr : mg "repr" = none
  z_sorted : mg "sorted" = none
  z_str : mg "str" = none
  z_tuple : mg "tuple" = none
  c_LETTERS : ∃ u, mg "LETTERS" = some u ∧ L2.RelV (.str "abcdefghijklmnopqrstuvwxyz") u
  c_MOST_LETTERS : ∃ u, mg "MOST_LETTERS" = some u ∧ L2.RelV (.int 3) u
  kt_Rule : ∀ kd r, isi_Rule kd = some r → PySem.W.kitOne G.K (kd.tv G) (.ref (G.cad 0)) = some r
section
variable {P : Program} {w : World} {base : Heap} {G : Gm} {mg : Str → Option Value} {f : Nat → Addr} {fd : Nat → FuncData} {em : Nat → Addr} {pr : Addr} {mc : Value} {dT : Nat → Addr}
theorem em_rep {e : Addr} (h : ∀ F : Hp, SqT G.K F e []) {F : Hp} {m : Nat → Addr} {n : Nat} : RepL G F m n [.wt []] [.ref e] := RepL.cons (by unfold Rep; exact ⟨e, [], rfl, h F, RepL.nil⟩) RepL.nil
theorem okA_ok (T : Tb G mg f fd em pr mc dT) {c : Nat} {fl : Str} (h : okA c fl = true) : Cls G.K (G.cad c) ∧ NoAttr G.K (G.cad c) fl := by
  unfold okA at h
  rw [List.any_eq_true] at h
  obtain ⟨p, hp, hq⟩ := h
  rw [Bool.and_eq_true] at hq
  have e1 : p.1 = c := eq_of_beq hq.1
  have e2 : p.2 = fl := eq_of_beq hq.2
  subst e1 e2
  exact ⟨(T.ci p.1 (okL_oc p hp)).cl, T.na p hp⟩
theorem isi_str_ok (T : Tb G mg f fd em pr mc dT) (kd : Kd) (r : Bool) (h : isi_str kd = some r) : PySem.W.kitOne G.K (kd.tv G) (.type "str") = some r := by
  cases kd with
  | cls c =>
    simp only [isi_str] at h
    split at h
    · rename_i hc; cases h; exact T.kb c (decide_eq_true hc) _ (by decide)
    · cases h
  | _ => cases h; exact kit_ty (by decide +kernel)
theorem isi_list_tuple_ok (T : Tb G mg f fd em pr mc dT) (kd : Kd) (r : Bool) (h : isi_list_tuple kd = some r) : PySem.W.kitAny G.K (kd.tv G) [.type "list", .type "tuple"] = some r := by
  cases kd with
  | cls c =>
    simp only [isi_list_tuple] at h
    split at h
    · rename_i hc; cases h; exact kitAny_cons (b := false) (T.kb c (decide_eq_true hc) _ (by decide)) (fun _ => kitAny_cons (b := false) (T.kb c (decide_eq_true hc) _ (by decide)) (fun _ => kitAny_nil) (fun e => nomatch e)) (fun e => nomatch e)
    · cases h
  | _ => cases h; first | exact kitAny_cons (b := true) (kit_ty (by decide +kernel)) (fun e => nomatch e) (fun _ => rfl) | exact kitAny_cons (b := false) (kit_ty (by decide +kernel)) (fun _ => kitAny_cons (b := true) (kit_ty (by decide +kernel)) (fun e => nomatch e) (fun _ => rfl)) (fun e => nomatch e) | exact kitAny_cons (b := false) (kit_ty (by decide +kernel)) (fun _ => kitAny_cons (b := false) (kit_ty (by decide +kernel)) (fun _ => kitAny_nil) (fun e => nomatch e)) (fun e => nomatch e)
theorem isi_Rule_ok (T : Tb G mg f fd em pr mc dT) (kd : Kd) (r : Bool) (h : isi_Rule kd = some r) : PySem.W.kitOne G.K (kd.tv G) (.ref (G.cad 0)) = some r := T.kt_Rule kd r h
theorem okE_InvalidName (T : Tb G mg f fd em pr mc dT) : FnOk P w G.K mg base CX0 1 (f 27) (fd 27) ["self", "name"] (spIni (G.cad 2) "name") := by
  refine T.F_EInvalidName.ok sc_EInvalidName (fun vs H Q E h => by obtain ⟨a, v, rfl, _⟩ := h; rfl) (fun cdv A outer s H vs Q E hr h => ⟨_, pss_cons (ps_expr (pe_baseinit (B := G.cad 3) (by rfl) T.eg_LeaveError T.eb_r T.eb_v (pa_cons (pe_var (i := 0) rfl (.inl rfl)) (pa_cons pe_str pa_nil)))) (pss_one (ps_ost (pe_var (i := 0) rfl (.inl rfl)) (pe_var (i := 1) rfl (.inl rfl)))), ?_⟩)
  obtain ⟨a, v, rfl, h1, h2⟩ := h
  refine ⟨.ref a, rfl, a, G.cad 2, _, rfl, by decide, T.ER_InvalidName, h1, ?_⟩
  exact ⟨v, rfl, .ref a, rfl, a, G.cad 2, rfl, T.ER_InvalidName, T.en_InvalidName, .inl ⟨h1, fun dx h3 h4 => h2 dx h3 h4⟩⟩
theorem err_InvalidName (T : Tb G mg f fd em pr mc dT) : Err G.K mg P w base (G.cad 2) "InvalidName" "name" 1 := ⟨T.ER_InvalidName, T.eg_InvalidName, _, _, _, T.ei_InvalidName, T.et_InvalidName, okE_InvalidName T, T.b_EInvalidName⟩
def bod__law_box : { b : Mi.Env → Store → Res (Fw × Mi.Env) // ∀ {P : Program} {w : World} {base : Heap} {G : Gm} {mg : Str → Option Value} {f : Nat → Addr} {fd : Nat → FuncData} {em : Nat → Addr} {pr : Addr} {mc : Value} {dT : Nat → Addr}, Tb G mg f fd em pr mc dT → ∀ (cdv : Value) (A : Around) (outer : List PySem.Env) (s : Shared) (H : Hp) (E : XK), Room 0 (A.deeper (envOfC "_law_box" (defScope s__law_box) s.heap.objs.size (f 0) cdv)) →
    PSs (cxOf CX0 P w G.K mg base ["_law_script", "_law_k", "_law_own", "_law_cell", "_law_seed"] "_law_box" (defScope s__law_box) (f 0) cdv A outer s H E).nox (defBody s__law_box) (tS G E0 b) } :=
  ⟨_, fun {P} {w} {base} {G} {mg} {f} {fd} {em} {pr} {mc} {dT} T cdv A outer s H E hr => by
    have cx : CxR (cxOf CX0 P w G.K mg base ["_law_script", "_law_k", "_law_own", "_law_cell", "_law_seed"] "_law_box" (defScope s__law_box) (f 0) cdv A outer s H E).nox G 0 := ⟨rfl, hr, rfl⟩
    exact (ss_cons (s_set (i := 3) sc__law_box.nd rfl (by first | exact .inl rfl | exact .inr rfl) (by first | exact .inr rfl | exact .inl rfl) (pe_bin (op_bin (mt := false) cx) (pe_bin (op_bin (mt := false) cx) (pe_bin (op_bin (mt := false) cx) g_int (gv 1)) (pe_bin (op_bin (mt := false) cx) g_int (gv 2))) g_int) (by rfl))
      (ss_cons (s_if (st_cmp cx (gv 1) (se_callB (len_ok cx) (by rfl) T.z_len (by decide +kernel) (sa_cons (by rfl) (gv 0) sa_nil) (by decide) (by decide) (by rfl) (by rfl)) (by first | exact nomark _ | rfl)) (ss_cons (s_set (i := 3) sc__law_box.nd rfl (by first | exact .inl rfl | exact .inr rfl) (by first | exact .inr rfl | exact .inl rfl) (se_callB abs_ok (by rfl) T.z_abs (by decide +kernel) (sa_cons (by rfl) (se_idx cx (gv 0) (gv 1) (by rfl)) sa_nil) (by decide) (by decide) (by rfl) (by rfl)) (by rfl))
      ss_nil) (ss_cons (s_if (st_cmp cx (se_callB (len_ok cx) (by rfl) T.z_len (by decide +kernel) (sa_cons (by rfl) (gv 0) sa_nil) (by decide) (by decide) (by rfl) (by rfl)) g_int (by first | exact nomark _ | rfl)) (ss_cons (s_set (i := 3) sc__law_box.nd rfl (by first | exact .inl rfl | exact .inr rfl) (by first | exact .inr rfl | exact .inl rfl) (pe_bin (op_bin (mt := false) cx) (gv 3) (pe_bin (op_bin (mt := false) cx) (pe_bin (op_bin (mt := false) cx) (se_callTy int_ok (by rfl) T.z_int (by decide +kernel) (sa_cons (by rfl) (se_callB abs_ok (by rfl) T.z_abs (by decide +kernel) (sa_cons (by rfl) (se_idx cx (gv 0) (pe_bin (op_bin (mt := false) cx) (se_callTy int_ok (by rfl) T.z_int (by decide +kernel) (sa_cons (by rfl) (gv 1) sa_nil) (by decide) (by decide) (by rfl) (by rfl)) (se_callB (len_ok cx) (by rfl) T.z_len (by decide +kernel) (sa_cons (by rfl) (gv 0) sa_nil) (by decide) (by decide) (by rfl) (by rfl))) (by rfl)) sa_nil) (by decide) (by decide) (by rfl) (by rfl)) sa_nil) (by decide) (by decide) (by rfl) (by rfl)) g_int) g_int)) (by rfl))
      ss_nil) ss_nil)
      ss_nil))
      (ss_cons (s_set (i := 4) sc__law_box.nd rfl (by first | exact .inl rfl | exact .inr rfl) (by first | exact .inr rfl | exact .inl rfl) (pe_bin (op_bin (mt := false) cx) (pe_bin (op_bin (mt := false) cx) (se_callTy int_ok (by rfl) T.z_int (by decide +kernel) (sa_cons (by rfl) (pe_bin (op_bin (mt := false) cx) (pe_bin (op_bin (mt := false) cx) (pe_bin (op_bin (mt := false) cx) (se_callTy int_ok (by rfl) T.z_int (by decide +kernel) (sa_cons (by rfl) (gv 3) sa_nil) (by decide) (by decide) (by rfl) (by rfl)) g_int) g_int) (pe_bin (op_bin (mt := false) cx) g_int (pe_bin (op_bin (mt := false) cx) (gv 1) (pe_bin (op_bin (mt := false) cx) g_int (gv 2))))) sa_nil) (by decide) (by decide) (by rfl) (by rfl)) g_int) g_int) (by rfl))
      (ss_cons (s_ret (se_lst (mt := true) (sa_cons (by rfl) (se_idx cx (se_lst (mt := false) (sa_cons (by rfl) g_int (sa_cons (by rfl) (gv 3) sa_nil))) (se_callTy int_ok (by rfl) T.z_int (by decide +kernel) (sa_cons (by rfl) (se_cmp (op_cmp cx) (gv 3) (pe_bin (op_bin (mt := false) cx) g_int g_int) (by first | exact nomark _ | rfl)) sa_nil) (by decide) (by decide) (by rfl) (by rfl)) (by rfl)) (sa_cons (by rfl) (gv 4) (sa_cons (by rfl) g_int sa_nil)))))
      ss_nil))))⟩
def r__law_box : List Val → Store → Res Val := callV 3 true 5 bod__law_box.1
theorem ok__law_box (T : Tb G mg f fd em pr mc dT) : FnOk P w G.K mg base CX0 1 (f 0) (fd 0) ["_law_script", "_law_k", "_law_own"] (spF G r__law_box) :=
  fn_ok (rm := true) T.F__law_box sc__law_box fun cdv A outer s H E hr => bod__law_box.2 T cdv A outer s H E hr
def bod_is_name : { b : Mi.Env → Store → Res (Fw × Mi.Env) // ∀ {P : Program} {w : World} {base : Heap} {G : Gm} {mg : Str → Option Value} {f : Nat → Addr} {fd : Nat → FuncData} {em : Nat → Addr} {pr : Addr} {mc : Value} {dT : Nat → Addr}, Tb G mg f fd em pr mc dT → ∀ (cdv : Value) (A : Around) (outer : List PySem.Env) (s : Shared) (H : Hp) (E : XK), Room 0 (A.deeper (envOfC "is_name" (defScope s_is_name) s.heap.objs.size (f 1) cdv)) →
    PSs (cxOf CX0 P w G.K mg base ["value", "letter"] "is_name" (defScope s_is_name) (f 1) cdv A outer s H E).nox (defBody s_is_name) (tS G E0 b) } :=
  ⟨_, fun {P} {w} {base} {G} {mg} {f} {fd} {em} {pr} {mc} {dT} T cdv A outer s H E hr => by
    have cx : CxR (cxOf CX0 P w G.K mg base ["value", "letter"] "is_name" (defScope s_is_name) (f 1) cdv A outer s H E).nox G 0 := ⟨rfl, hr, rfl⟩
    exact (ss_cons (s_if (PW.pt (sw_or (st_not (st_val cx (se_isi (oc := oc_t) (tb := isi_str) cx T.ci (by rfl) T.z_isinstance (gv 0) (pe_bltn (v := .ty "str") (by rfl) T.z_str (by decide +kernel) rfl (by decide) (by decide)) (.ty "str") (isi_str_ok T) (by rfl) (by rfl)) (fun _ => rfl))) (sw_or (st_not (st_chain cx g_int (se_callB (len_ok cx) (by rfl) T.z_len (by decide +kernel) (sa_cons (by rfl) (gv 0) sa_nil) (by decide) (by decide) (by rfl) (by rfl)) (se_gcI (by rfl) T.c_MOST_LETTERS (by decide)) (by rfl))) (sw_one (st_cmp cx (gv 0) g_str (by first | exact nomark _ | rfl)))))) (ss_cons (s_ret g_bl)
      ss_nil) ss_nil)
      (ss_cons (s_ret (se_callB (all_ok cx) (by rfl) T.z_all (by decide +kernel) (sa_cons (by rfl) (se_lc (mt := false) (own := [("letter", 1)]) cx.calm sc_is_name.nd (si_val cx (gv 0)) (blkOk_by (by rfl)) (by decide) (fun _ _ _ _ _ => (sg_name (i := 1) sc_is_name.nd rfl (by first | exact .inl rfl | exact .inr rfl) (by first | exact .inr rfl | exact .inl rfl))) (fun _ _ _ _ _ => sts_nil) (fun _ _ _ _ _ => (se_cmp (op_cmp cx.blk) (gv 1) (se_gcS (by rfl) T.c_LETTERS (by decide)) (by first | exact nomark _ | rfl))) (fun _ => rfl)) sa_nil) (by decide) (by decide) (by rfl) (by rfl)))
      ss_nil))⟩
def r_is_name : List Val → Store → Res Val := callV 1 false 2 bod_is_name.1
theorem ok_is_name (T : Tb G mg f fd em pr mc dT) : FnOk P w G.K mg base CX0 1 (f 1) (fd 1) ["value"] (spF G r_is_name) :=
  fn_ok (rm := false) T.F_is_name sc_is_name fun cdv A outer s H E hr => bod_is_name.2 T cdv A outer s H E hr
def bod_need_names : { b : Mi.Env → Store → Res (Fw × Mi.Env) // ∀ {P : Program} {w : World} {base : Heap} {G : Gm} {mg : Str → Option Value} {f : Nat → Addr} {fd : Nat → FuncData} {em : Nat → Addr} {pr : Addr} {mc : Value} {dT : Nat → Addr}, Tb G mg f fd em pr mc dT → ∀ (cdv : Value) (A : Around) (outer : List PySem.Env) (s : Shared) (H : Hp) (E : XK), Room 1 (A.deeper (envOfC "need_names" (defScope s_need_names) s.heap.objs.size (f 2) cdv)) →
    PSs (cxOf CX0 P w G.K mg base ["room", "names", "name"] "need_names" (defScope s_need_names) (f 2) cdv A outer s H E).nox (defBody s_need_names) (tS G E0 b) } :=
  ⟨_, fun {P} {w} {base} {G} {mg} {f} {fd} {em} {pr} {mc} {dT} T cdv A outer s H E hr => by
    have cx : CxR (cxOf CX0 P w G.K mg base ["room", "names", "name"] "need_names" (defScope s_need_names) (f 2) cdv A outer s H E).nox G 1 := ⟨rfl, hr, rfl⟩
    exact (ss_cons (s_for PassesOwn.never cx.calm (si_val cx (gv 1)) (sg_name (i := 2) sc_need_names.nd rfl (by first | exact .inl rfl | exact .inr rfl) (by first | exact .inr rfl | exact .inl rfl)) (ss_cons (s_if (PW.pt (sw_or (st_not (st_val cx (se_call (ok_is_name T) (cx.room.mono (by decide)) (by rfl) T.g_is_name T.F_is_name.kp T.b_is_name .nil (fun _ _ _ => RepL.nil) (sa_cons (by rfl) (gv 2) sa_nil) (by rfl) (by rfl) (by decide)) (fun _ => rfl))) (sw_one (st_cmp cx (gv 2) (se_attr (ok := okA) (fun c h => okA_ok T h) (gv 0) (by rfl)) (by first | exact nomark _ | rfl))))) (ss_cons s_never
      ss_nil) ss_nil)
      ss_nil) (fun _ => rfl))
      ss_nil)⟩
def r_need_names : List Val → Store → Res Val := callV 2 false 3 bod_need_names.1
theorem ok_need_names (T : Tb G mg f fd em pr mc dT) : FnOk P w G.K mg base CX0 2 (f 2) (fd 2) ["room", "names"] (spF G r_need_names) :=
  fn_ok (rm := false) T.F_need_names sc_need_names fun cdv A outer s H E hr => bod_need_names.2 T cdv A outer s H E hr
def bodX_need_names : { b : Mi.Env → Store → Res (Fw × Mi.Env) // ∀ {P : Program} {w : World} {base : Heap} {G : Gm} {mg : Str → Option Value} {f : Nat → Addr} {fd : Nat → FuncData} {em : Nat → Addr} {pr : Addr} {mc : Value} {dT : Nat → Addr}, Tb G mg f fd em pr mc dT → ∀ (cdv : Value) (A : Around) (outer : List PySem.Env) (s : Shared) (H : Hp) (E : XK), Room 2 (A.deeper (envOfC "need_names" (defScope s_need_names) s.heap.objs.size (f 2) cdv)) →
    PSs (cxOf (L2.CX P w) P w G.K mg base ["room", "names", "name"] "need_names" (defScope s_need_names) (f 2) cdv A outer s H E) (defBody s_need_names) (tS G E b) } :=
  ⟨_, fun {P} {w} {base} {G} {mg} {f} {fd} {em} {pr} {mc} {dT} T cdv A outer s H E hr => by
    have cx : CxR (cxOf (L2.CX P w) P w G.K mg base ["room", "names", "name"] "need_names" (defScope s_need_names) (f 2) cdv A outer s H E) G 2 := ⟨rfl, hr, rfl⟩
    have cx0 : CxR (cxOf (L2.CX P w) P w G.K mg base ["room", "names", "name"] "need_names" (defScope s_need_names) (f 2) cdv A outer s H E).nox G 2 := ⟨rfl, hr, rfl⟩
    exact (ss_cons (s_for (passes_of rfl) cx.calm (si_val cx (PE.lift (gv 1))) (sg_name (i := 2) sc_need_names.nd rfl (by first | exact .inl rfl | exact .inr rfl) (by first | exact .inr rfl | exact .inl rfl)) (ss_cons (s_if (PT.lift (PW.pt (sw_or (st_not (st_val cx0 (se_call (ok_is_name T) (cx.room.mono (by decide)) (by rfl) T.g_is_name T.F_is_name.kp T.b_is_name .nil (fun _ _ _ => RepL.nil) (sa_cons (by rfl) (gv 2) sa_nil) (by rfl) (by rfl) (by decide)) (fun _ => rfl))) (sw_one (st_cmp cx0 (gv 2) (se_attr (ok := okA) (fun c h => okA_ok T h) (gv 0) (by rfl)) (by first | exact nomark _ | rfl)))))) (ss_cons (s_raise (c := 2) (k := 1) cx.calm (takes_of rfl rfl rfl rfl) (err_InvalidName T) (cx.room.mono (by decide)) (by rfl) (PE.lift (gv 2)) (by rfl) (by decide))
      ss_nil) ss_nil)
      ss_nil) (fun _ => rfl))
      ss_nil)⟩
def rX_need_names : List Val → Store → Res Val := callX 2 3 bodX_need_names.1
theorem okX_need_names (T : Tb G mg f fd em pr mc dT) : FnOk P w G.K mg base (L2.CX P w) 3 (f 2) (fd 2) ["room", "names"] (spF G rX_need_names) :=
  fn_okX T.F_need_names sc_need_names fun cdv A outer s H E hr => bodX_need_names.2 T cdv A outer s H E hr
def bod_rest_of : { b : Mi.Env → Store → Res (Fw × Mi.Env) // ∀ {P : Program} {w : World} {base : Heap} {G : Gm} {mg : Str → Option Value} {f : Nat → Addr} {fd : Nat → FuncData} {em : Nat → Addr} {pr : Addr} {mc : Value} {dT : Nat → Addr}, Tb G mg f fd em pr mc dT → ∀ (cdv : Value) (A : Around) (outer : List PySem.Env) (s : Shared) (H : Hp) (E : XK), Room 0 (A.deeper (envOfC "rest_of" (defScope s_rest_of) s.heap.objs.size (f 3) cdv)) →
    PSs (cxOf CX0 P w G.K mg base ["room", "gone", "name"] "rest_of" (defScope s_rest_of) (f 3) cdv A outer s H E).nox (defBody s_rest_of) (tS G E0 b) } :=
  ⟨_, fun {P} {w} {base} {G} {mg} {f} {fd} {em} {pr} {mc} {dT} T cdv A outer s H E hr => by
    have cx : CxR (cxOf CX0 P w G.K mg base ["room", "gone", "name"] "rest_of" (defScope s_rest_of) (f 3) cdv A outer s H E).nox G 0 := ⟨rfl, hr, rfl⟩
    exact (ss_cons (s_ret (se_callTy (tuple_ok cx) (by rfl) T.z_tuple (by decide +kernel) (sa_cons (by rfl) (se_lc (mt := false) (own := [("name", 2)]) cx.calm sc_rest_of.nd (si_val cx (se_attr (ok := okA) (fun c h => okA_ok T h) (gv 0) (by rfl))) (blkOk_by (by rfl)) (by decide) (fun _ _ _ _ _ => (sg_name (i := 2) sc_rest_of.nd rfl (by first | exact .inl rfl | exact .inr rfl) (by first | exact .inr rfl | exact .inl rfl))) (fun _ _ _ _ _ => (sts_one (st_cmp cx.blk (gv 2) (gv 1) (by first | exact nomark _ | rfl)))) (fun _ _ _ _ _ => (gv 2)) (fun _ => rfl)) sa_nil) (by decide) (by decide) (by rfl) (by rfl)))
      ss_nil)⟩
def r_rest_of : List Val → Store → Res Val := callV 2 false 3 bod_rest_of.1
theorem ok_rest_of (T : Tb G mg f fd em pr mc dT) : FnOk P w G.K mg base CX0 1 (f 3) (fd 3) ["room", "gone"] (spF G r_rest_of) :=
  fn_ok (rm := false) T.F_rest_of sc_rest_of fun cdv A outer s H E hr => bod_rest_of.2 T cdv A outer s H E hr
def bod_lot_of : { b : Mi.Env → Store → Res (Fw × Mi.Env) // ∀ {P : Program} {w : World} {base : Heap} {G : Gm} {mg : Str → Option Value} {f : Nat → Addr} {fd : Nat → FuncData} {em : Nat → Addr} {pr : Addr} {mc : Value} {dT : Nat → Addr}, Tb G mg f fd em pr mc dT → ∀ (cdv : Value) (A : Around) (outer : List PySem.Env) (s : Shared) (H : Hp) (E : XK), Room 0 (A.deeper (envOfC "lot_of" (defScope s_lot_of) s.heap.objs.size (f 4) cdv)) →
    PSs (cxOf CX0 P w G.K mg base ["names", "name"] "lot_of" (defScope s_lot_of) (f 4) cdv A outer s H E).nox (defBody s_lot_of) (tS G E0 b) } :=
  ⟨_, fun {P} {w} {base} {G} {mg} {f} {fd} {em} {pr} {mc} {dT} T cdv A outer s H E hr => by
    have cx : CxR (cxOf CX0 P w G.K mg base ["names", "name"] "lot_of" (defScope s_lot_of) (f 4) cdv A outer s H E).nox G 0 := ⟨rfl, hr, rfl⟩
    exact (ss_cons (s_ret (se_callTy (tuple_ok cx) (by rfl) T.z_tuple (by decide +kernel) (sa_cons (by rfl) (se_callB (sortA_ok (mt := false) cx) (by rfl) T.z_sorted (by decide +kernel) (sa_cons (by rfl) (se_lc (mt := false) (own := [("name", 1)]) cx.calm sc_lot_of.nd (si_val cx (se_dc (own := [("name", 1)]) cx sc_lot_of.nd (si_val cx (gv 0)) (blkOk_by (by rfl)) (by decide) (fun _ _ _ _ _ => (sg_name (i := 1) sc_lot_of.nd rfl (by first | exact .inl rfl | exact .inr rfl) (by first | exact .inr rfl | exact .inl rfl))) (fun _ _ _ _ _ => (gv 1)) (fun _ _ _ _ _ => g_bl) (fun _ => rfl))) (blkOk_by (by rfl)) (by decide) (fun _ _ _ _ _ => (sg_name (i := 1) sc_lot_of.nd rfl (by first | exact .inl rfl | exact .inr rfl) (by first | exact .inr rfl | exact .inl rfl))) (fun _ _ _ _ _ => sts_nil) (fun _ _ _ _ _ => (se_callTy str_ok (by rfl) T.z_str (by decide +kernel) (sa_cons (by rfl) (gv 1) sa_nil) (by decide) (by decide) (by rfl) (by rfl))) (fun _ => rfl)) sa_nil) (by decide) (by decide) (by rfl) (by rfl)) sa_nil) (by decide) (by decide) (by rfl) (by rfl)))
      ss_nil)⟩
def r_lot_of : List Val → Store → Res Val := callV 1 false 2 bod_lot_of.1
theorem ok_lot_of (T : Tb G mg f fd em pr mc dT) : FnOk P w G.K mg base CX0 1 (f 4) (fd 4) ["names"] (spF G r_lot_of) :=
  fn_ok (rm := false) T.F_lot_of sc_lot_of fun cdv A outer s H E hr => bod_lot_of.2 T cdv A outer s H E hr
def bod_is_fulfilled : { b : Mi.Env → Store → Res (Fw × Mi.Env) // ∀ {P : Program} {w : World} {base : Heap} {G : Gm} {mg : Str → Option Value} {f : Nat → Addr} {fd : Nat → FuncData} {em : Nat → Addr} {pr : Addr} {mc : Value} {dT : Nat → Addr}, Tb G mg f fd em pr mc dT → ∀ (cdv : Value) (A : Around) (outer : List PySem.Env) (s : Shared) (H : Hp) (E : XK), Room 0 (A.deeper (envOfC "is_fulfilled" (defScope s_is_fulfilled) s.heap.objs.size (f 5) cdv)) →
    PSs (cxOf CX0 P w G.K mg base ["wants", "gone", "name"] "is_fulfilled" (defScope s_is_fulfilled) (f 5) cdv A outer s H E).nox (defBody s_is_fulfilled) (tS G E0 b) } :=
  ⟨_, fun {P} {w} {base} {G} {mg} {f} {fd} {em} {pr} {mc} {dT} T cdv A outer s H E hr => by
    have cx : CxR (cxOf CX0 P w G.K mg base ["wants", "gone", "name"] "is_fulfilled" (defScope s_is_fulfilled) (f 5) cdv A outer s H E).nox G 0 := ⟨rfl, hr, rfl⟩
    exact (ss_cons (s_ret (se_callB (all_ok cx) (by rfl) T.z_all (by decide +kernel) (sa_cons (by rfl) (se_lc (mt := false) (own := [("name", 2)]) cx.calm sc_is_fulfilled.nd (si_val cx (gv 0)) (blkOk_by (by rfl)) (by decide) (fun _ _ _ _ _ => (sg_name (i := 2) sc_is_fulfilled.nd rfl (by first | exact .inl rfl | exact .inr rfl) (by first | exact .inr rfl | exact .inl rfl))) (fun _ _ _ _ _ => sts_nil) (fun _ _ _ _ _ => (se_cmp (op_cmp cx.blk) (gv 2) (gv 1) (by first | exact nomark _ | rfl))) (fun _ => rfl)) sa_nil) (by decide) (by decide) (by rfl) (by rfl)))
      ss_nil)⟩
def r_is_fulfilled : List Val → Store → Res Val := callV 2 false 3 bod_is_fulfilled.1
theorem ok_is_fulfilled (T : Tb G mg f fd em pr mc dT) : FnOk P w G.K mg base CX0 1 (f 5) (fd 5) ["wants", "gone"] (spF G r_is_fulfilled) :=
  fn_ok (rm := false) T.F_is_fulfilled sc_is_fulfilled fun cdv A outer s H E hr => bod_is_fulfilled.2 T cdv A outer s H E hr
def bod_Room_wants_of : { b : Mi.Env → Store → Res (Fw × Mi.Env) // ∀ {P : Program} {w : World} {base : Heap} {G : Gm} {mg : Str → Option Value} {f : Nat → Addr} {fd : Nat → FuncData} {em : Nat → Addr} {pr : Addr} {mc : Value} {dT : Nat → Addr}, Tb G mg f fd em pr mc dT → ∀ (cdv : Value) (A : Around) (outer : List PySem.Env) (s : Shared) (H : Hp) (E : XK), Room 0 (A.deeper (envOfC "Room.wants_of" (defScope s_Room_wants_of) s.heap.objs.size (f 6) cdv)) →
    PSs (cxOf CX0 P w G.K mg base ["self", "name", "rule"] "Room.wants_of" (defScope s_Room_wants_of) (f 6) cdv A outer s H E).nox (defBody s_Room_wants_of) (tS G E0 b) } :=
  ⟨_, fun {P} {w} {base} {G} {mg} {f} {fd} {em} {pr} {mc} {dT} T cdv A outer s H E hr => by
    have cx : CxR (cxOf CX0 P w G.K mg base ["self", "name", "rule"] "Room.wants_of" (defScope s_Room_wants_of) (f 6) cdv A outer s H E).nox G 0 := ⟨rfl, hr, rfl⟩
    exact (ss_cons (s_ret (se_callTy (tuple_ok cx) (by rfl) T.z_tuple (by decide +kernel) (sa_cons (by rfl) (se_lc (mt := false) (own := [("rule", 2)]) cx.calm sc_Room_wants_of.nd (si_val cx (se_attr (ok := okA) (fun c h => okA_ok T h) (gv 0) (by rfl))) (blkOk_by (by rfl)) (by decide) (fun _ _ _ _ _ => (sg_name (i := 2) sc_Room_wants_of.nd rfl (by first | exact .inl rfl | exact .inr rfl) (by first | exact .inr rfl | exact .inl rfl))) (fun _ _ _ _ _ => (sts_one (st_cmp cx.blk (se_attr (ok := okA) (fun c h => okA_ok T h) (gv 2) (by rfl)) (gv 1) (by first | exact nomark _ | rfl)))) (fun _ _ _ _ _ => (se_attr (ok := okA) (fun c h => okA_ok T h) (gv 2) (by rfl))) (fun _ => rfl)) sa_nil) (by decide) (by decide) (by rfl) (by rfl)))
      ss_nil)⟩
def r_Room_wants_of : List Val → Store → Res Val := callV 2 false 3 bod_Room_wants_of.1
theorem ok_Room_wants_of (T : Tb G mg f fd em pr mc dT) : FnOk P w G.K mg base CX0 1 (f 6) (fd 6) ["self", "name"] (spF G r_Room_wants_of) :=
  fn_ok (rm := false) T.F_Room_wants_of sc_Room_wants_of fun cdv A outer s H E hr => bod_Room_wants_of.2 T cdv A outer s H E hr
def bod_may : { b : Mi.Env → Store → Res (Fw × Mi.Env) // ∀ {P : Program} {w : World} {base : Heap} {G : Gm} {mg : Str → Option Value} {f : Nat → Addr} {fd : Nat → FuncData} {em : Nat → Addr} {pr : Addr} {mc : Value} {dT : Nat → Addr}, Tb G mg f fd em pr mc dT → ∀ (cdv : Value) (A : Around) (outer : List PySem.Env) (s : Shared) (H : Hp) (E : XK), Room 1 (A.deeper (envOfC "may" (defScope s_may) s.heap.objs.size (f 7) cdv)) →
    PSs (cxOf CX0 P w G.K mg base ["room", "gone", "found", "name", "wants"] "may" (defScope s_may) (f 7) cdv A outer s H E).nox (defBody s_may) (tS G E0 b) } :=
  ⟨_, fun {P} {w} {base} {G} {mg} {f} {fd} {em} {pr} {mc} {dT} T cdv A outer s H E hr => by
    have cx : CxR (cxOf CX0 P w G.K mg base ["room", "gone", "found", "name", "wants"] "may" (defScope s_may) (f 7) cdv A outer s H E).nox G 1 := ⟨rfl, hr, rfl⟩
    exact (ss_cons (s_set (i := 2) sc_may.nd rfl (by first | exact .inl rfl | exact .inr rfl) (by first | exact .inr rfl | exact .inl rfl) (se_lst (mt := true) sa_nil) (by rfl))
      (ss_cons (s_for PassesOwn.never cx.calm (si_val cx (se_attr (ok := okA) (fun c h => okA_ok T h) (gv 0) (by rfl))) (sg_name (i := 3) sc_may.nd rfl (by first | exact .inl rfl | exact .inr rfl) (by first | exact .inr rfl | exact .inl rfl)) (ss_cons (s_if (PW.pt (sw_and (st_cmp cx (gv 3) (gv 1) (by first | exact nomark _ | rfl)) (sw_one (st_val cx (se_callB (any_ok cx) (by rfl) T.z_any (by decide +kernel) (sa_cons (by rfl) (se_lc (mt := false) (own := [("wants", 4)]) cx.calm sc_may.nd (si_val cx (se_meth (c := 1) (gv 0) (T.ci 1 rfl).cl T.me_Room_wants_of (ok_Room_wants_of T) (cx.room.mono (by decide)) T.b_Room_wants_of .nil (fun _ _ _ => RepL.nil) (sa_cons (by rfl) (gv 3) sa_nil) (by rfl) (by rfl) (by decide) (by rfl) (by rfl))) (blkOk_by (by rfl)) (by decide) (fun _ _ _ _ _ => (sg_name (i := 4) sc_may.nd rfl (by first | exact .inl rfl | exact .inr rfl) (by first | exact .inr rfl | exact .inl rfl))) (fun _ _ _ _ _ => sts_nil) (fun _ _ _ _ _ => (se_call (ok_is_fulfilled T) (cx.room.mono (by decide)) (by rfl) T.g_is_fulfilled T.F_is_fulfilled.kp T.b_is_fulfilled .nil (fun _ _ _ => RepL.nil) (sa_cons (by rfl) (gv 4) (sa_cons (by rfl) (gv 1) sa_nil)) (by rfl) (by rfl) (by decide))) (fun _ => rfl)) sa_nil) (by decide) (by decide) (by rfl) (by rfl)) (fun _ => rfl))))) (ss_cons (s_expr (se_bm cx PySem.F.plainAttrs_list PySem.F.slot_list_append PySem.F.type_list_append append_ok (gv 2) (sa_cons (by rfl) (gv 3) sa_nil) (by rfl) (by rfl) (by rfl) (by decide) (by rfl)) (by rfl))
      ss_nil) ss_nil)
      ss_nil) (fun _ => rfl))
      (ss_cons (s_ret (se_callTy (tuple_ok cx) (by rfl) T.z_tuple (by decide +kernel) (sa_cons (by rfl) (gv 2) sa_nil) (by decide) (by decide) (by rfl) (by rfl)))
      ss_nil)))⟩
def r_may : List Val → Store → Res Val := callV 2 false 5 bod_may.1
theorem ok_may (T : Tb G mg f fd em pr mc dT) : FnOk P w G.K mg base CX0 2 (f 7) (fd 7) ["room", "gone"] (spF G r_may) :=
  fn_ok (rm := false) T.F_may sc_may fun cdv A outer s H E hr => bod_may.2 T cdv A outer s H E hr
def bod_most_gone : { b : Mi.Env → Store → Res (Fw × Mi.Env) // ∀ {P : Program} {w : World} {base : Heap} {G : Gm} {mg : Str → Option Value} {f : Nat → Addr} {fd : Nat → FuncData} {em : Nat → Addr} {pr : Addr} {mc : Value} {dT : Nat → Addr}, Tb G mg f fd em pr mc dT → ∀ (cdv : Value) (A : Around) (outer : List PySem.Env) (s : Shared) (H : Hp) (E : XK), Room 2 (A.deeper (envOfC "most_gone" (defScope s_most_gone) s.heap.objs.size (f 8) cdv)) →
    PSs (cxOf CX0 P w G.K mg base ["room", "staying", "gone", "free", "name"] "most_gone" (defScope s_most_gone) (f 8) cdv A outer s H E).nox (defBody s_most_gone) (tS G E0 b) } :=
  ⟨_, fun {P} {w} {base} {G} {mg} {f} {fd} {em} {pr} {mc} {dT} T cdv A outer s H E hr => by
    have cx : CxR (cxOf CX0 P w G.K mg base ["room", "staying", "gone", "free", "name"] "most_gone" (defScope s_most_gone) (f 8) cdv A outer s H E).nox G 2 := ⟨rfl, hr, rfl⟩
    exact (ss_cons (s_set (i := 2) sc_most_gone.nd rfl (by first | exact .inl rfl | exact .inr rfl) (by first | exact .inr rfl | exact .inl rfl) (se_tup sa_nil) (by rfl))
      (ss_cons (by first | exact (s_setLc (mt := false) (i := 3) (own := [("name", 4)]) cx.calm sc_most_gone.nd rfl rfl rfl (si_val cx (se_call (ok_may T) (cx.room.mono (by decide)) (by rfl) T.g_may T.F_may.kp T.b_may .nil (fun _ _ _ => RepL.nil) (sa_cons (by rfl) (gv 0) (sa_cons (by rfl) (gv 2) sa_nil)) (by rfl) (by rfl) (by decide))) (blkOk_by (by rfl)) (by decide) (fun _ _ _ _ _ => (sg_name (i := 4) sc_most_gone.nd rfl (by first | exact .inl rfl | exact .inr rfl) (by first | exact .inr rfl | exact .inl rfl))) (fun _ _ _ _ _ => (sts_one (st_cmp cx.blk (gv 4) (gv 1) (by first | exact nomark _ | rfl)))) (fun _ _ _ _ _ => (gv 4)) (fun _ => rfl)) | exact (s_set (i := 3) sc_most_gone.nd rfl (by first | exact .inl rfl | exact .inr rfl) (by first | exact .inr rfl | exact .inl rfl) (se_lc (mt := false) (own := [("name", 4)]) cx.calm sc_most_gone.nd (si_val cx (se_call (ok_may T) (cx.room.mono (by decide)) (by rfl) T.g_may T.F_may.kp T.b_may .nil (fun _ _ _ => RepL.nil) (sa_cons (by rfl) (gv 0) (sa_cons (by rfl) (gv 2) sa_nil)) (by rfl) (by rfl) (by decide))) (blkOk_by (by rfl)) (by decide) (fun _ _ _ _ _ => (sg_name (i := 4) sc_most_gone.nd rfl (by first | exact .inl rfl | exact .inr rfl) (by first | exact .inr rfl | exact .inl rfl))) (fun _ _ _ _ _ => (sts_one (st_cmp cx.blk (gv 4) (gv 1) (by first | exact nomark _ | rfl)))) (fun _ _ _ _ _ => (gv 4)) (fun _ => rfl)) (by rfl)))
      (ss_cons (s_while PassesOwn.never (st_cmp cx (se_callB (len_ok cx) (by rfl) T.z_len (by decide +kernel) (sa_cons (by rfl) (gv 3) sa_nil) (by decide) (by decide) (by rfl) (by rfl)) g_int (by first | exact nomark _ | rfl)) (ss_cons (s_set (i := 2) sc_most_gone.nd rfl (by first | exact .inl rfl | exact .inr rfl) (by first | exact .inr rfl | exact .inl rfl) (se_call (ok_lot_of T) (cx.room.mono (by decide)) (by rfl) T.g_lot_of T.F_lot_of.kp T.b_lot_of .nil (fun _ _ _ => RepL.nil) (sa_cons (by rfl) (se_lst (mt := false) (sa_star cx (gv 2) (sa_star cx (gv 3) sa_nil))) sa_nil) (by rfl) (by rfl) (by decide)) (by rfl))
      (ss_cons (by first | exact (s_setLc (mt := false) (i := 3) (own := [("name", 4)]) cx.calm sc_most_gone.nd rfl rfl rfl (si_val cx (se_call (ok_may T) (cx.room.mono (by decide)) (by rfl) T.g_may T.F_may.kp T.b_may .nil (fun _ _ _ => RepL.nil) (sa_cons (by rfl) (gv 0) (sa_cons (by rfl) (gv 2) sa_nil)) (by rfl) (by rfl) (by decide))) (blkOk_by (by rfl)) (by decide) (fun _ _ _ _ _ => (sg_name (i := 4) sc_most_gone.nd rfl (by first | exact .inl rfl | exact .inr rfl) (by first | exact .inr rfl | exact .inl rfl))) (fun _ _ _ _ _ => (sts_one (st_cmp cx.blk (gv 4) (gv 1) (by first | exact nomark _ | rfl)))) (fun _ _ _ _ _ => (gv 4)) (fun _ => rfl)) | exact (s_set (i := 3) sc_most_gone.nd rfl (by first | exact .inl rfl | exact .inr rfl) (by first | exact .inr rfl | exact .inl rfl) (se_lc (mt := false) (own := [("name", 4)]) cx.calm sc_most_gone.nd (si_val cx (se_call (ok_may T) (cx.room.mono (by decide)) (by rfl) T.g_may T.F_may.kp T.b_may .nil (fun _ _ _ => RepL.nil) (sa_cons (by rfl) (gv 0) (sa_cons (by rfl) (gv 2) sa_nil)) (by rfl) (by rfl) (by decide))) (blkOk_by (by rfl)) (by decide) (fun _ _ _ _ _ => (sg_name (i := 4) sc_most_gone.nd rfl (by first | exact .inl rfl | exact .inr rfl) (by first | exact .inr rfl | exact .inl rfl))) (fun _ _ _ _ _ => (sts_one (st_cmp cx.blk (gv 4) (gv 1) (by first | exact nomark _ | rfl)))) (fun _ _ _ _ _ => (gv 4)) (fun _ => rfl)) (by rfl)))
      ss_nil)) lim)
      (ss_cons (s_ret (gv 2))
      ss_nil))))⟩
def r_most_gone : List Val → Store → Res Val := callV 2 false 5 bod_most_gone.1
theorem ok_most_gone (T : Tb G mg f fd em pr mc dT) : FnOk P w G.K mg base CX0 3 (f 8) (fd 8) ["room", "staying"] (spF G r_most_gone) :=
  fn_ok (rm := false) T.F_most_gone sc_most_gone fun cdv A outer s H E hr => bod_most_gone.2 T cdv A outer s H E hr
def bod_hull : { b : Mi.Env → Store → Res (Fw × Mi.Env) // ∀ {P : Program} {w : World} {base : Heap} {G : Gm} {mg : Str → Option Value} {f : Nat → Addr} {fd : Nat → FuncData} {em : Nat → Addr} {pr : Addr} {mc : Value} {dT : Nat → Addr}, Tb G mg f fd em pr mc dT → ∀ (cdv : Value) (A : Around) (outer : List PySem.Env) (s : Shared) (H : Hp) (E : XK), Room 3 (A.deeper (envOfC "hull" (defScope s_hull) s.heap.objs.size (f 9) cdv)) →
    PSs (cxOf CX0 P w G.K mg base ["room", "staying"] "hull" (defScope s_hull) (f 9) cdv A outer s H E).nox (defBody s_hull) (tS G E0 b) } :=
  ⟨_, fun {P} {w} {base} {G} {mg} {f} {fd} {em} {pr} {mc} {dT} T cdv A outer s H E hr => by
    have cx : CxR (cxOf CX0 P w G.K mg base ["room", "staying"] "hull" (defScope s_hull) (f 9) cdv A outer s H E).nox G 3 := ⟨rfl, hr, rfl⟩
    exact (ss_cons (s_expr (se_call (ok_need_names T) (cx.room.mono (by decide)) (by rfl) T.g_need_names T.F_need_names.kp T.b_need_names .nil (fun _ _ _ => RepL.nil) (sa_cons (by rfl) (gv 0) (sa_cons (by rfl) (gv 1) sa_nil)) (by rfl) (by rfl) (by decide)) (by rfl))
      (ss_cons (s_ret (se_call (ok_rest_of T) (cx.room.mono (by decide)) (by rfl) T.g_rest_of T.F_rest_of.kp T.b_rest_of .nil (fun _ _ _ => RepL.nil) (sa_cons (by rfl) (gv 0) (sa_cons (by rfl) (se_call (ok_most_gone T) (cx.room.mono (by decide)) (by rfl) T.g_most_gone T.F_most_gone.kp T.b_most_gone .nil (fun _ _ _ => RepL.nil) (sa_cons (by rfl) (gv 0) (sa_cons (by rfl) (gv 1) sa_nil)) (by rfl) (by rfl) (by decide)) sa_nil)) (by rfl) (by rfl) (by decide)))
      ss_nil))⟩
def r_hull : List Val → Store → Res Val := callV 2 false 2 bod_hull.1
theorem ok_hull (T : Tb G mg f fd em pr mc dT) : FnOk P w G.K mg base CX0 4 (f 9) (fd 9) ["room", "staying"] (spF G r_hull) :=
  fn_ok (rm := false) T.F_hull sc_hull fun cdv A outer s H E hr => bod_hull.2 T cdv A outer s H E hr
def bodX_hull : { b : Mi.Env → Store → Res (Fw × Mi.Env) // ∀ {P : Program} {w : World} {base : Heap} {G : Gm} {mg : Str → Option Value} {f : Nat → Addr} {fd : Nat → FuncData} {em : Nat → Addr} {pr : Addr} {mc : Value} {dT : Nat → Addr}, Tb G mg f fd em pr mc dT → ∀ (cdv : Value) (A : Around) (outer : List PySem.Env) (s : Shared) (H : Hp) (E : XK), Room 3 (A.deeper (envOfC "hull" (defScope s_hull) s.heap.objs.size (f 9) cdv)) →
    PSs (cxOf (L2.CX P w) P w G.K mg base ["room", "staying"] "hull" (defScope s_hull) (f 9) cdv A outer s H E) (defBody s_hull) (tS G E b) } :=
  ⟨_, fun {P} {w} {base} {G} {mg} {f} {fd} {em} {pr} {mc} {dT} T cdv A outer s H E hr => by
    have cx : CxR (cxOf (L2.CX P w) P w G.K mg base ["room", "staying"] "hull" (defScope s_hull) (f 9) cdv A outer s H E) G 3 := ⟨rfl, hr, rfl⟩
    have cx0 : CxR (cxOf (L2.CX P w) P w G.K mg base ["room", "staying"] "hull" (defScope s_hull) (f 9) cdv A outer s H E).nox G 3 := ⟨rfl, hr, rfl⟩
    exact (ss_cons (s_expr (e_callX (takes_of rfl rfl rfl rfl) (okX_need_names T) (cx.room.mono (by decide)) (by rfl) T.g_need_names T.F_need_names.kp T.b_need_names (sa_cons (by rfl) (gv 0) (sa_cons (by rfl) (gv 1) sa_nil)) (by rfl) (by rfl) (by decide)) (by rfl))
      (ss_cons (s_ret (PE.lift (se_call (ok_rest_of T) (cx.room.mono (by decide)) (by rfl) T.g_rest_of T.F_rest_of.kp T.b_rest_of .nil (fun _ _ _ => RepL.nil) (sa_cons (by rfl) (gv 0) (sa_cons (by rfl) (se_call (ok_most_gone T) (cx.room.mono (by decide)) (by rfl) T.g_most_gone T.F_most_gone.kp T.b_most_gone .nil (fun _ _ _ => RepL.nil) (sa_cons (by rfl) (gv 0) (sa_cons (by rfl) (gv 1) sa_nil)) (by rfl) (by rfl) (by decide)) sa_nil)) (by rfl) (by rfl) (by decide))))
      ss_nil))⟩
def rX_hull : List Val → Store → Res Val := callX 2 2 bodX_hull.1
theorem okX_hull (T : Tb G mg f fd em pr mc dT) : FnOk P w G.K mg base (L2.CX P w) 4 (f 9) (fd 9) ["room", "staying"] (spF G rX_hull) :=
  fn_okX T.F_hull sc_hull fun cdv A outer s H E hr => bodX_hull.2 T cdv A outer s H E hr
def bod__law_take : { b : Mi.Env → Store → Res (Fw × Mi.Env) // ∀ {P : Program} {w : World} {base : Heap} {G : Gm} {mg : Str → Option Value} {f : Nat → Addr} {fd : Nat → FuncData} {em : Nat → Addr} {pr : Addr} {mc : Value} {dT : Nat → Addr}, Tb G mg f fd em pr mc dT → ∀ (cdv : Value) (A : Around) (outer : List PySem.Env) (s : Shared) (H : Hp) (E : XK), Room 0 (A.deeper (envOfC "_law_take" (defScope s__law_take) s.heap.objs.size (f 10) cdv)) →
    PSs (cxOf CX0 P w G.K mg base ["_law_box_here", "_law_bound", "_law_digit", "_law_raw", "_law_wide"] "_law_take" (defScope s__law_take) (f 10) cdv A outer s H E).nox (defBody s__law_take) (tS G E0 b) } :=
  ⟨_, fun {P} {w} {base} {G} {mg} {f} {fd} {em} {pr} {mc} {dT} T cdv A outer s H E hr => by
    have cx : CxR (cxOf CX0 P w G.K mg base ["_law_box_here", "_law_bound", "_law_digit", "_law_raw", "_law_wide"] "_law_take" (defScope s__law_take) (f 10) cdv A outer s H E).nox G 0 := ⟨rfl, hr, rfl⟩
    exact (ss_cons (s_if (st_cmp cx (se_idx cx (gv 0) g_int (by rfl)) g_int (by first | exact nomark _ | rfl)) (ss_cons (s_set (i := 2) sc__law_take.nd rfl (by first | exact .inl rfl | exact .inr rfl) (by first | exact .inr rfl | exact .inl rfl) (pe_bin (op_bin (mt := false) cx) (se_callTy int_ok (by rfl) T.z_int (by decide +kernel) (sa_cons (by rfl) (se_idx cx (gv 0) g_int (by rfl)) sa_nil) (by decide) (by decide) (by rfl) (by rfl)) (gv 1)) (by rfl))
      (ss_cons (s_setI cx (gv 0) g_int (pe_bin (op_bin (mt := false) cx) (se_idx cx (gv 0) g_int (by rfl)) (gv 1)) (by rfl) (by rfl) (by rfl))
      (ss_cons (s_ret (gv 2))
      ss_nil))) ss_nil)
      (ss_cons (s_setI cx (gv 0) g_int (pe_bin (op_bin (mt := false) cx) (se_idx cx (gv 0) g_int (by rfl)) g_int) (by rfl) (by rfl) (by rfl))
      (ss_cons (s_set (i := 3) sc__law_take.nd rfl (by first | exact .inl rfl | exact .inr rfl) (by first | exact .inr rfl | exact .inl rfl) (pe_bin (op_bin (mt := false) cx) (se_callTy int_ok (by rfl) T.z_int (by decide +kernel) (sa_cons (by rfl) (pe_bin (op_bin (mt := false) cx) (pe_bin (op_bin (mt := false) cx) (se_idx cx (gv 0) g_int (by rfl)) (pe_bin (op_bin (mt := false) cx) g_int (se_idx cx (gv 0) g_int (by rfl)))) g_int) sa_nil) (by decide) (by decide) (by rfl) (by rfl)) g_int) (by rfl))
      (ss_cons (s_setI cx (gv 0) g_int (pe_bin (op_bin (mt := false) cx) (pe_bin (op_bin (mt := false) cx) (se_callTy int_ok (by rfl) T.z_int (by decide +kernel) (sa_cons (by rfl) (pe_bin (op_bin (mt := false) cx) (pe_bin (op_bin (mt := false) cx) (gv 3) g_int) g_int) sa_nil) (by decide) (by decide) (by rfl) (by rfl)) g_int) g_int) (by rfl) (by rfl) (by rfl))
      (ss_cons (s_if (st_cmp cx (gv 1) (pe_bin (op_bin (mt := false) cx) g_int g_int) (by first | exact nomark _ | rfl)) (ss_cons (s_ret (pe_bin (op_bin (mt := false) cx) (se_callTy int_ok (by rfl) T.z_int (by decide +kernel) (sa_cons (by rfl) (pe_bin (op_bin (mt := false) cx) (pe_bin (op_bin (mt := false) cx) (pe_bin (op_bin (mt := false) cx) (gv 3) g_int) (se_idx cx (gv 0) g_int (by rfl))) g_int) sa_nil) (by decide) (by decide) (by rfl) (by rfl)) (gv 1)))
      ss_nil) ss_nil)
      (ss_cons (s_set (i := 4) sc__law_take.nd rfl (by first | exact .inl rfl | exact .inr rfl) (by first | exact .inr rfl | exact .inl rfl) (pe_bin (op_bin (mt := false) cx) (pe_bin (op_bin (mt := false) cx) (pe_bin (op_bin (mt := false) cx) (gv 3) g_int) (se_idx cx (gv 0) g_int (by rfl))) (pe_bin (op_bin (mt := false) cx) g_int g_int)) (by rfl))
      (ss_cons (s_ret (pe_bin (op_bin (mt := false) cx) (se_callTy int_ok (by rfl) T.z_int (by decide +kernel) (sa_cons (by rfl) (pe_bin (op_bin (mt := false) cx) (pe_bin (op_bin (mt := false) cx) (gv 4) (pe_bin (op_bin (mt := false) cx) (pe_bin (op_bin (mt := false) cx) (se_idx cx (gv 0) g_int (by rfl)) g_int) g_int)) (gv 3)) sa_nil) (by decide) (by decide) (by rfl) (by rfl)) (gv 1)))
      ss_nil)))))))⟩
def r__law_take : List Val → Store → Res Val := callV 2 false 5 bod__law_take.1
theorem ok__law_take (T : Tb G mg f fd em pr mc dT) : FnOk P w G.K mg base CX0 1 (f 10) (fd 10) ["_law_box_here", "_law_bound"] (spF G r__law_take) :=
  fn_ok (rm := false) T.F__law_take sc__law_take fun cdv A outer s H E hr => bod__law_take.2 T cdv A outer s H E hr
def bod__law_mixed : { b : Mi.Env → Store → Res (Fw × Mi.Env) // ∀ {P : Program} {w : World} {base : Heap} {G : Gm} {mg : Str → Option Value} {f : Nat → Addr} {fd : Nat → FuncData} {em : Nat → Addr} {pr : Addr} {mc : Value} {dT : Nat → Addr}, Tb G mg f fd em pr mc dT → ∀ (cdv : Value) (A : Around) (outer : List PySem.Env) (s : Shared) (H : Hp) (E : XK), Room 1 (A.deeper (envOfC "_law_mixed" (defScope s__law_mixed) s.heap.objs.size (f 11) cdv)) →
    PSs (cxOf CX0 P w G.K mg base ["_law_box_here", "_law_items", "_law_left", "_law_found", "_law_turn"] "_law_mixed" (defScope s__law_mixed) (f 11) cdv A outer s H E).nox (defBody s__law_mixed) (tS G E0 b) } :=
  ⟨_, fun {P} {w} {base} {G} {mg} {f} {fd} {em} {pr} {mc} {dT} T cdv A outer s H E hr => by
    have cx : CxR (cxOf CX0 P w G.K mg base ["_law_box_here", "_law_items", "_law_left", "_law_found", "_law_turn"] "_law_mixed" (defScope s__law_mixed) (f 11) cdv A outer s H E).nox G 1 := ⟨rfl, hr, rfl⟩
    exact (ss_cons (by first | exact (s_par (i := 2) (j := 3) cx.calm sc__law_mixed.nd rfl rfl (by decide) rfl rfl (sa_cons (by rfl) (se_callTy (list_ok (mt := true) cx) (by rfl) T.z_list (by decide +kernel) (sa_cons (by rfl) (gv 1) sa_nil) (by decide) (by decide) (by rfl) (by rfl)) (sa_cons (by rfl) (se_lst (mt := true) sa_nil) sa_nil)) rfl) | exact (s_tup (by rfl) (se_tup (sa_cons (by rfl) (se_callTy (list_ok (mt := true) cx) (by rfl) T.z_list (by decide +kernel) (sa_cons (by rfl) (gv 1) sa_nil) (by decide) (by decide) (by rfl) (by rfl)) (sa_cons (by rfl) (se_lst (mt := true) sa_nil) sa_nil))) (sg_tup cx (by rfl) (by rfl) (sgs_cons (by rfl) (sg_name (i := 2) sc__law_mixed.nd rfl (by first | exact .inl rfl | exact .inr rfl) (by first | exact .inr rfl | exact .inl rfl)) (sgs_cons (by rfl) (sg_name (i := 3) sc__law_mixed.nd rfl (by first | exact .inl rfl | exact .inr rfl) (by first | exact .inr rfl | exact .inl rfl)) sgs_nil))) (by rfl) (by rfl)))
      (ss_cons (s_for PassesOwn.never cx.calm (si_rng1 (by rfl) T.z_range (by rfl) (sa_cons (by rfl) (se_callB (len_ok cx) (by rfl) T.z_len (by decide +kernel) (sa_cons (by rfl) (gv 2) sa_nil) (by decide) (by decide) (by rfl) (by rfl)) sa_nil) (rng_len1)) (sg_name (i := 4) sc__law_mixed.nd rfl (by first | exact .inl rfl | exact .inr rfl) (by first | exact .inr rfl | exact .inl rfl)) (ss_cons (s_expr (se_bm cx PySem.F.plainAttrs_list PySem.F.slot_list_append PySem.F.type_list_append append_ok (gv 3) (sa_cons (by rfl) (se_bm cx PySem.F.plainAttrs_list PySem.F.slot_list_pop PySem.F.type_list_pop popAt_ok (gv 2) (sa_cons (by rfl) (se_call (ok__law_take T) (cx.room.mono (by decide)) (by rfl) T.g__law_take T.F__law_take.kp T.b__law_take .nil (fun _ _ _ => RepL.nil) (sa_cons (by rfl) (gv 0) (sa_cons (by rfl) (se_callB (len_ok cx) (by rfl) T.z_len (by decide +kernel) (sa_cons (by rfl) (gv 2) sa_nil) (by decide) (by decide) (by rfl) (by rfl)) sa_nil)) (by rfl) (by rfl) (by decide)) sa_nil) (by rfl) (by rfl) (by rfl) (by decide) (by rfl)) sa_nil) (by rfl) (by rfl) (by rfl) (by decide) (by rfl)) (by rfl))
      ss_nil) (fun _ => rfl))
      (ss_cons (s_ret (gv 3))
      ss_nil)))⟩
def r__law_mixed : List Val → Store → Res Val := callV 2 false 5 bod__law_mixed.1
theorem ok__law_mixed (T : Tb G mg f fd em pr mc dT) : FnOk P w G.K mg base CX0 2 (f 11) (fd 11) ["_law_box_here", "_law_items"] (spF G r__law_mixed) :=
  fn_ok (rm := false) T.F__law_mixed sc__law_mixed fun cdv A outer s H E hr => bod__law_mixed.2 T cdv A outer s H E hr
def bod__law_names : { b : Mi.Env → Store → Res (Fw × Mi.Env) // ∀ {P : Program} {w : World} {base : Heap} {G : Gm} {mg : Str → Option Value} {f : Nat → Addr} {fd : Nat → FuncData} {em : Nat → Addr} {pr : Addr} {mc : Value} {dT : Nat → Addr}, Tb G mg f fd em pr mc dT → ∀ (cdv : Value) (A : Around) (outer : List PySem.Env) (s : Shared) (H : Hp) (E : XK), Room 2 (A.deeper (envOfC "_law_names" (defScope s__law_names) s.heap.objs.size (f 12) cdv)) →
    PSs (cxOf CX0 P w G.K mg base ["_law_box_here", "_law_bound", "_law_some"] "_law_names" (defScope s__law_names) (f 12) cdv A outer s H E).nox (defBody s__law_names) (tS G E0 b) } :=
  ⟨_, fun {P} {w} {base} {G} {mg} {f} {fd} {em} {pr} {mc} {dT} T cdv A outer s H E hr => by
    have cx : CxR (cxOf CX0 P w G.K mg base ["_law_box_here", "_law_bound", "_law_some"] "_law_names" (defScope s__law_names) (f 12) cdv A outer s H E).nox G 2 := ⟨rfl, hr, rfl⟩
    exact (ss_cons (s_set (i := 2) sc__law_names.nd rfl (by first | exact .inl rfl | exact .inr rfl) (by first | exact .inr rfl | exact .inl rfl) (se_lst (mt := false) (sa_cons (by rfl) g_str (sa_cons (by rfl) g_str (sa_cons (by rfl) g_str (sa_cons (by rfl) g_str (sa_cons (by rfl) g_str (sa_cons (by rfl) g_str (sa_cons (by rfl) g_str (sa_cons (by rfl) g_str (sa_cons (by rfl) g_str (sa_cons (by rfl) g_str (sa_cons (by rfl) g_str (sa_cons (by rfl) g_str (sa_cons (by rfl) g_str (sa_cons (by rfl) g_str sa_nil))))))))))))))) (by rfl))
      (ss_cons (s_ret (se_slc (mt := false) cx (se_call (ok__law_mixed T) (cx.room.mono (by decide)) (by rfl) T.g__law_mixed T.F__law_mixed.kp T.b__law_mixed .nil (fun _ _ _ => RepL.nil) (sa_cons (by rfl) (gv 0) (sa_cons (by rfl) (gv 2) sa_nil)) (by rfl) (by rfl) (by decide)) so_none (so_some (gv 1))))
      ss_nil))⟩
def r__law_names : List Val → Store → Res Val := callV 2 false 3 bod__law_names.1
theorem ok__law_names (T : Tb G mg f fd em pr mc dT) : FnOk P w G.K mg base CX0 3 (f 12) (fd 12) ["_law_box_here", "_law_bound"] (spF G r__law_names) :=
  fn_ok (rm := false) T.F__law_names sc__law_names fun cdv A outer s H E hr => bod__law_names.2 T cdv A outer s H E hr
def bod__law_rules : { b : Mi.Env → Store → Res (Fw × Mi.Env) // ∀ {P : Program} {w : World} {base : Heap} {G : Gm} {mg : Str → Option Value} {f : Nat → Addr} {fd : Nat → FuncData} {em : Nat → Addr} {pr : Addr} {mc : Value} {dT : Nat → Addr}, Tb G mg f fd em pr mc dT → ∀ (cdv : Value) (A : Around) (outer : List PySem.Env) (s : Shared) (H : Hp) (E : XK), Room 3 (A.deeper (envOfC "_law_rules" (defScope s__law_rules) s.heap.objs.size (f 13) cdv)) →
    PSs (cxOf CX0 P w G.K mg base ["_law_box_here", "_law_most", "_law_names_here", "_law_found", "_law_is_calm", "_law_at", "_law_name", "_law_others", "_law_turn", "_law_wants", "_law_other"] "_law_rules" (defScope s__law_rules) (f 13) cdv A outer s H E).nox (defBody s__law_rules) (tS G E0 b) } :=
  ⟨_, fun {P} {w} {base} {G} {mg} {f} {fd} {em} {pr} {mc} {dT} T cdv A outer s H E hr => by
    have cx : CxR (cxOf CX0 P w G.K mg base ["_law_box_here", "_law_most", "_law_names_here", "_law_found", "_law_is_calm", "_law_at", "_law_name", "_law_others", "_law_turn", "_law_wants", "_law_other"] "_law_rules" (defScope s__law_rules) (f 13) cdv A outer s H E).nox G 3 := ⟨rfl, hr, rfl⟩
    exact (ss_cons (by first | exact (s_par (i := 2) (j := 3) cx.calm sc__law_rules.nd rfl rfl (by decide) rfl rfl (sa_cons (by rfl) (se_call (ok__law_names T) (cx.room.mono (by decide)) (by rfl) T.g__law_names T.F__law_names.kp T.b__law_names .nil (fun _ _ _ => RepL.nil) (sa_cons (by rfl) (gv 0) (sa_cons (by rfl) (pe_bin (op_bin (mt := false) cx) g_int (se_call (ok__law_take T) (cx.room.mono (by decide)) (by rfl) T.g__law_take T.F__law_take.kp T.b__law_take .nil (fun _ _ _ => RepL.nil) (sa_cons (by rfl) (gv 0) (sa_cons (by rfl) (gv 1) sa_nil)) (by rfl) (by rfl) (by decide))) sa_nil)) (by rfl) (by rfl) (by decide)) (sa_cons (by rfl) (se_lst (mt := true) sa_nil) sa_nil)) rfl) | exact (s_tup (by rfl) (se_tup (sa_cons (by rfl) (se_call (ok__law_names T) (cx.room.mono (by decide)) (by rfl) T.g__law_names T.F__law_names.kp T.b__law_names .nil (fun _ _ _ => RepL.nil) (sa_cons (by rfl) (gv 0) (sa_cons (by rfl) (pe_bin (op_bin (mt := false) cx) g_int (se_call (ok__law_take T) (cx.room.mono (by decide)) (by rfl) T.g__law_take T.F__law_take.kp T.b__law_take .nil (fun _ _ _ => RepL.nil) (sa_cons (by rfl) (gv 0) (sa_cons (by rfl) (gv 1) sa_nil)) (by rfl) (by rfl) (by decide))) sa_nil)) (by rfl) (by rfl) (by decide)) (sa_cons (by rfl) (se_lst (mt := true) sa_nil) sa_nil))) (sg_tup cx (by rfl) (by rfl) (sgs_cons (by rfl) (sg_name (i := 2) sc__law_rules.nd rfl (by first | exact .inl rfl | exact .inr rfl) (by first | exact .inr rfl | exact .inl rfl)) (sgs_cons (by rfl) (sg_name (i := 3) sc__law_rules.nd rfl (by first | exact .inl rfl | exact .inr rfl) (by first | exact .inr rfl | exact .inl rfl)) sgs_nil))) (by rfl) (by rfl)))
      (ss_cons (s_set (i := 4) sc__law_rules.nd rfl (by first | exact .inl rfl | exact .inr rfl) (by first | exact .inr rfl | exact .inl rfl) (se_cmp (op_cmp cx) (se_call (ok__law_take T) (cx.room.mono (by decide)) (by rfl) T.g__law_take T.F__law_take.kp T.b__law_take .nil (fun _ _ _ => RepL.nil) (sa_cons (by rfl) (gv 0) (sa_cons (by rfl) g_int sa_nil)) (by rfl) (by rfl) (by decide)) g_int (by first | exact nomark _ | rfl)) (by rfl))
      (ss_cons (s_for PassesOwn.never cx.calm (si_enum cx (by rfl) T.z_enumerate (by rfl) (sa_cons (by rfl) (gv 2) sa_nil)) (sg_tup cx (by rfl) (by rfl) (sgs_cons (by rfl) (sg_name (i := 5) sc__law_rules.nd rfl (by first | exact .inl rfl | exact .inr rfl) (by first | exact .inr rfl | exact .inl rfl)) (sgs_cons (by rfl) (sg_name (i := 6) sc__law_rules.nd rfl (by first | exact .inl rfl | exact .inr rfl) (by first | exact .inr rfl | exact .inl rfl)) sgs_nil))) (ss_cons (s_set (i := 7) sc__law_rules.nd rfl (by first | exact .inl rfl | exact .inr rfl) (by first | exact .inr rfl | exact .inl rfl) (se_ite (st_val cx (gv 4) (fun _ => rfl)) (se_slc (mt := false) cx (gv 2) so_none (so_some (gv 5))) (se_lc (mt := false) (own := [("_law_other", 10)]) cx.calm sc__law_rules.nd (si_val cx (gv 2)) (blkOk_by (by rfl)) (by decide) (fun _ _ _ _ _ => (sg_name (i := 10) sc__law_rules.nd rfl (by first | exact .inl rfl | exact .inr rfl) (by first | exact .inr rfl | exact .inl rfl))) (fun _ _ _ _ _ => (sts_one (st_cmp cx.blk (gv 10) (gv 6) (by first | exact nomark _ | rfl)))) (fun _ _ _ _ _ => (gv 10)) (fun _ => rfl))) (by rfl))
      (ss_cons (s_for PassesOwn.never cx.calm (si_rng1 (by rfl) T.z_range (by rfl) (sa_cons (by rfl) (se_ite (st_val cx (gv 4) (fun _ => rfl)) (pe_bin (op_bin (mt := false) cx) g_int (se_call (ok__law_take T) (cx.room.mono (by decide)) (by rfl) T.g__law_take T.F__law_take.kp T.b__law_take .nil (fun _ _ _ => RepL.nil) (sa_cons (by rfl) (gv 0) (sa_cons (by rfl) g_int sa_nil)) (by rfl) (by rfl) (by decide))) (se_call (ok__law_take T) (cx.room.mono (by decide)) (by rfl) T.g__law_take T.F__law_take.kp T.b__law_take .nil (fun _ _ _ => RepL.nil) (sa_cons (by rfl) (gv 0) (sa_cons (by rfl) g_int sa_nil)) (by rfl) (by rfl) (by decide))) sa_nil) (rng_len1)) (sg_name (i := 8) sc__law_rules.nd rfl (by first | exact .inl rfl | exact .inr rfl) (by first | exact .inr rfl | exact .inl rfl)) (ss_cons (by first | exact (s_setLc (mt := false) (i := 9) (own := [("_law_other", 10)]) cx.calm sc__law_rules.nd rfl rfl rfl (si_val cx (gv 7)) (blkOk_by (by rfl)) (by decide) (fun _ _ _ _ _ => (sg_name (i := 10) sc__law_rules.nd rfl (by first | exact .inl rfl | exact .inr rfl) (by first | exact .inr rfl | exact .inl rfl))) (fun _ _ _ _ _ => (sts_one (st_cmp cx.blk (se_call (ok__law_take T) (cx.room.mono (by decide)) (by rfl) T.g__law_take T.F__law_take.kp T.b__law_take .nil (fun _ _ _ => RepL.nil) (sa_cons (by rfl) (gv 0) (sa_cons (by rfl) g_int sa_nil)) (by rfl) (by rfl) (by decide)) g_int (by first | exact nomark _ | rfl)))) (fun _ _ _ _ _ => (gv 10)) (fun _ => rfl)) | exact (s_set (i := 9) sc__law_rules.nd rfl (by first | exact .inl rfl | exact .inr rfl) (by first | exact .inr rfl | exact .inl rfl) (se_lc (mt := false) (own := [("_law_other", 10)]) cx.calm sc__law_rules.nd (si_val cx (gv 7)) (blkOk_by (by rfl)) (by decide) (fun _ _ _ _ _ => (sg_name (i := 10) sc__law_rules.nd rfl (by first | exact .inl rfl | exact .inr rfl) (by first | exact .inr rfl | exact .inl rfl))) (fun _ _ _ _ _ => (sts_one (st_cmp cx.blk (se_call (ok__law_take T) (cx.room.mono (by decide)) (by rfl) T.g__law_take T.F__law_take.kp T.b__law_take .nil (fun _ _ _ => RepL.nil) (sa_cons (by rfl) (gv 0) (sa_cons (by rfl) g_int sa_nil)) (by rfl) (by rfl) (by decide)) g_int (by first | exact nomark _ | rfl)))) (fun _ _ _ _ _ => (gv 10)) (fun _ => rfl)) (by rfl)))
      (ss_cons (s_expr (se_bm cx PySem.F.plainAttrs_list PySem.F.slot_list_append PySem.F.type_list_append append_ok (gv 3) (sa_cons (by rfl) (se_tup (sa_cons (by rfl) (gv 6) (sa_cons (by rfl) (se_callTy (tuple_ok cx) (by rfl) T.z_tuple (by decide +kernel) (sa_cons (by rfl) (gv 9) sa_nil) (by decide) (by decide) (by rfl) (by rfl)) sa_nil))) sa_nil) (by rfl) (by rfl) (by rfl) (by decide) (by rfl)) (by rfl))
      ss_nil)) (fun _ => rfl))
      ss_nil)) (fun _ => rfl))
      (ss_cons (s_ret (se_call (ok__law_mixed T) (cx.room.mono (by decide)) (by rfl) T.g__law_mixed T.F__law_mixed.kp T.b__law_mixed .nil (fun _ _ _ => RepL.nil) (sa_cons (by rfl) (gv 0) (sa_cons (by rfl) (gv 3) sa_nil)) (by rfl) (by rfl) (by decide)))
      ss_nil))))⟩
def r__law_rules : List Val → Store → Res Val := callV 2 false 11 bod__law_rules.1
theorem ok__law_rules (T : Tb G mg f fd em pr mc dT) : FnOk P w G.K mg base CX0 4 (f 13) (fd 13) ["_law_box_here", "_law_most"] (spF G r__law_rules) :=
  fn_ok (rm := false) T.F__law_rules sc__law_rules fun cdv A outer s H E hr => bod__law_rules.2 T cdv A outer s H E hr
def bod_text_of_rules : { b : Mi.Env → Store → Res (Fw × Mi.Env) // ∀ {P : Program} {w : World} {base : Heap} {G : Gm} {mg : Str → Option Value} {f : Nat → Addr} {fd : Nat → FuncData} {em : Nat → Addr} {pr : Addr} {mc : Value} {dT : Nat → Addr}, Tb G mg f fd em pr mc dT → ∀ (cdv : Value) (A : Around) (outer : List PySem.Env) (s : Shared) (H : Hp) (E : XK), Room 0 (A.deeper (envOfC "text_of_rules" (defScope s_text_of_rules) s.heap.objs.size (f 14) cdv)) →
    PSs (cxOf CX0 P w G.K mg base ["rules", "found", "at", "rule"] "text_of_rules" (defScope s_text_of_rules) (f 14) cdv A outer s H E).nox (defBody s_text_of_rules) (tS G E0 b) } :=
  ⟨_, fun {P} {w} {base} {G} {mg} {f} {fd} {em} {pr} {mc} {dT} T cdv A outer s H E hr => by
    have cx : CxR (cxOf CX0 P w G.K mg base ["rules", "found", "at", "rule"] "text_of_rules" (defScope s_text_of_rules) (f 14) cdv A outer s H E).nox G 0 := ⟨rfl, hr, rfl⟩
    exact (ss_cons (s_set (i := 1) sc_text_of_rules.nd rfl (by first | exact .inl rfl | exact .inr rfl) (by first | exact .inr rfl | exact .inl rfl) g_str (by rfl))
      (ss_cons (s_for PassesOwn.never cx.calm (si_enum cx (by rfl) T.z_enumerate (by rfl) (sa_cons (by rfl) (gv 0) sa_nil)) (sg_tup cx (by rfl) (by rfl) (sgs_cons (by rfl) (sg_name (i := 2) sc_text_of_rules.nd rfl (by first | exact .inl rfl | exact .inr rfl) (by first | exact .inr rfl | exact .inl rfl)) (sgs_cons (by rfl) (sg_name (i := 3) sc_text_of_rules.nd rfl (by first | exact .inl rfl | exact .inr rfl) (by first | exact .inr rfl | exact .inl rfl)) sgs_nil))) (ss_cons (s_set (i := 1) sc_text_of_rules.nd rfl (by first | exact .inl rfl | exact .inr rfl) (by first | exact .inr rfl | exact .inl rfl) (se_ite (st_cmp cx (gv 2) g_int (by first | exact nomark _ | rfl)) (se_attr (ok := okA) (fun c h => okA_ok T h) (gv 3) (by rfl)) (se_joined (.cons (se_fmt (gv 1)) (.cons g_str (.cons (se_fmt (se_attr (ok := okA) (fun c h => okA_ok T h) (gv 3) (by rfl))) .nil))))) (by rfl))
      ss_nil) (fun _ => rfl))
      (ss_cons (s_ret (gv 1))
      ss_nil)))⟩
def r_text_of_rules : List Val → Store → Res Val := callV 1 false 4 bod_text_of_rules.1
theorem ok_text_of_rules (T : Tb G mg f fd em pr mc dT) : FnOk P w G.K mg base CX0 1 (f 14) (fd 14) ["rules"] (spF G r_text_of_rules) :=
  fn_ok (rm := false) T.F_text_of_rules sc_text_of_rules fun cdv A outer s H E hr => bod_text_of_rules.2 T cdv A outer s H E hr
def bod_is_sequence : { b : Mi.Env → Store → Res (Fw × Mi.Env) // ∀ {P : Program} {w : World} {base : Heap} {G : Gm} {mg : Str → Option Value} {f : Nat → Addr} {fd : Nat → FuncData} {em : Nat → Addr} {pr : Addr} {mc : Value} {dT : Nat → Addr}, Tb G mg f fd em pr mc dT → ∀ (cdv : Value) (A : Around) (outer : List PySem.Env) (s : Shared) (H : Hp) (E : XK), Room 0 (A.deeper (envOfC "is_sequence" (defScope s_is_sequence) s.heap.objs.size (f 15) cdv)) →
    PSs (cxOf CX0 P w G.K mg base ["value"] "is_sequence" (defScope s_is_sequence) (f 15) cdv A outer s H E).nox (defBody s_is_sequence) (tS G E0 b) } :=
  ⟨_, fun {P} {w} {base} {G} {mg} {f} {fd} {em} {pr} {mc} {dT} T cdv A outer s H E hr => by
    have cx : CxR (cxOf CX0 P w G.K mg base ["value"] "is_sequence" (defScope s_is_sequence) (f 15) cdv A outer s H E).nox G 0 := ⟨rfl, hr, rfl⟩
    exact (ss_cons (s_ret (se_isiT (oc := oc_t) (tb := isi_list_tuple) cx T.ci (by rfl) T.z_isinstance (gv 0) (pe_bltn (v := .ty "list") (by rfl) T.z_list (by decide +kernel) rfl (by decide) (by decide)) (pe_bltn (v := .ty "tuple") (by rfl) T.z_tuple (by decide +kernel) rfl (by decide) (by decide)) (.ty "list") (.ty "tuple") (isi_list_tuple_ok T) (by rfl) (by rfl) (by rfl)))
      ss_nil)⟩
def r_is_sequence : List Val → Store → Res Val := callV 1 false 1 bod_is_sequence.1
theorem ok_is_sequence (T : Tb G mg f fd em pr mc dT) : FnOk P w G.K mg base CX0 1 (f 15) (fd 15) ["value"] (spF G r_is_sequence) :=
  fn_ok (rm := false) T.F_is_sequence sc_is_sequence fun cdv A outer s H E hr => bod_is_sequence.2 T cdv A outer s H E hr
def bod_RoomX_initX : { b : Mi.Env → Store → Res (Fw × Mi.Env) // ∀ {P : Program} {w : World} {base : Heap} {G : Gm} {mg : Str → Option Value} {f : Nat → Addr} {fd : Nat → FuncData} {em : Nat → Addr} {pr : Addr} {mc : Value} {dT : Nat → Addr}, Tb G mg f fd em pr mc dT → ∀ (cdv : Value) (A : Around) (outer : List PySem.Env) (s : Shared) (H : Hp) (E : XK), Room 1 (A.deeper (envOfC "Room.__init__" (defScope s_RoomX_initX) s.heap.objs.size (f 16) cdv)) →
    PSs (cxOf CX0 P w G.K mg base ["self", "rules", "at", "rule", "name"] "Room.__init__" (defScope s_RoomX_initX) (f 16) cdv A outer s H E).nox (defBody s_RoomX_initX) (tS G E0 b) } :=
  ⟨_, fun {P} {w} {base} {G} {mg} {f} {fd} {em} {pr} {mc} {dT} T cdv A outer s H E hr => by
    have cx : CxR (cxOf CX0 P w G.K mg base ["self", "rules", "at", "rule", "name"] "Room.__init__" (defScope s_RoomX_initX) (f 16) cdv A outer s H E).nox G 1 := ⟨rfl, hr, rfl⟩
    exact (ss_cons (s_if (st_not (st_val cx (se_call (ok_is_sequence T) (cx.room.mono (by decide)) (by rfl) T.g_is_sequence T.F_is_sequence.kp T.b_is_sequence .nil (fun _ _ _ => RepL.nil) (sa_cons (by rfl) (gv 1) sa_nil) (by rfl) (by rfl) (by decide)) (fun _ => rfl))) (ss_cons s_never
      ss_nil) ss_nil)
      (ss_cons (s_for PassesOwn.never cx.calm (si_enum cx (by rfl) T.z_enumerate (by rfl) (sa_cons (by rfl) (gv 1) sa_nil)) (sg_tup cx (by rfl) (by rfl) (sgs_cons (by rfl) (sg_name (i := 2) sc_RoomX_initX.nd rfl (by first | exact .inl rfl | exact .inr rfl) (by first | exact .inr rfl | exact .inl rfl)) (sgs_cons (by rfl) (sg_name (i := 3) sc_RoomX_initX.nd rfl (by first | exact .inl rfl | exact .inr rfl) (by first | exact .inr rfl | exact .inl rfl)) sgs_nil))) (ss_cons (s_if (st_not (st_val cx (se_isi (oc := oc_t) (tb := isi_Rule) cx T.ci (by rfl) T.z_isinstance (gv 3) (pe_glob (v := .ref (G.cad 0)) (by rfl) T.gc_Rule rfl (by decide)) (.own _) (isi_Rule_ok T) (by rfl) (by rfl)) (fun _ => rfl))) (ss_cons s_never
      ss_nil) ss_nil)
      ss_nil) (fun _ => rfl))
      (ss_cons (s_attr (ok := okA) (fun c h => okA_ok T h) (gv 0) (se_callTy (tuple_ok cx) (by rfl) T.z_tuple (by decide +kernel) (sa_cons (by rfl) (gv 1) sa_nil) (by decide) (by decide) (by rfl) (by rfl)))
      (ss_cons (s_attr (ok := okA) (fun c h => okA_ok T h) (gv 0) (se_call (ok_lot_of T) (cx.room.mono (by decide)) (by rfl) T.g_lot_of T.F_lot_of.kp T.b_lot_of .nil (fun _ _ _ => RepL.nil) (sa_cons (by rfl) (se_lc2 (mt := false) (own := [("rule", 3), ("name", 4)]) (own1 := [4]) cx.calm sc_RoomX_initX.nd (si_val cx (se_attr (ok := okA) (fun c h => okA_ok T h) (gv 0) (by rfl))) (blkOk_by (by rfl)) (by decide) (by decide) (by decide) (fun _ _ _ _ _ => (sg_name (i := 3) sc_RoomX_initX.nd rfl (by first | exact .inl rfl | exact .inr rfl) (by first | exact .inr rfl | exact .inl rfl))) (fun _ _ _ _ _ => sts_nil) (fun _ _ _ _ _ => (si_val cx.blk (se_tup (sa_cons (by rfl) (se_attr (ok := okA) (fun c h => okA_ok T h) (gv 3) (by rfl)) (sa_star cx.blk (se_attr (ok := okA) (fun c h => okA_ok T h) (gv 3) (by rfl)) sa_nil))))) (fun _ _ _ _ _ => (sg_name (i := 4) sc_RoomX_initX.nd rfl (by first | exact .inl rfl | exact .inr rfl) (by first | exact .inr rfl | exact .inl rfl))) (fun _ _ _ _ _ => sts_nil) (fun _ _ _ _ _ => (gv 4)) (fun _ => rfl) (fun _ _ => rfl)) sa_nil) (by rfl) (by rfl) (by decide)))
      (ss_cons (s_attr (ok := okA) (fun c h => okA_ok T h) (gv 0) (se_call (ok_text_of_rules T) (cx.room.mono (by decide)) (by rfl) T.g_text_of_rules T.F_text_of_rules.kp T.b_text_of_rules .nil (fun _ _ _ => RepL.nil) (sa_cons (by rfl) (se_attr (ok := okA) (fun c h => okA_ok T h) (gv 0) (by rfl)) sa_nil) (by rfl) (by rfl) (by decide)))
      ss_nil)))))⟩
def r_RoomX_initX : List Val → Store → Res Val := callV 2 false 5 bod_RoomX_initX.1
theorem ok_RoomX_initX (T : Tb G mg f fd em pr mc dT) : FnOk P w G.K mg base CX0 2 (f 16) (fd 16) ["self", "rules"] (spF G r_RoomX_initX) :=
  fn_ok (rm := false) T.F_RoomX_initX sc_RoomX_initX fun cdv A outer s H E hr => bod_RoomX_initX.2 T cdv A outer s H E hr
def bod_text_of : { b : Mi.Env → Store → Res (Fw × Mi.Env) // ∀ {P : Program} {w : World} {base : Heap} {G : Gm} {mg : Str → Option Value} {f : Nat → Addr} {fd : Nat → FuncData} {em : Nat → Addr} {pr : Addr} {mc : Value} {dT : Nat → Addr}, Tb G mg f fd em pr mc dT → ∀ (cdv : Value) (A : Around) (outer : List PySem.Env) (s : Shared) (H : Hp) (E : XK), Room 0 (A.deeper (envOfC "text_of" (defScope s_text_of) s.heap.objs.size (f 17) cdv)) →
    PSs (cxOf CX0 P w G.K mg base ["name", "gone"] "text_of" (defScope s_text_of) (f 17) cdv A outer s H E).nox (defBody s_text_of) (tS G E0 b) } :=
  ⟨_, fun {P} {w} {base} {G} {mg} {f} {fd} {em} {pr} {mc} {dT} T cdv A outer s H E hr => by
    have cx : CxR (cxOf CX0 P w G.K mg base ["name", "gone"] "text_of" (defScope s_text_of) (f 17) cdv A outer s H E).nox G 0 := ⟨rfl, hr, rfl⟩
    exact (ss_cons (s_ret (se_ite (st_cmp cx (se_callB (len_ok cx) (by rfl) T.z_len (by decide +kernel) (sa_cons (by rfl) (gv 1) sa_nil) (by decide) (by decide) (by rfl) (by rfl)) g_int (by first | exact nomark _ | rfl)) (gv 0) (se_joined (.cons (se_fmt (gv 0)) (.cons g_str (.cons (se_fmt (se_bm cx PySem.F.plainAttrs_str PySem.F.slot_str_join PySem.F.type_str_join (join_ok cx) g_str (sa_cons (by rfl) (gv 1) sa_nil) (by rfl) (by rfl) (by rfl) (by decide) (by rfl))) .nil))))))
      ss_nil)⟩
def r_text_of : List Val → Store → Res Val := callV 2 false 2 bod_text_of.1
theorem ok_text_of (T : Tb G mg f fd em pr mc dT) : FnOk P w G.K mg base CX0 1 (f 17) (fd 17) ["name", "gone"] (spF G r_text_of) :=
  fn_ok (rm := false) T.F_text_of sc_text_of fun cdv A outer s H E hr => bod_text_of.2 T cdv A outer s H E hr
def bod_RuleX_initX : { b : Mi.Env → Store → Res (Fw × Mi.Env) // ∀ {P : Program} {w : World} {base : Heap} {G : Gm} {mg : Str → Option Value} {f : Nat → Addr} {fd : Nat → FuncData} {em : Nat → Addr} {pr : Addr} {mc : Value} {dT : Nat → Addr}, Tb G mg f fd em pr mc dT → ∀ (cdv : Value) (A : Around) (outer : List PySem.Env) (s : Shared) (H : Hp) (E : XK), Room 1 (A.deeper (envOfC "Rule.__init__" (defScope s_RuleX_initX) s.heap.objs.size (f 18) cdv)) →
    PSs (cxOf CX0 P w G.K mg base ["self", "name", "gone", "one"] "Rule.__init__" (defScope s_RuleX_initX) (f 18) cdv A outer s H E).nox (defBody s_RuleX_initX) (tS G E0 b) } :=
  ⟨_, fun {P} {w} {base} {G} {mg} {f} {fd} {em} {pr} {mc} {dT} T cdv A outer s H E hr => by
    have cx : CxR (cxOf CX0 P w G.K mg base ["self", "name", "gone", "one"] "Rule.__init__" (defScope s_RuleX_initX) (f 18) cdv A outer s H E).nox G 1 := ⟨rfl, hr, rfl⟩
    exact (ss_cons (s_if (st_not (st_val cx (se_call (ok_is_name T) (cx.room.mono (by decide)) (by rfl) T.g_is_name T.F_is_name.kp T.b_is_name .nil (fun _ _ _ => RepL.nil) (sa_cons (by rfl) (gv 1) sa_nil) (by rfl) (by rfl) (by decide)) (fun _ => rfl))) (ss_cons s_never
      ss_nil) ss_nil)
      (ss_cons (s_if (PW.pt (sw_or (st_not (st_val cx (se_call (ok_is_sequence T) (cx.room.mono (by decide)) (by rfl) T.g_is_sequence T.F_is_sequence.kp T.b_is_sequence .nil (fun _ _ _ => RepL.nil) (sa_cons (by rfl) (gv 2) sa_nil) (by rfl) (by rfl) (by decide)) (fun _ => rfl))) (sw_one (st_not (st_val cx (se_callB (all_ok cx) (by rfl) T.z_all (by decide +kernel) (sa_cons (by rfl) (se_lc (mt := false) (own := [("one", 3)]) cx.calm sc_RuleX_initX.nd (si_val cx (gv 2)) (blkOk_by (by rfl)) (by decide) (fun _ _ _ _ _ => (sg_name (i := 3) sc_RuleX_initX.nd rfl (by first | exact .inl rfl | exact .inr rfl) (by first | exact .inr rfl | exact .inl rfl))) (fun _ _ _ _ _ => sts_nil) (fun _ _ _ _ _ => (se_and cx.blk (se_call (ok_is_name T) (cx.room.mono (by decide)) (by rfl) T.g_is_name T.F_is_name.kp T.b_is_name .nil (fun _ _ _ => RepL.nil) (sa_cons (by rfl) (gv 3) sa_nil) (by rfl) (by rfl) (by decide)) (pe_one (se_cmp (op_cmp cx.blk) (gv 3) (gv 1) (by first | exact nomark _ | rfl))))) (fun _ => rfl)) sa_nil) (by decide) (by decide) (by rfl) (by rfl)) (fun _ => rfl)))))) (ss_cons s_never
      ss_nil) ss_nil)
      (ss_cons (s_attr (ok := okA) (fun c h => okA_ok T h) (gv 0) (gv 1))
      (ss_cons (s_attr (ok := okA) (fun c h => okA_ok T h) (gv 0) (se_call (ok_lot_of T) (cx.room.mono (by decide)) (by rfl) T.g_lot_of T.F_lot_of.kp T.b_lot_of .nil (fun _ _ _ => RepL.nil) (sa_cons (by rfl) (gv 2) sa_nil) (by rfl) (by rfl) (by decide)))
      (ss_cons (s_attr (ok := okA) (fun c h => okA_ok T h) (gv 0) (se_call (ok_text_of T) (cx.room.mono (by decide)) (by rfl) T.g_text_of T.F_text_of.kp T.b_text_of .nil (fun _ _ _ => RepL.nil) (sa_cons (by rfl) (gv 1) (sa_cons (by rfl) (se_attr (ok := okA) (fun c h => okA_ok T h) (gv 0) (by rfl)) sa_nil)) (by rfl) (by rfl) (by decide)))
      ss_nil)))))⟩
def r_RuleX_initX : List Val → Store → Res Val := callV 3 false 4 bod_RuleX_initX.1
theorem ok_RuleX_initX (T : Tb G mg f fd em pr mc dT) : FnOk P w G.K mg base CX0 2 (f 18) (fd 18) ["self", "name", "gone"] (spF G r_RuleX_initX) :=
  fn_ok (rm := false) T.F_RuleX_initX sc_RuleX_initX fun cdv A outer s H E hr => bod_RuleX_initX.2 T cdv A outer s H E hr
def bod__law_made : { b : Mi.Env → Store → Res (Fw × Mi.Env) // ∀ {P : Program} {w : World} {base : Heap} {G : Gm} {mg : Str → Option Value} {f : Nat → Addr} {fd : Nat → FuncData} {em : Nat → Addr} {pr : Addr} {mc : Value} {dT : Nat → Addr}, Tb G mg f fd em pr mc dT → ∀ (cdv : Value) (A : Around) (outer : List PySem.Env) (s : Shared) (H : Hp) (E : XK), Room 3 (A.deeper (envOfC "_law_made" (defScope s__law_made) s.heap.objs.size (f 19) cdv)) →
    PSs (cxOf CX0 P w G.K mg base ["_law_rules_here", "_law_name", "_law_wants"] "_law_made" (defScope s__law_made) (f 19) cdv A outer s H E).nox (defBody s__law_made) (tS G E0 b) } :=
  ⟨_, fun {P} {w} {base} {G} {mg} {f} {fd} {em} {pr} {mc} {dT} T cdv A outer s H E hr => by
    have cx : CxR (cxOf CX0 P w G.K mg base ["_law_rules_here", "_law_name", "_law_wants"] "_law_made" (defScope s__law_made) (f 19) cdv A outer s H E).nox G 3 := ⟨rfl, hr, rfl⟩
    exact (ss_cons (s_ret (se_make (frz := true) (c := 1) T.mk_Room (ok_RoomX_initX T) (cx.room.mono (by decide)) (by rfl) T.gc_Room T.b_RoomX_initX .nil (fun _ _ _ => RepL.nil) (sa_cons (by rfl) (se_lc (mt := false) (own := [("_law_name", 1), ("_law_wants", 2)]) cx.calm sc__law_made.nd (si_val cx (gv 0)) (blkOk_by (by rfl)) (by decide) (fun _ _ _ _ _ => (sg_tup cx.blk (by rfl) (by rfl) (sgs_cons (by rfl) (sg_name (i := 1) sc__law_made.nd rfl (by first | exact .inl rfl | exact .inr rfl) (by first | exact .inr rfl | exact .inl rfl)) (sgs_cons (by rfl) (sg_name (i := 2) sc__law_made.nd rfl (by first | exact .inl rfl | exact .inr rfl) (by first | exact .inr rfl | exact .inl rfl)) sgs_nil)))) (fun _ _ _ _ _ => sts_nil) (fun _ _ _ _ _ => (se_make (frz := true) (c := 0) T.mk_Rule (ok_RuleX_initX T) (cx.room.mono (by decide)) (by rfl) T.gc_Rule T.b_RuleX_initX .nil (fun _ _ _ => RepL.nil) (sa_cons (by rfl) (gv 1) (sa_cons (by rfl) (gv 2) sa_nil)) (by rfl) (by rfl) (by decide))) (fun _ => rfl)) sa_nil) (by rfl) (by rfl) (by decide)))
      ss_nil)⟩
def r__law_made : List Val → Store → Res Val := callV 1 false 3 bod__law_made.1
theorem ok__law_made (T : Tb G mg f fd em pr mc dT) : FnOk P w G.K mg base CX0 4 (f 19) (fd 19) ["_law_rules_here"] (spF G r__law_made) :=
  fn_ok (rm := false) T.F__law_made sc__law_made fun cdv A outer s H E hr => bod__law_made.2 T cdv A outer s H E hr
def bod__law_lot : { b : Mi.Env → Store → Res (Fw × Mi.Env) // ∀ {P : Program} {w : World} {base : Heap} {G : Gm} {mg : Str → Option Value} {f : Nat → Addr} {fd : Nat → FuncData} {em : Nat → Addr} {pr : Addr} {mc : Value} {dT : Nat → Addr}, Tb G mg f fd em pr mc dT → ∀ (cdv : Value) (A : Around) (outer : List PySem.Env) (s : Shared) (H : Hp) (E : XK), Room 0 (A.deeper (envOfC "_law_lot" (defScope s__law_lot) s.heap.objs.size (f 20) cdv)) →
    PSs (cxOf CX0 P w G.K mg base ["_law_some", "_law_found", "_law_name", "_law_one"] "_law_lot" (defScope s__law_lot) (f 20) cdv A outer s H E).nox (defBody s__law_lot) (tS G E0 b) } :=
  ⟨_, fun {P} {w} {base} {G} {mg} {f} {fd} {em} {pr} {mc} {dT} T cdv A outer s H E hr => by
    have cx : CxR (cxOf CX0 P w G.K mg base ["_law_some", "_law_found", "_law_name", "_law_one"] "_law_lot" (defScope s__law_lot) (f 20) cdv A outer s H E).nox G 0 := ⟨rfl, hr, rfl⟩
    exact (ss_cons (s_set (i := 1) sc__law_lot.nd rfl (by first | exact .inl rfl | exact .inr rfl) (by first | exact .inr rfl | exact .inl rfl) (se_lst (mt := true) sa_nil) (by rfl))
      (ss_cons (s_for PassesOwn.never cx.calm (si_val cx (se_callB (sortA_ok (mt := false) cx) (by rfl) T.z_sorted (by decide +kernel) (sa_cons (by rfl) (se_lc (mt := false) (own := [("_law_one", 3)]) cx.calm sc__law_lot.nd (si_val cx (gv 0)) (blkOk_by (by rfl)) (by decide) (fun _ _ _ _ _ => (sg_name (i := 3) sc__law_lot.nd rfl (by first | exact .inl rfl | exact .inr rfl) (by first | exact .inr rfl | exact .inl rfl))) (fun _ _ _ _ _ => sts_nil) (fun _ _ _ _ _ => (se_callTy str_ok (by rfl) T.z_str (by decide +kernel) (sa_cons (by rfl) (gv 3) sa_nil) (by decide) (by decide) (by rfl) (by rfl))) (fun _ => rfl)) sa_nil) (by decide) (by decide) (by rfl) (by rfl))) (sg_name (i := 2) sc__law_lot.nd rfl (by first | exact .inl rfl | exact .inr rfl) (by first | exact .inr rfl | exact .inl rfl)) (ss_cons (s_if (PW.pt (sw_or (st_cmp cx (gv 1) (se_lst (mt := false) sa_nil) (by first | exact nomark _ | rfl)) (sw_one (st_cmp cx (se_idx cx (gv 1) (se_neg g_int) (by rfl)) (gv 2) (by first | exact nomark _ | rfl))))) (ss_cons (s_expr (se_bm cx PySem.F.plainAttrs_list PySem.F.slot_list_append PySem.F.type_list_append append_ok (gv 1) (sa_cons (by rfl) (gv 2) sa_nil) (by rfl) (by rfl) (by rfl) (by decide) (by rfl)) (by rfl))
      ss_nil) ss_nil)
      ss_nil) (fun _ => rfl))
      (ss_cons (s_ret (se_callTy (tuple_ok cx) (by rfl) T.z_tuple (by decide +kernel) (sa_cons (by rfl) (gv 1) sa_nil) (by decide) (by decide) (by rfl) (by rfl)))
      ss_nil)))⟩
def r__law_lot : List Val → Store → Res Val := callV 1 false 4 bod__law_lot.1
theorem ok__law_lot (T : Tb G mg f fd em pr mc dT) : FnOk P w G.K mg base CX0 1 (f 20) (fd 20) ["_law_some"] (spF G r__law_lot) :=
  fn_ok (rm := false) T.F__law_lot sc__law_lot fun cdv A outer s H E hr => bod__law_lot.2 T cdv A outer s H E hr
def bod__law_may : { b : Mi.Env → Store → Res (Fw × Mi.Env) // ∀ {P : Program} {w : World} {base : Heap} {G : Gm} {mg : Str → Option Value} {f : Nat → Addr} {fd : Nat → FuncData} {em : Nat → Addr} {pr : Addr} {mc : Value} {dT : Nat → Addr}, Tb G mg f fd em pr mc dT → ∀ (cdv : Value) (A : Around) (outer : List PySem.Env) (s : Shared) (H : Hp) (E : XK), Room 1 (A.deeper (envOfC "_law_may" (defScope s__law_may) s.heap.objs.size (f 21) cdv)) →
    PSs (cxOf CX0 P w G.K mg base ["_law_rules_here", "_law_gone", "_law_found", "_law_name", "_law_wants", "_law_one"] "_law_may" (defScope s__law_may) (f 21) cdv A outer s H E).nox (defBody s__law_may) (tS G E0 b) } :=
  ⟨_, fun {P} {w} {base} {G} {mg} {f} {fd} {em} {pr} {mc} {dT} T cdv A outer s H E hr => by
    have cx : CxR (cxOf CX0 P w G.K mg base ["_law_rules_here", "_law_gone", "_law_found", "_law_name", "_law_wants", "_law_one"] "_law_may" (defScope s__law_may) (f 21) cdv A outer s H E).nox G 1 := ⟨rfl, hr, rfl⟩
    exact (ss_cons (s_set (i := 2) sc__law_may.nd rfl (by first | exact .inl rfl | exact .inr rfl) (by first | exact .inr rfl | exact .inl rfl) (se_lst (mt := true) sa_nil) (by rfl))
      (ss_cons (s_for PassesOwn.never cx.calm (si_val cx (gv 0)) (sg_tup cx (by rfl) (by rfl) (sgs_cons (by rfl) (sg_name (i := 3) sc__law_may.nd rfl (by first | exact .inl rfl | exact .inr rfl) (by first | exact .inr rfl | exact .inl rfl)) (sgs_cons (by rfl) (sg_name (i := 4) sc__law_may.nd rfl (by first | exact .inl rfl | exact .inr rfl) (by first | exact .inr rfl | exact .inl rfl)) sgs_nil))) (ss_cons (s_if (PW.pt (sw_and (st_cmp cx (gv 3) (gv 1) (by first | exact nomark _ | rfl)) (sw_one (st_cmp cx (se_lc (mt := false) (own := [("_law_one", 5)]) cx.calm sc__law_may.nd (si_val cx (gv 4)) (blkOk_by (by rfl)) (by decide) (fun _ _ _ _ _ => (sg_name (i := 5) sc__law_may.nd rfl (by first | exact .inl rfl | exact .inr rfl) (by first | exact .inr rfl | exact .inl rfl))) (fun _ _ _ _ _ => (sts_one (st_cmp cx.blk (gv 5) (gv 1) (by first | exact nomark _ | rfl)))) (fun _ _ _ _ _ => (gv 5)) (fun _ => rfl)) (se_lst (mt := false) sa_nil) (by first | exact nomark _ | rfl))))) (ss_cons (s_expr (se_bm cx PySem.F.plainAttrs_list PySem.F.slot_list_append PySem.F.type_list_append append_ok (gv 2) (sa_cons (by rfl) (gv 3) sa_nil) (by rfl) (by rfl) (by rfl) (by decide) (by rfl)) (by rfl))
      ss_nil) ss_nil)
      ss_nil) (fun _ => rfl))
      (ss_cons (s_ret (se_call (ok__law_lot T) (cx.room.mono (by decide)) (by rfl) T.g__law_lot T.F__law_lot.kp T.b__law_lot .nil (fun _ _ _ => RepL.nil) (sa_cons (by rfl) (gv 2) sa_nil) (by rfl) (by rfl) (by decide)))
      ss_nil)))⟩
def r__law_may : List Val → Store → Res Val := callV 2 false 6 bod__law_may.1
theorem ok__law_may (T : Tb G mg f fd em pr mc dT) : FnOk P w G.K mg base CX0 2 (f 21) (fd 21) ["_law_rules_here", "_law_gone"] (spF G r__law_may) :=
  fn_ok (rm := false) T.F__law_may sc__law_may fun cdv A outer s H E hr => bod__law_may.2 T cdv A outer s H E hr
def bod__law_lots : { b : Mi.Env → Store → Res (Fw × Mi.Env) // ∀ {P : Program} {w : World} {base : Heap} {G : Gm} {mg : Str → Option Value} {f : Nat → Addr} {fd : Nat → FuncData} {em : Nat → Addr} {pr : Addr} {mc : Value} {dT : Nat → Addr}, Tb G mg f fd em pr mc dT → ∀ (cdv : Value) (A : Around) (outer : List PySem.Env) (s : Shared) (H : Hp) (E : XK), Room 2 (A.deeper (envOfC "_law_lots" (defScope s__law_lots) s.heap.objs.size (f 22) cdv)) →
    PSs (cxOf CX0 P w G.K mg base ["_law_rules_here", "_law_found", "_law_at", "_law_name", "_law_later"] "_law_lots" (defScope s__law_lots) (f 22) cdv A outer s H E).nox (defBody s__law_lots) (tS G E0 b) } :=
  ⟨_, fun {P} {w} {base} {G} {mg} {f} {fd} {em} {pr} {mc} {dT} T cdv A outer s H E hr => by
    have cx : CxR (cxOf CX0 P w G.K mg base ["_law_rules_here", "_law_found", "_law_at", "_law_name", "_law_later"] "_law_lots" (defScope s__law_lots) (f 22) cdv A outer s H E).nox G 2 := ⟨rfl, hr, rfl⟩
    exact (ss_cons (by first | exact (s_par (i := 1) (j := 2) cx.calm sc__law_lots.nd rfl rfl (by decide) rfl rfl (sa_cons (by rfl) (se_lst (mt := true) (sa_cons (by rfl) (se_tup sa_nil) sa_nil)) (sa_cons (by rfl) g_int sa_nil)) rfl) | exact (s_tup (by rfl) (se_tup (sa_cons (by rfl) (se_lst (mt := true) (sa_cons (by rfl) (se_tup sa_nil) sa_nil)) (sa_cons (by rfl) g_int sa_nil))) (sg_tup cx (by rfl) (by rfl) (sgs_cons (by rfl) (sg_name (i := 1) sc__law_lots.nd rfl (by first | exact .inl rfl | exact .inr rfl) (by first | exact .inr rfl | exact .inl rfl)) (sgs_cons (by rfl) (sg_name (i := 2) sc__law_lots.nd rfl (by first | exact .inl rfl | exact .inr rfl) (by first | exact .inr rfl | exact .inl rfl)) sgs_nil))) (by rfl) (by rfl)))
      (ss_cons (s_while PassesOwn.never (st_cmp cx (gv 2) (se_callB (len_ok cx) (by rfl) T.z_len (by decide +kernel) (sa_cons (by rfl) (gv 1) sa_nil) (by decide) (by decide) (by rfl) (by rfl)) (by first | exact nomark _ | rfl)) (ss_cons (s_for PassesOwn.never cx.calm (si_val cx (se_call (ok__law_may T) (cx.room.mono (by decide)) (by rfl) T.g__law_may T.F__law_may.kp T.b__law_may .nil (fun _ _ _ => RepL.nil) (sa_cons (by rfl) (gv 0) (sa_cons (by rfl) (se_idx cx (gv 1) (gv 2) (by rfl)) sa_nil)) (by rfl) (by rfl) (by decide))) (sg_name (i := 3) sc__law_lots.nd rfl (by first | exact .inl rfl | exact .inr rfl) (by first | exact .inr rfl | exact .inl rfl)) (ss_cons (s_set (i := 4) sc__law_lots.nd rfl (by first | exact .inl rfl | exact .inr rfl) (by first | exact .inr rfl | exact .inl rfl) (se_call (ok__law_lot T) (cx.room.mono (by decide)) (by rfl) T.g__law_lot T.F__law_lot.kp T.b__law_lot .nil (fun _ _ _ => RepL.nil) (sa_cons (by rfl) (pe_bin (op_bin (mt := false) cx) (se_callTy (list_ok (mt := false) cx) (by rfl) T.z_list (by decide +kernel) (sa_cons (by rfl) (se_idx cx (gv 1) (gv 2) (by rfl)) sa_nil) (by decide) (by decide) (by rfl) (by rfl)) (se_lst (mt := false) (sa_cons (by rfl) (gv 3) sa_nil))) sa_nil) (by rfl) (by rfl) (by decide)) (by rfl))
      (ss_cons (s_if (st_cmp cx (gv 4) (gv 1) (by first | exact nomark _ | rfl)) (ss_cons (s_expr (se_bm cx PySem.F.plainAttrs_list PySem.F.slot_list_append PySem.F.type_list_append append_ok (gv 1) (sa_cons (by rfl) (gv 4) sa_nil) (by rfl) (by rfl) (by rfl) (by decide) (by rfl)) (by rfl))
      ss_nil) ss_nil)
      ss_nil)) (fun _ => rfl))
      (ss_cons (s_set (i := 2) sc__law_lots.nd rfl (by first | exact .inl rfl | exact .inr rfl) (by first | exact .inr rfl | exact .inl rfl) (pe_bin (op_bin (mt := false) cx) (gv 2) g_int) (by rfl))
      ss_nil)) lim)
      (ss_cons (s_ret (gv 1))
      ss_nil)))⟩
def r__law_lots : List Val → Store → Res Val := callV 1 false 5 bod__law_lots.1
theorem ok__law_lots (T : Tb G mg f fd em pr mc dT) : FnOk P w G.K mg base CX0 3 (f 22) (fd 22) ["_law_rules_here"] (spF G r__law_lots) :=
  fn_ok (rm := false) T.F__law_lots sc__law_lots fun cdv A outer s H E hr => bod__law_lots.2 T cdv A outer s H E hr
def bod__law_people : { b : Mi.Env → Store → Res (Fw × Mi.Env) // ∀ {P : Program} {w : World} {base : Heap} {G : Gm} {mg : Str → Option Value} {f : Nat → Addr} {fd : Nat → FuncData} {em : Nat → Addr} {pr : Addr} {mc : Value} {dT : Nat → Addr}, Tb G mg f fd em pr mc dT → ∀ (cdv : Value) (A : Around) (outer : List PySem.Env) (s : Shared) (H : Hp) (E : XK), Room 1 (A.deeper (envOfC "_law_people" (defScope s__law_people) s.heap.objs.size (f 23) cdv)) →
    PSs (cxOf CX0 P w G.K mg base ["_law_rules_here", "_law_found", "_law_name", "_law_wants"] "_law_people" (defScope s__law_people) (f 23) cdv A outer s H E).nox (defBody s__law_people) (tS G E0 b) } :=
  ⟨_, fun {P} {w} {base} {G} {mg} {f} {fd} {em} {pr} {mc} {dT} T cdv A outer s H E hr => by
    have cx : CxR (cxOf CX0 P w G.K mg base ["_law_rules_here", "_law_found", "_law_name", "_law_wants"] "_law_people" (defScope s__law_people) (f 23) cdv A outer s H E).nox G 1 := ⟨rfl, hr, rfl⟩
    exact (ss_cons (s_set (i := 1) sc__law_people.nd rfl (by first | exact .inl rfl | exact .inr rfl) (by first | exact .inr rfl | exact .inl rfl) (se_lst (mt := true) sa_nil) (by rfl))
      (ss_cons (s_for PassesOwn.never cx.calm (si_val cx (gv 0)) (sg_tup cx (by rfl) (by rfl) (sgs_cons (by rfl) (sg_name (i := 2) sc__law_people.nd rfl (by first | exact .inl rfl | exact .inr rfl) (by first | exact .inr rfl | exact .inl rfl)) (sgs_cons (by rfl) (sg_name (i := 3) sc__law_people.nd rfl (by first | exact .inl rfl | exact .inr rfl) (by first | exact .inr rfl | exact .inl rfl)) sgs_nil))) (ss_cons (s_expr (se_bm cx PySem.F.plainAttrs_list PySem.F.slot_list_extend PySem.F.type_list_extend extend_ok (gv 1) (sa_cons (by rfl) (pe_bin (op_bin (mt := false) cx) (se_lst (mt := false) (sa_cons (by rfl) (gv 2) sa_nil)) (se_callTy (list_ok (mt := false) cx) (by rfl) T.z_list (by decide +kernel) (sa_cons (by rfl) (gv 3) sa_nil) (by decide) (by decide) (by rfl) (by rfl))) sa_nil) (by rfl) (by rfl) (by rfl) (by decide) (by rfl)) (by rfl))
      ss_nil) (fun _ => rfl))
      (ss_cons (s_ret (se_call (ok__law_lot T) (cx.room.mono (by decide)) (by rfl) T.g__law_lot T.F__law_lot.kp T.b__law_lot .nil (fun _ _ _ => RepL.nil) (sa_cons (by rfl) (gv 1) sa_nil) (by rfl) (by rfl) (by decide)))
      ss_nil)))⟩
def r__law_people : List Val → Store → Res Val := callV 1 false 4 bod__law_people.1
theorem ok__law_people (T : Tb G mg f fd em pr mc dT) : FnOk P w G.K mg base CX0 2 (f 23) (fd 23) ["_law_rules_here"] (spF G r__law_people) :=
  fn_ok (rm := false) T.F__law_people sc__law_people fun cdv A outer s H E hr => bod__law_people.2 T cdv A outer s H E hr
def bod__law_pick : { b : Mi.Env → Store → Res (Fw × Mi.Env) // ∀ {P : Program} {w : World} {base : Heap} {G : Gm} {mg : Str → Option Value} {f : Nat → Addr} {fd : Nat → FuncData} {em : Nat → Addr} {pr : Addr} {mc : Value} {dT : Nat → Addr}, Tb G mg f fd em pr mc dT → ∀ (cdv : Value) (A : Around) (outer : List PySem.Env) (s : Shared) (H : Hp) (E : XK), Room 1 (A.deeper (envOfC "_law_pick" (defScope s__law_pick) s.heap.objs.size (f 24) cdv)) →
    PSs (cxOf CX0 P w G.K mg base ["_law_box_here", "_law_items"] "_law_pick" (defScope s__law_pick) (f 24) cdv A outer s H E).nox (defBody s__law_pick) (tS G E0 b) } :=
  ⟨_, fun {P} {w} {base} {G} {mg} {f} {fd} {em} {pr} {mc} {dT} T cdv A outer s H E hr => by
    have cx : CxR (cxOf CX0 P w G.K mg base ["_law_box_here", "_law_items"] "_law_pick" (defScope s__law_pick) (f 24) cdv A outer s H E).nox G 1 := ⟨rfl, hr, rfl⟩
    exact (ss_cons (s_ret (se_idx cx (gv 1) (se_call (ok__law_take T) (cx.room.mono (by decide)) (by rfl) T.g__law_take T.F__law_take.kp T.b__law_take .nil (fun _ _ _ => RepL.nil) (sa_cons (by rfl) (gv 0) (sa_cons (by rfl) (se_callB (len_ok cx) (by rfl) T.z_len (by decide +kernel) (sa_cons (by rfl) (gv 1) sa_nil) (by decide) (by decide) (by rfl) (by rfl)) sa_nil)) (by rfl) (by rfl) (by decide)) (by rfl)))
      ss_nil)⟩
def r__law_pick : List Val → Store → Res Val := callV 2 false 2 bod__law_pick.1
theorem ok__law_pick (T : Tb G mg f fd em pr mc dT) : FnOk P w G.K mg base CX0 2 (f 24) (fd 24) ["_law_box_here", "_law_items"] (spF G r__law_pick) :=
  fn_ok (rm := false) T.F__law_pick sc__law_pick fun cdv A outer s H E hr => bod__law_pick.2 T cdv A outer s H E hr
def bod__law_heard : { b : Mi.Env → Store → Res (Fw × Mi.Env) // ∀ {P : Program} {w : World} {base : Heap} {G : Gm} {mg : Str → Option Value} {f : Nat → Addr} {fd : Nat → FuncData} {em : Nat → Addr} {pr : Addr} {mc : Value} {dT : Nat → Addr}, Tb G mg f fd em pr mc dT → ∀ (cdv : Value) (A : Around) (outer : List PySem.Env) (s : Shared) (H : Hp) (E : XK), Room 4 (A.deeper (envOfC "_law_heard" (defScope s__law_heard) s.heap.objs.size (f 25) cdv)) →
    PSs (cxOf CX0 P w G.K mg base ["_law_made_here", "_law_staying", "_law_found", "e"] "_law_heard" (defScope s__law_heard) (f 25) cdv A outer s H E).nox (defBody s__law_heard) (tS G E0 b) } :=
  ⟨_, fun {P} {w} {base} {G} {mg} {f} {fd} {em} {pr} {mc} {dT} T cdv A outer s H E hr => by
    have cx : CxR (cxOf CX0 P w G.K mg base ["_law_made_here", "_law_staying", "_law_found", "e"] "_law_heard" (defScope s__law_heard) (f 25) cdv A outer s H E).nox G 4 := ⟨rfl, hr, rfl⟩
    exact (ss_cons (s_set (i := 2) sc__law_heard.nd rfl (by first | exact .inl rfl | exact .inr rfl) (by first | exact .inr rfl | exact .inl rfl) g_non (by rfl))
      (ss_cons (s_tryE (i := 3) (c := 2) rfl rfl sc__law_heard.nd rfl rfl ⟨by rfl, by decide, .inl T.eg_InvalidName⟩ T.ex_InvalidName (fun W pn xe tk => pss_one (s_setS (i := 2) sc__law_heard.nd rfl (by first | exact .inl rfl | exact .inr rfl) (by first | exact .inr rfl | exact .inl rfl) (tc_call tk (okX_hull T) (cx.room.mono (by decide)) (by rfl) T.g_hull T.F_hull.kp T.b_hull (sa_cons (by rfl) (gv 0) (sa_cons (by rfl) (gv 1) sa_nil)) (by rfl) (by rfl) (by decide)) (by rfl))) (fun a dd oe pn hz hf => pss_one (x_set (j := 2) sc__law_heard.nd rfl (by first | exact .inl rfl | exact .inr rfl) (by first | exact .inr rfl | exact .inl rfl) (x_if (PW.pt (x_and (x_isiT (i := 3) (c := 2) (D := G.cad 3) rfl (.inl rfl) T.xc_InvalidName hz hf (by rfl) T.z_isinstance (by rfl) T.eg_LeaveError T.ek_InvalidName_LeaveError (by decide) (by decide) (by decide)) (pw_and1 (x_not (x_isiT (i := 3) (c := 2) (D := G.cad 4) rfl (.inl rfl) T.xc_InvalidName hz hf (by rfl) T.z_isinstance (by rfl) T.eg_InvalidOrder T.ek_InvalidName_InvalidOrder (by decide) (by decide) (by decide)))))) (x_tup2 (PE.toX g_str) (x_fld (i := 3) (c := 2) rfl (.inl rfl) T.xf_InvalidName T.en_InvalidName hz hf (by decide) (by decide)) (by rfl) (by rfl)) (PE.toX g_str)) (by rfl))))
      (ss_cons (s_ret (gv 2))
      ss_nil)))⟩
def r__law_heard : List Val → Store → Res Val := callV 2 false 4 bod__law_heard.1
theorem ok__law_heard (T : Tb G mg f fd em pr mc dT) : FnOk P w G.K mg base CX0 5 (f 25) (fd 25) ["_law_made_here", "_law_staying"] (spF G r__law_heard) :=
  fn_ok (rm := false) T.F__law_heard sc__law_heard fun cdv A outer s H E hr => bod__law_heard.2 T cdv A outer s H E hr
def bod_law : { b : Mi.Env → Store → Res (Fw × Mi.Env) // ∀ {P : Program} {w : World} {base : Heap} {G : Gm} {mg : Str → Option Value} {f : Nat → Addr} {fd : Nat → FuncData} {em : Nat → Addr} {pr : Addr} {mc : Value} {dT : Nat → Addr}, Tb G mg f fd em pr mc dT → ∀ (cdv : Value) (A : Around) (outer : List PySem.Env) (s : Shared) (H : Hp) (E : XK), A.guards = some [] → Room 5 (A.deeper (envOfC "law" (defScope s_law) s.heap.objs.size (f 26) cdv)) →
    PSs (cxOf CX0 P w G.K mg base ["_law_script", "_law_k", "_law_box_here", "_law_turn", "_law_rules_here", "_law_made_here", "_law_every", "_law_people_here", "_law_more", "_law_some", "_law_gone", "_law_lot_here", "_law_due", "_law_handed", "_law_odd", "_law_at", "_law_wrong", "_law_heard_here", "_law_name"] "law" (defScope s_law) (f 26) cdv A outer s H E).nox (defBody s_law) (tS G E0 b) } :=
  ⟨_, fun {P} {w} {base} {G} {mg} {f} {fd} {em} {pr} {mc} {dT} T cdv A outer s H E hgd hr => by
    have cx : CxR (cxOf CX0 P w G.K mg base ["_law_script", "_law_k", "_law_box_here", "_law_turn", "_law_rules_here", "_law_made_here", "_law_every", "_law_people_here", "_law_more", "_law_some", "_law_gone", "_law_lot_here", "_law_due", "_law_handed", "_law_odd", "_law_at", "_law_wrong", "_law_heard_here", "_law_name"] "law" (defScope s_law) (f 26) cdv A outer s H E).nox G 5 := ⟨rfl, hr, rfl⟩
    exact (ss_cons (s_for PassesOwn.never cx.calm (si_rng1 (by rfl) T.z_range (by rfl) (sa_cons (by rfl) (se_callB (max_ok cx) (by rfl) T.z_max (by decide +kernel) (sa_cons (by rfl) g_int (sa_cons (by rfl) (se_callB (min_ok cx) (by rfl) T.z_min (by decide +kernel) (sa_cons (by rfl) g_int (sa_cons (by rfl) (se_callB (len_ok cx) (by rfl) T.z_len (by decide +kernel) (sa_cons (by rfl) (gv 0) sa_nil) (by decide) (by decide) (by rfl) (by rfl)) sa_nil)) (by decide) (by decide) (by rfl) (by rfl)) sa_nil)) (by decide) (by decide) (by rfl) (by rfl)) sa_nil) (rng_len1)) (sg_name (i := 1) sc_law.nd rfl (by first | exact .inl rfl | exact .inr rfl) (by first | exact .inr rfl | exact .inl rfl)) (ss_cons (s_set (i := 2) sc_law.nd rfl (by first | exact .inl rfl | exact .inr rfl) (by first | exact .inr rfl | exact .inl rfl) (se_call (ok__law_box T) (cx.room.mono (by decide)) (by rfl) T.g__law_box T.F__law_box.kp T.b__law_box .nil (fun _ _ _ => RepL.nil) (sa_cons (by rfl) (gv 0) (sa_cons (by rfl) (gv 1) (sa_cons (by rfl) g_int sa_nil))) (by rfl) (by rfl) (by decide)) (by rfl))
      (ss_cons (s_for PassesOwn.never cx.calm (si_rng1 (by rfl) T.z_range (by rfl) (sa_cons (by rfl) g_int sa_nil) (rng_len1)) (sg_name (i := 3) sc_law.nd rfl (by first | exact .inl rfl | exact .inr rfl) (by first | exact .inr rfl | exact .inl rfl)) (ss_cons (s_set (i := 4) sc_law.nd rfl (by first | exact .inl rfl | exact .inr rfl) (by first | exact .inr rfl | exact .inl rfl) (se_call (ok__law_rules T) (cx.room.mono (by decide)) (by rfl) T.g__law_rules T.F__law_rules.kp T.b__law_rules .nil (fun _ _ _ => RepL.nil) (sa_cons (by rfl) (gv 2) (sa_cons (by rfl) g_int sa_nil)) (by rfl) (by rfl) (by decide)) (by rfl))
      (ss_cons (by first | exact (s_par (i := 5) (j := 6) cx.calm sc_law.nd rfl rfl (by decide) rfl rfl (sa_cons (by rfl) (se_call (ok__law_made T) (cx.room.mono (by decide)) (by rfl) T.g__law_made T.F__law_made.kp T.b__law_made .nil (fun _ _ _ => RepL.nil) (sa_cons (by rfl) (gv 4) sa_nil) (by rfl) (by rfl) (by decide)) (sa_cons (by rfl) (se_call (ok__law_lots T) (cx.room.mono (by decide)) (by rfl) T.g__law_lots T.F__law_lots.kp T.b__law_lots .nil (fun _ _ _ => RepL.nil) (sa_cons (by rfl) (gv 4) sa_nil) (by rfl) (by rfl) (by decide)) sa_nil)) rfl) | exact (s_tup (by rfl) (se_tup (sa_cons (by rfl) (se_call (ok__law_made T) (cx.room.mono (by decide)) (by rfl) T.g__law_made T.F__law_made.kp T.b__law_made .nil (fun _ _ _ => RepL.nil) (sa_cons (by rfl) (gv 4) sa_nil) (by rfl) (by rfl) (by decide)) (sa_cons (by rfl) (se_call (ok__law_lots T) (cx.room.mono (by decide)) (by rfl) T.g__law_lots T.F__law_lots.kp T.b__law_lots .nil (fun _ _ _ => RepL.nil) (sa_cons (by rfl) (gv 4) sa_nil) (by rfl) (by rfl) (by decide)) sa_nil))) (sg_tup cx (by rfl) (by rfl) (sgs_cons (by rfl) (sg_name (i := 5) sc_law.nd rfl (by first | exact .inl rfl | exact .inr rfl) (by first | exact .inr rfl | exact .inl rfl)) (sgs_cons (by rfl) (sg_name (i := 6) sc_law.nd rfl (by first | exact .inl rfl | exact .inr rfl) (by first | exact .inr rfl | exact .inl rfl)) sgs_nil))) (by rfl) (by rfl)))
      (ss_cons (s_set (i := 7) sc_law.nd rfl (by first | exact .inl rfl | exact .inr rfl) (by first | exact .inr rfl | exact .inl rfl) (se_callTy (list_ok (mt := false) cx) (by rfl) T.z_list (by decide +kernel) (sa_cons (by rfl) (se_call (ok__law_people T) (cx.room.mono (by decide)) (by rfl) T.g__law_people T.F__law_people.kp T.b__law_people .nil (fun _ _ _ => RepL.nil) (sa_cons (by rfl) (gv 4) sa_nil) (by rfl) (by rfl) (by decide)) sa_nil) (by decide) (by decide) (by rfl) (by rfl)) (by rfl))
      (ss_cons (s_for PassesOwn.never cx.calm (si_rng1 (by rfl) T.z_range (by rfl) (sa_cons (by rfl) g_int sa_nil) (rng_len1)) (sg_name (i := 8) sc_law.nd rfl (by first | exact .inl rfl | exact .inr rfl) (by first | exact .inr rfl | exact .inl rfl)) (ss_cons (by first | exact (s_setLc (mt := false) (i := 9) (own := [("_law_name", 18)]) cx.calm sc_law.nd rfl rfl rfl (si_val cx (se_call (ok__law_mixed T) (cx.room.mono (by decide)) (by rfl) T.g__law_mixed T.F__law_mixed.kp T.b__law_mixed .nil (fun _ _ _ => RepL.nil) (sa_cons (by rfl) (gv 2) (sa_cons (by rfl) (gv 7) sa_nil)) (by rfl) (by rfl) (by decide))) (blkOk_by (by rfl)) (by decide) (fun _ _ _ _ _ => (sg_name (i := 18) sc_law.nd rfl (by first | exact .inl rfl | exact .inr rfl) (by first | exact .inr rfl | exact .inl rfl))) (fun _ _ _ _ _ => (sts_one (st_cmp cx.blk (se_call (ok__law_take T) (cx.room.mono (by decide)) (by rfl) T.g__law_take T.F__law_take.kp T.b__law_take .nil (fun _ _ _ => RepL.nil) (sa_cons (by rfl) (gv 2) (sa_cons (by rfl) g_int sa_nil)) (by rfl) (by rfl) (by decide)) g_int (by first | exact nomark _ | rfl)))) (fun _ _ _ _ _ => (gv 18)) (fun _ => rfl)) | exact (s_set (i := 9) sc_law.nd rfl (by first | exact .inl rfl | exact .inr rfl) (by first | exact .inr rfl | exact .inl rfl) (se_lc (mt := false) (own := [("_law_name", 18)]) cx.calm sc_law.nd (si_val cx (se_call (ok__law_mixed T) (cx.room.mono (by decide)) (by rfl) T.g__law_mixed T.F__law_mixed.kp T.b__law_mixed .nil (fun _ _ _ => RepL.nil) (sa_cons (by rfl) (gv 2) (sa_cons (by rfl) (gv 7) sa_nil)) (by rfl) (by rfl) (by decide))) (blkOk_by (by rfl)) (by decide) (fun _ _ _ _ _ => (sg_name (i := 18) sc_law.nd rfl (by first | exact .inl rfl | exact .inr rfl) (by first | exact .inr rfl | exact .inl rfl))) (fun _ _ _ _ _ => (sts_one (st_cmp cx.blk (se_call (ok__law_take T) (cx.room.mono (by decide)) (by rfl) T.g__law_take T.F__law_take.kp T.b__law_take .nil (fun _ _ _ => RepL.nil) (sa_cons (by rfl) (gv 2) (sa_cons (by rfl) g_int sa_nil)) (by rfl) (by rfl) (by decide)) g_int (by first | exact nomark _ | rfl)))) (fun _ _ _ _ _ => (gv 18)) (fun _ => rfl)) (by rfl)))
      (ss_cons (s_set (i := 10) sc_law.nd rfl (by first | exact .inl rfl | exact .inr rfl) (by first | exact .inr rfl | exact .inl rfl) (se_lst (mt := true) sa_nil) (by rfl))
      (ss_cons (s_for PassesOwn.never cx.calm (si_val cx (gv 6)) (sg_name (i := 11) sc_law.nd rfl (by first | exact .inl rfl | exact .inr rfl) (by first | exact .inr rfl | exact .inl rfl)) (ss_cons (s_if (st_cmp cx (se_lc (mt := false) (own := [("_law_name", 18)]) cx.calm sc_law.nd (si_val cx (gv 11)) (blkOk_by (by rfl)) (by decide) (fun _ _ _ _ _ => (sg_name (i := 18) sc_law.nd rfl (by first | exact .inl rfl | exact .inr rfl) (by first | exact .inr rfl | exact .inl rfl))) (fun _ _ _ _ _ => (sts_one (st_cmp cx.blk (gv 18) (gv 9) (by first | exact nomark _ | rfl)))) (fun _ _ _ _ _ => (gv 18)) (fun _ => rfl)) (se_lst (mt := false) sa_nil) (by first | exact nomark _ | rfl)) (ss_cons (s_expr (se_bm cx PySem.F.plainAttrs_list PySem.F.slot_list_extend PySem.F.type_list_extend extend_ok (gv 10) (sa_cons (by rfl) (se_callTy (list_ok (mt := false) cx) (by rfl) T.z_list (by decide +kernel) (sa_cons (by rfl) (gv 11) sa_nil) (by decide) (by decide) (by rfl) (by rfl)) sa_nil) (by rfl) (by rfl) (by rfl) (by decide) (by rfl)) (by rfl))
      ss_nil) ss_nil)
      ss_nil) (fun _ => rfl))
      (ss_cons (s_set (i := 12) sc_law.nd rfl (by first | exact .inl rfl | exact .inr rfl) (by first | exact .inr rfl | exact .inl rfl) (se_callTy (tuple_ok cx) (by rfl) T.z_tuple (by decide +kernel) (sa_cons (by rfl) (se_lc (mt := false) (own := [("_law_name", 18)]) cx.calm sc_law.nd (si_val cx (gv 7)) (blkOk_by (by rfl)) (by decide) (fun _ _ _ _ _ => (sg_name (i := 18) sc_law.nd rfl (by first | exact .inl rfl | exact .inr rfl) (by first | exact .inr rfl | exact .inl rfl))) (fun _ _ _ _ _ => (sts_one (st_cmp cx.blk (gv 18) (gv 10) (by first | exact nomark _ | rfl)))) (fun _ _ _ _ _ => (gv 18)) (fun _ => rfl)) sa_nil) (by decide) (by decide) (by rfl) (by rfl)) (by rfl))
      (ss_cons (s_set (i := 13) sc_law.nd rfl (by first | exact .inl rfl | exact .inr rfl) (by first | exact .inr rfl | exact .inl rfl) (pe_bin (op_bin (mt := false) cx) (gv 9) (se_slc (mt := false) cx (gv 9) so_none (so_some g_int))) (by rfl))
      (ss_cons (s_if (PW.pt (sw_or (st_cmp cx (se_call (ok_hull T) (cx.room.mono (by decide)) (by rfl) T.g_hull T.F_hull.kp T.b_hull .nil (fun _ _ _ => RepL.nil) (sa_cons (by rfl) (gv 5) (sa_cons (by rfl) (gv 13) sa_nil)) (by rfl) (by rfl) (by decide)) (gv 12) (by first | exact nomark _ | rfl)) (sw_or (st_cmp cx (se_call (ok_hull T) (cx.room.mono (by decide)) (by rfl) T.g_hull T.F_hull.kp T.b_hull .nil (fun _ _ _ => RepL.nil) (sa_cons (by rfl) (gv 5) (sa_cons (by rfl) (gv 12) sa_nil)) (by rfl) (by rfl) (by decide)) (gv 12) (by first | exact nomark _ | rfl)) (sw_one (st_cmp cx (gv 13) (pe_bin (op_bin (mt := false) cx) (gv 9) (se_slc (mt := false) cx (gv 9) so_none (so_some g_int))) (by first | exact nomark _ | rfl)))))) (ss_cons (s_ret g_bl)
      ss_nil) ss_nil)
      (ss_cons (s_set (i := 14) sc_law.nd rfl (by first | exact .inl rfl | exact .inr rfl) (by first | exact .inr rfl | exact .inl rfl) (se_call (ok__law_pick T) (cx.room.mono (by decide)) (by rfl) T.g__law_pick T.F__law_pick.kp T.b__law_pick .nil (fun _ _ _ => RepL.nil) (sa_cons (by rfl) (gv 2) (sa_cons (by rfl) (se_lst (mt := false) (sa_cons (by rfl) g_str (sa_cons (by rfl) g_non (sa_cons (by rfl) g_int (sa_cons (by rfl) (se_lst (mt := false) (sa_cons (by rfl) g_str sa_nil)) (sa_cons (by rfl) g_str (sa_cons (by rfl) g_str (sa_cons (by rfl) (se_tup (sa_cons (by rfl) g_int (sa_cons (by rfl) g_non sa_nil))) (sa_cons (by rfl) g_bl sa_nil))))))))) sa_nil)) (by rfl) (by rfl) (by decide)) (by rfl))
      (ss_cons (s_set (i := 15) sc_law.nd rfl (by first | exact .inl rfl | exact .inr rfl) (by first | exact .inr rfl | exact .inl rfl) (se_call (ok__law_take T) (cx.room.mono (by decide)) (by rfl) T.g__law_take T.F__law_take.kp T.b__law_take .nil (fun _ _ _ => RepL.nil) (sa_cons (by rfl) (gv 2) (sa_cons (by rfl) (pe_bin (op_bin (mt := false) cx) (se_callB (len_ok cx) (by rfl) T.z_len (by decide +kernel) (sa_cons (by rfl) (gv 9) sa_nil) (by decide) (by decide) (by rfl) (by rfl)) g_int) sa_nil)) (by rfl) (by rfl) (by decide)) (by rfl))
      (ss_cons (s_set (i := 16) sc_law.nd rfl (by first | exact .inl rfl | exact .inr rfl) (by first | exact .inr rfl | exact .inl rfl) (pe_bin (op_bin (mt := false) cx) (pe_bin (op_bin (mt := false) cx) (pe_bin (op_bin (mt := false) cx) (se_slc (mt := false) cx (gv 9) so_none (so_some (gv 15))) (se_lst (mt := false) (sa_cons (by rfl) (gv 14) sa_nil))) (se_slc (mt := false) cx (gv 9) (so_some (gv 15)) so_none)) (se_lst (mt := false) (sa_cons (by rfl) g_str sa_nil))) (by rfl))
      (ss_cons (s_set (i := 17) sc_law.nd rfl (by first | exact .inl rfl | exact .inr rfl) (by first | exact .inr rfl | exact .inl rfl) (se_call (ok__law_heard T) (cx.room.mono (by decide)) (by rfl) T.g__law_heard T.F__law_heard.kp T.b__law_heard .nil (fun _ _ _ => RepL.nil) (sa_cons (by rfl) (gv 5) (sa_cons (by rfl) (gv 16) sa_nil)) (by rfl) (by rfl) (by decide)) (by rfl))
      (ss_cons (s_if (PW.pt (sw_and (st_cmp cx (gv 14) (gv 7) (by first | exact nomark _ | rfl)) (sw_one (st_cmp cx (se_callB (reprE_ok cx hgd) (by rfl) T.z_repr (by decide +kernel) (sa_cons (by rfl) (gv 17) sa_nil) (by decide) (by decide) (by rfl) (by rfl)) (se_callB (reprE_ok cx hgd) (by rfl) T.z_repr (by decide +kernel) (sa_cons (by rfl) (se_tup (sa_cons (by rfl) g_str (sa_cons (by rfl) (gv 14) sa_nil))) sa_nil) (by decide) (by decide) (by rfl) (by rfl)) (by first | exact nomark _ | rfl))))) (ss_cons (s_ret g_bl)
      ss_nil) ss_nil)
      ss_nil))))))))))) (fun _ => rfl))
      ss_nil)))) (fun _ => rfl))
      ss_nil)) (fun _ => rfl))
      (ss_cons (s_ret (se_cmp (op_cmp cx) (se_call (ok_hull T) (cx.room.mono (by decide)) (by rfl) T.g_hull T.F_hull.kp T.b_hull .nil (fun _ _ _ => RepL.nil) (sa_cons (by rfl) (se_make0 (frz := true) (c := 1) T.mk_Room (ok_RoomX_initX T) (cx.room.mono (by decide)) (by rfl) T.gc_Room T.bd_RoomX_initX (show Vals [V.ref (em 16)] [Value.ref (em 16)] from .cons rfl .nil) (fun _ _ _ => em_rep T.es_RoomX_initX) (by decide)) (sa_cons (by rfl) (se_tup sa_nil) sa_nil)) (by rfl) (by rfl) (by decide)) (se_tup sa_nil) (by first | exact nomark _ | rfl)))
      ss_nil))⟩
def r_law : List Val → Store → Res Val := callV 1 false 19 bod_law.1
theorem ok_law (T : Tb G mg f fd em pr mc dT) : FnG P w G.K mg base 6 (f 26) (fd 26) ["_law_script"] (spG G 1 19 bod_law.1) :=
  fn_okG T.F_law sc_law fun cdv A outer s H E hgd hr => bod_law.2 T cdv A outer s H E hgd hr
end
end K13

set_option maxHeartbeats 4000000
namespace K13
open PySem L2 Mi
open Mi.Enc (enc)
/-! ### rules and rooms -/
theorem is_fulfilled_run {g : Val} {ws gs : List Nm} (hs : SeqV g (gs.map enc)) (hl : ws.length ≤ lim) (st : Store) : r_is_fulfilled [enc ws, g] st = .ok (.bl (ws.all fun x => decide (x ∈ gs))) st := by
  refine call_val rfl (by simp [Val.blwL, Enc.blw, hs.blw (blwL_enc 0 gs)]) rfl ?_
  simp only [bod_is_fulfilled, seqF, startE, Ok_bnd, Ok_ok, List.map_cons, List.map_nil, List.length_cons, List.length_nil, List.replicate, List.cons_append, List.nil_append, List.append_nil, List.getElem?_cons_zero, List.getElem?_cons_succ, List.set_cons_zero, List.set_cons_succ, wipeE]
  rw [lcV_pure ws enc (fun _ => true) (fun x => .bl (decide (x ∈ gs))) rfl rfl hl (fun x hx => ⟨_, rfl, rfl, fun _ => ?_⟩)]
  · simp only [newL_false, List.filter_true', Ok_ok, allV_fl]
    rfl
  · show gCmp .In (enc x) g [] = _
    unfold gCmp cmpop
    dsimp only
    rw [pyIn_enc (hs.seqOf [])]
    rfl
theorem at_rules {R : List RuleD} {ns : List Nm} {t : Str} (st : Store) : attrV okA (Str.ofString "rules") (roomV R ns t) st = .ok (.tup (R.map ruleV)) st := rfl
theorem at_names {R : List RuleD} {ns : List Nm} {t : Str} (st : Store) : attrV okA (Str.ofString "names") (roomV R ns t) st = .ok (enc ns) st := rfl
theorem at_rtext {R : List RuleD} {ns : List Nm} {t : Str} (st : Store) : attrV okA (Str.ofString "text") (roomV R ns t) st = .ok (.str t) st := rfl
theorem at_name {r : RuleD} (st : Store) : attrV okA (Str.ofString "name") (ruleV r) st = .ok (enc r.name) st := rfl
theorem at_gone {r : RuleD} (st : Store) : attrV okA (Str.ofString "gone") (ruleV r) st = .ok (enc r.gone) st := rfl
theorem at_text {r : RuleD} (st : Store) : attrV okA (Str.ofString "text") (ruleV r) st = .ok (.str (ruleTxt r)) st := rfl
theorem wants_of_run {R : List RuleD} {ns : List Nm} {t : Str} (n : Nm) (hl : R.length ≤ lim) (st : Store) : r_Room_wants_of [roomV R ns t, enc n] st = .ok (enc ((R.filter fun r => decide (r.name = n)).map RuleD.gone)) st := by
  refine call_val rfl rfl (Enc.blw _ _) ?_
  simp only [bod_Room_wants_of, at_rules, seqF, startE, Ok_bnd, Ok_ok, List.map_cons, List.map_nil, List.length_cons, List.length_nil, List.replicate, List.cons_append, List.nil_append, List.append_nil, List.getElem?_cons_zero, List.getElem?_cons_succ, List.set_cons_zero, List.set_cons_succ, wipeE]
  rw [lcV_pure R ruleV (fun r => decide (r.name = n)) (fun r => enc r.gone) rfl rfl hl (fun x hx => ⟨_, rfl, ?_, fun _ => rfl⟩)]
  · simp only [newL_false, Ok_ok]
    show some (Val.tup _) = some (Val.tup _)
    rw [List.map_map]
    rfl
  · show optB (pyEq [] (enc x.name) (enc n)) [] = _
    rw [pyEq_enc]
    rfl
theorem may_run {R : List RuleD} {ns gs : List Nm} {t : Str} {g : Val} (hs : SeqV g (gs.map enc)) (hl : R.length ≤ lim) (hn : ns.length < lim) (hR : ∀ r ∈ R, r.gone.length ≤ lim) (st : Store) :
    r_may [roomV R ns t, g] st = .ok (enc (mayL R ns gs)) st := by
  refine call_val rfl (by simp [Val.blwL, Val.blw, roomV, hs.blw (blwL_enc 0 gs)]) (Enc.blw _ _) ?_
  simp only [bod_may, at_names, seqF, startE, Ok_bnd, Ok_ok, List.map_cons, List.map_nil, List.length_cons, List.length_nil, List.replicate, List.cons_append, List.nil_append, List.append_nil, List.getElem?_cons_zero, List.getElem?_cons_succ, List.set_cons_zero, List.set_cons_succ, wipeE, asgS_nm, lstV_0, newL_true, Nat.reduceLT, if_true, iterV_lot, gdok_none, Nat.reduceAdd]
  refine Ok_of (forL_foldI (v := enc) (E := fun s => [some (roomV R ns t), some g, some (.ref 0), s.1, none]) (T := fun s => [.lst (s.2.map enc)])
    (step := fun (s : Option Val × List Nm) x => (some (enc x), if (decide (x ∉ gs) && (R.filter fun r => decide (r.name = x)).any fun r => r.gone.all fun x => decide (x ∈ gs)) then s.2 ++ [x] else s.2)) (I := fun xs s => s.2.length + xs.length < lim) ?_ ns (none, []) (by simpa using hn)) ?_
  · intro s x xs hI
    rw [List.length_cons] at hI
    refine ⟨_, rfl, .nx, .inl rfl, ?_, rfl, ?_⟩
    · simp only [seqF, Res.bnd_ok, seqF, startE, Ok_bnd, Ok_ok, List.map_cons, List.map_nil, List.length_cons, List.length_nil, List.replicate, List.cons_append, List.nil_append, List.append_nil, List.getElem?_cons_zero, List.getElem?_cons_succ, List.set_cons_zero, List.set_cons_succ, wipeE]
      rw [cmp_notin (hs.seqOf _)]
      simp only [optB_some, Res.bnd_ok]
      by_cases hx : x ∈ gs
      · simp only [hx, not_true_eq_false, decide_false, Bool.false_eq_true, if_false, Res.bnd_ok, Bool.false_and]
      · simp only [hx, not_false_eq_true, decide_true, if_true, Bool.true_and]
        rw [methV_room (by rfl)]
        simp only [Res.bnd_ok, wants_of_run x hl]
        rw [lcV_pure (R.filter fun r => decide (r.name = x)) (fun r => enc r.gone) (fun _ => true) (fun r => .bl (r.gone.all fun x => decide (x ∈ gs))) (by simp only [enc_list, List.map_map]; rfl) rfl (Nat.le_trans (List.length_filter_le _ _) hl) (fun r hr => ⟨_, rfl, rfl, fun _ => is_fulfilled_run hs (hR r (List.mem_filter.mp hr).1) _⟩)]
        simp only [newL_false, List.filter_true', Res.bnd_ok, anyV_fl, tstV_bl]
        split
        · rw [bm_append rfl (by rw [List.length_map]; omega)]
          simp only [Res.bnd_ok, List.set_cons_zero, List.map_append, List.map_cons, List.map_nil]
        · simp only [Res.bnd_ok]
    · show (if _ then _ else _ : List Nm).length + _ < _
      split
      · rw [List.length_append, List.length_singleton]; omega
      · omega
  · simp only [Ok_ok, seqF, startE, Ok_bnd, Ok_ok, List.map_cons, List.map_nil, List.length_cons, List.length_nil, List.replicate, List.cons_append, List.nil_append, List.append_nil, List.getElem?_cons_zero, List.getElem?_cons_succ, List.set_cons_zero, List.set_cons_succ, wipeE]
    rw [tupleV_ref (xs := (ns.filter _).map enc) (by rw [foldl_app]; rfl)]
    rfl

theorem lot_of_run {g : Val} {xs : List Nm} (hs : SeqV g (xs.map enc)) (hl : xs.length ≤ lim) (st : Store) : r_lot_of [g] st = .ok (enc (lotL xs)) st := by
  refine call_val rfl (by simp [Val.blwL, hs.blw (blwL_enc 0 xs)]) (Enc.blw _ _) ?_
  simp only [bod_lot_of, seqF, startE, Ok_bnd, Ok_ok, List.map_cons, List.map_nil, List.length_cons, List.length_nil, List.replicate, List.cons_append, List.nil_append, List.append_nil, List.getElem?_cons_zero, List.getElem?_cons_succ, List.set_cons_zero, List.set_cons_succ, wipeE]
  rw [dcV_nm hs hl (fun x => ⟨_, rfl, rfl, rfl⟩)]
  simp only [seqF, startE, Ok_bnd, Ok_ok, List.map_cons, List.map_nil, List.length_cons, List.length_nil, List.replicate, List.cons_append, List.nil_append, List.append_nil, List.getElem?_cons_zero, List.getElem?_cons_succ, List.set_cons_zero, List.set_cons_succ, wipeE]
  rw [lcV_pure (ded [] xs) enc (fun _ => true) enc (walk_dkv rfl) (gdok_dic (by simp)) (Nat.le_trans (by simpa using length_ded xs []) hl) (fun x hx => ⟨_, rfl, rfl, fun _ => rfl⟩)]
  simp only [newL_false, List.filter_true', Ok_ok]
  rw [sortAV_nm false _]
  rfl
theorem is_sequence_run {g : Val} {xs : List Val} (hs : SeqV g xs) (hb : Val.blwL 0 xs = true) (st : Store) : r_is_sequence [g] st = .ok (.bl true) st := by
  refine call_val rfl (by simp [Val.blwL, hs.blw hb]) rfl ?_
  simp only [bod_is_sequence, seqF, startE, Ok_bnd, Ok_ok, List.map_cons, List.map_nil, List.length_cons, List.length_nil, List.replicate, List.cons_append, List.nil_append, List.append_nil, List.getElem?_cons_zero, List.getElem?_cons_succ, List.set_cons_zero, List.set_cons_succ, wipeE]
  rw [isiV_tup hs (b := true) rfl rfl]
  rfl
theorem is_name_run (n : Nm) (st : Store) : r_is_name [enc n] st = .ok (.bl true) st := by
  refine call_val rfl rfl rfl ?_
  have hl := isName_len n.ok
  have hif := isName_if n.ok
  have e1 : lenV [enc n] [] = .ok (.int n.1.length) [] := by
    show (if n.1.length ≤ lim then _ else _) = _
    rw [if_pos (by unfold lim; omega)]
  have e2 : chainV .LtE .LtE (.int 1) (.int n.1.length) (fun st => .ok (.int 3) st) [] = .ok (.bl true) [] := by
    unfold chainV
    have a1 : cmpop .LtE (.int 1) (.int n.1.length) [] = some true := by show some (decide _) = _; rw [decide_eq_true (by omega)]
    have a2 : cmpop .LtE (.int n.1.length) (.int 3) [] = some true := by show some (decide _) = _; rw [decide_eq_true (by omega)]
    rw [a1]
    dsimp only [Res.bnd]
    rw [a2]
    rfl
  have e3 : cmpop .Eq (enc n) (.str (Str.ofString "if")) [] = some false := by
    show some (decide _) = _
    rw [decide_eq_false hif]
  simp only [bod_is_name, seqF, startE, Ok_bnd, Ok_ok, List.map_cons, List.map_nil, List.length_cons, List.length_nil, List.replicate, List.cons_append, List.nil_append, List.append_nil, List.getElem?_cons_zero, List.getElem?_cons_succ, List.set_cons_zero, List.set_cons_succ, wipeE]
  rw [show isiV oc_t isi_str (enc n) [] = .ok (.bl true) [] from rfl]
  simp only [seqF, startE, Ok_bnd, Ok_ok, List.map_cons, List.map_nil, List.length_cons, List.length_nil, List.replicate, List.cons_append, List.nil_append, List.append_nil, List.getElem?_cons_zero, List.getElem?_cons_succ, List.set_cons_zero, List.set_cons_succ, wipeE, tstV_bl, Bool.not_true, Bool.false_eq_true, if_false, e1, e2, e3, optB_some]
  rw [lcV_pure n.1.cps.toList (fun c => .str ⟨#[c]⟩) (fun _ => true) (fun _ => .bl true) rfl rfl (by have := hl.1; show n.1.cps.size ≤ lim; unfold lim; have : n.1.cps.size ≤ 3 := hl.1; omega) (fun c hc => ⟨_, rfl, rfl, fun _ => letter_in c (isName_chars n.ok c hc).1 (isName_chars n.ok c hc).2 _⟩)]
  simp only [newL_false, List.filter_true', Ok_ok, allV_fl]
  rw [show (n.1.cps.toList.all fun _ => true) = true from List.all_eq_true.mpr fun _ _ => rfl]
  rfl

theorem text_of_run (n : Nm) (gs : List Nm) (hl : gs.length ≤ 60) (st : Store) : r_text_of [enc n, enc gs] st = .ok (.str (ruleTxt ⟨n, gs⟩)) st := by
  refine call_val rfl (by simp [Val.blwL, Enc.blw]) rfl ?_
  simp only [bod_text_of, seqF, startE, Ok_bnd, Ok_ok, List.map_cons, List.map_nil, List.length_cons, List.length_nil, List.replicate, List.cons_append, List.nil_append, List.append_nil, List.getElem?_cons_zero, List.getElem?_cons_succ, List.set_cons_zero, List.set_cons_succ, wipeE, lenV_lot, cmp_eq_int, optB_some]
  by_cases h : gs = []
  · subst h
    simp only [List.length_nil, Int.ofNat_zero, decide_true, if_true, Ok_ok]
    rfl
  · have h0 : decide ((gs.length : Int) = 0) = false := decide_eq_false (by have := List.length_pos_iff.mpr h; omega)
    simp only [h0, Bool.false_eq_true, if_false]
    have h1 := (isName_len n.ok).1
    have h2 := len_goneTxt gs
    have e : (Str.ofString " if ").length = 4 := by decide +kernel
    refine Ok_of (jsV_3 (a := n.1) (b := (" if " : Str)) (c := Txt.join (" " : Str) (gs.map (·.1))) (fmtV_str (by unfold lim; omega) _) rfl ?_ (by rw [e]; unfold lim; omega)) ?_
    · simp only [Res.bnd_ok, seqF, startE, Ok_bnd, Ok_ok, List.map_cons, List.map_nil, List.length_cons, List.length_nil, List.replicate, List.cons_append, List.nil_append, List.append_nil, List.getElem?_cons_zero, List.getElem?_cons_succ, List.set_cons_zero, List.set_cons_succ, wipeE]
      rw [joinV_nm (by decide +kernel) (by omega)]
      exact fmtV_str (by unfold lim; omega) _
    · show some (Val.str _) = some (Val.str (if _ then _ else _))
      rw [if_neg h]
theorem text_of_rules_run (R : List RuleD) (hl : R.length ≤ 300) (hR : ∀ r ∈ R, r.gone.length ≤ 60) (st : Store) : r_text_of_rules [.tup (R.map ruleV)] st = .ok (.str (roomTxt R)) st := by
  refine call_val rfl (by simp [Val.blwL, Val.blw, blwL_map (blw_ruleV 0)]) rfl ?_
  simp only [bod_text_of_rules, seqF, startE, Ok_bnd, Ok_ok, List.map_cons, List.map_nil, List.length_cons, List.length_nil, List.replicate, List.cons_append, List.nil_append, List.append_nil, List.getElem?_cons_zero, List.getElem?_cons_succ, List.set_cons_zero, List.set_cons_succ, wipeE, asgS_nm, Nat.reduceLT, Nat.reduceAdd, if_true]
  rw [show iterV .enum [.tup (R.map ruleV)] [] = .ok ((R.zipIdx 0).map fun p => .tup [.int (p.2 : Int), ruleV p.1], .none) [] from by rw [← enumFrom_map]; rfl]
  simp only [Ok_ok, gdok_none, if_true]
  refine Ok_of (forL_foldI (v := fun p : RuleD × Nat => .tup [.int (p.2 : Int), ruleV p.1]) (E := fun s => [some (Val.tup (R.map ruleV)), some (.str s.1), s.2.1, s.2.2]) (T := fun _ => [])
    (step := fun (s : Str × Option Val × Option Val) p => (if p.2 = 0 then ruleTxt p.1 else Str.empty ++ s.1 ++ ("\n" : Str) ++ ruleTxt p.1, some (.int (p.2 : Int)), some (ruleV p.1)))
    (I := fun ps s => s.1.length + 310 * ps.length ≤ 93000 ∧ ∀ p ∈ ps, p.1.gone.length ≤ 60) ?_ (R.zipIdx 0) (("" : Str), none, none) ?_) ?_
  · intro s p ps hI
    obtain ⟨h1, h2⟩ := hI
    rw [List.length_cons] at h1
    have h3 := len_ruleTxt (h2 p List.mem_cons_self)
    have e : (Str.ofString "\n").length = 1 := by decide +kernel
    refine ⟨_, rfl, .nx, .inl rfl, ?_, rfl, ?_, fun q hq => h2 q (List.mem_cons_of_mem _ hq)⟩
    · simp only [seqF, Res.bnd_ok, seqF, startE, Ok_bnd, Ok_ok, List.map_cons, List.map_nil, List.length_cons, List.length_nil, List.replicate, List.cons_append, List.nil_append, List.append_nil, List.getElem?_cons_zero, List.getElem?_cons_succ, List.set_cons_zero, List.set_cons_succ, wipeE, cmp_eq_int, optB_some, at_text, asgS_nm, Nat.reduceLT, Nat.reduceAdd, if_true]
      by_cases hp : p.2 = 0
      · simp only [hp, Int.ofNat_zero, decide_true, if_true, Res.bnd_ok]
        rfl
      · have h0 : decide ((p.2 : Int) = 0) = false := decide_eq_false (by omega)
        simp only [h0, hp, Bool.false_eq_true, if_false]
        rw [jsV_3 (a := s.1) (b := ("\n" : Str)) (c := ruleTxt p.1) (fmtV_str (by unfold lim; omega) _) rfl (fmtV_str (by unfold lim; omega) _) (by rw [e]; unfold lim; omega)]
        rfl
    · show (if p.2 = 0 then ruleTxt p.1 else _ : Str).length + _ ≤ _
      split
      · omega
      · rw [len_app, len_app, len_app, len_empty, e]
        omega
  · refine ⟨?_, fun p hp => hR p.1 ?_⟩
    · rw [List.length_zipIdx]
      show 0 + _ ≤ _
      omega
    · obtain ⟨i, hi, e⟩ := List.mem_iff_getElem.mp hp
      rw [List.getElem_zipIdx] at e
      rw [← e]
      exact List.getElem_mem _
  · simp only [seqF, startE, Ok_bnd, Ok_ok, List.map_cons, List.map_nil, List.length_cons, List.length_nil, List.replicate, List.cons_append, List.nil_append, List.append_nil, List.getElem?_cons_zero, List.getElem?_cons_succ, List.set_cons_zero, List.set_cons_succ, wipeE]
    show some (Val.str _) = some (Val.str (roomTxt R))
    have key : ∀ (Q : List RuleD) (n : Nat) (s : Str × Option Val × Option Val), 0 < n → ((Q.zipIdx n).foldl (fun (s : Str × Option Val × Option Val) p => (if p.2 = 0 then ruleTxt p.1 else Str.empty ++ s.1 ++ ("\n" : Str) ++ ruleTxt p.1, some (.int (p.2 : Int)), some (ruleV p.1))) s).1 = Q.foldl (fun acc x => Str.empty ++ acc ++ ("\n" : Str) ++ ruleTxt x) s.1 := by
      intro Q
      induction Q with
      | nil => intro n s h; rfl
      | cons r Q ih =>
        intro n s h
        rw [List.zipIdx_cons, List.foldl_cons, List.foldl_cons, ih (n + 1) _ (by omega)]
        dsimp only
        rw [if_neg (by omega)]
    cases R with
    | nil => rfl
    | cons r R =>
      rw [List.zipIdx_cons, List.foldl_cons, key R 1 _ (by omega)]
      rfl

theorem Rule_init_run (n : Nm) {g : Val} {gs : List Nm} (hs : SeqV g (gs.map enc)) (hl : gs.length ≤ 60) (hn : n ∉ gs) : r_RuleX_initX [.ref 0, enc n, g] [.ins 0 []] = .ok .non [.ins 0 [("name", enc n), ("gone", enc (lotL gs)), ("text", .str (ruleTxt ⟨n, lotL gs⟩))]] := by
  have hlt : (lotL gs).length ≤ 60 := Nat.le_trans (length_lotL gs) hl
  refine Ok_eq (call_shared rfl (by simp [Val.blwL, Val.blw]) ?_)
  simp only [bod_RuleX_initX, seqF, startE, Ok_bnd, Ok_ok, List.map_cons, List.map_nil, List.length_cons, List.length_nil, List.replicate, List.cons_append, List.nil_append, List.append_nil, List.getElem?_cons_zero, List.getElem?_cons_succ, List.set_cons_zero, List.set_cons_succ, wipeE, is_name_run, tstV_bl, Bool.not_true, Bool.false_eq_true, if_false, is_sequence_run hs (blwL_enc 0 gs)]
  obtain ⟨gd, ew, hg⟩ := hs.walkS [.ins 0 []]
  rw [lcV_pure gs enc (fun _ => true) (fun x => .bl true) ew (hg _) (by unfold lim; omega) (fun x hx => ⟨_, rfl, rfl, fun _ => ?_⟩)]
  · simp only [newL_false, List.filter_true', Ok_ok, allV_fl, tstV_bl]
    rw [show (gs.all fun _ => true) = true from List.all_eq_true.mpr fun _ _ => rfl]
    simp only [Bool.not_true, Bool.false_eq_true, if_false, seqF, startE, Ok_bnd, Ok_ok, List.map_cons, List.map_nil, List.length_cons, List.length_nil, List.replicate, List.cons_append, List.nil_append, List.append_nil, List.getElem?_cons_zero, List.getElem?_cons_succ, List.set_cons_zero, List.set_cons_succ, wipeE]
    rw [show setAV okA (Str.ofString "name") (enc n) (.ref 0) [.ins 0 []] = .ok () [.ins 0 [("name", enc n)]] from rfl]
    simp only [seqF, startE, Ok_bnd, Ok_ok, List.map_cons, List.map_nil, List.length_cons, List.length_nil, List.replicate, List.cons_append, List.nil_append, List.append_nil, List.getElem?_cons_zero, List.getElem?_cons_succ, List.set_cons_zero, List.set_cons_succ, wipeE, lot_of_run hs (by unfold lim; omega)]
    rw [show setAV okA (Str.ofString "gone") (enc (lotL gs)) (.ref 0) [.ins 0 [("name", enc n)]] = .ok () [.ins 0 [("name", enc n), ("gone", enc (lotL gs))]] from rfl]
    simp only [seqF, startE, Ok_bnd, Ok_ok, List.map_cons, List.map_nil, List.length_cons, List.length_nil, List.replicate, List.cons_append, List.nil_append, List.append_nil, List.getElem?_cons_zero, List.getElem?_cons_succ, List.set_cons_zero, List.set_cons_succ, wipeE]
    rw [show attrV okA (Str.ofString "gone") (.ref 0) [.ins 0 [("name", enc n), ("gone", enc (lotL gs))]] = .ok (enc (lotL gs)) [.ins 0 [("name", enc n), ("gone", enc (lotL gs))]] from rfl]
    simp only [seqF, startE, Ok_bnd, Ok_ok, List.map_cons, List.map_nil, List.length_cons, List.length_nil, List.replicate, List.cons_append, List.nil_append, List.append_nil, List.getElem?_cons_zero, List.getElem?_cons_succ, List.set_cons_zero, List.set_cons_succ, wipeE, text_of_run n (lotL gs) hlt]
    rw [show ∀ x, setAV okA (Str.ofString "text") x (.ref 0) [.ins 0 [("name", enc n), ("gone", enc (lotL gs))]] = .ok () [.ins 0 [("name", enc n), ("gone", enc (lotL gs)), ("text", x)]] from fun x => rfl]
    simp only [seqF, startE, Ok_bnd, Ok_ok, List.map_cons, List.map_nil, List.length_cons, List.length_nil, List.replicate, List.cons_append, List.nil_append, List.append_nil, List.getElem?_cons_zero, List.getElem?_cons_succ, List.set_cons_zero, List.set_cons_succ, wipeE]
    refine ⟨.non, rfl, finN_val ?_ rfl ⟨rfl, rfl⟩⟩
    simp [Ob.blw, Val.blwF, Enc.blw, Val.blw]
  · simp only [Res.bnd_ok, seqF, startE, Ok_bnd, Ok_ok, List.map_cons, List.map_nil, List.length_cons, List.length_nil, List.replicate, List.cons_append, List.nil_append, List.append_nil, List.getElem?_cons_zero, List.getElem?_cons_succ, List.set_cons_zero, List.set_cons_succ, wipeE, is_name_run]
    show andV (fun st => gCmp .NotEq (enc x) (enc n) st) (.bl true) _ = _
    show gCmp .NotEq (enc x) (enc n) _ = _
    unfold gCmp cmpop
    dsimp only
    rw [pyEq_enc]
    have : x ≠ n := fun e => hn (e ▸ hx)
    simp [this, bool_some]
theorem mk_rule (n : Nm) {g : Val} {gs : List Nm} (hs : SeqV g (gs.map enc)) (hl : gs.length ≤ 60) (hn : n ∉ gs) (st : Store) : makeV true 0 r_RuleX_initX [enc n, g] st = .ok (ruleV ⟨n, lotL gs⟩) st := by
  unfold makeV
  rw [if_pos (by simp [Val.blwL, Enc.blw, hs.blw (blwL_enc 0 gs)]), Rule_init_run n hs hl hn]
  simp [Val.blwF, Enc.blw, Val.blw, ruleV]
theorem Room_init_run {R : List RuleD} {g : Val} (hs : SeqV g (R.map ruleV)) (hl : R.length ≤ 300) (hR : ∀ r ∈ R, r.gone.length ≤ 60)
    (hw : tupleV [g] [.ins 1 []] = .ok (.tup (R.map ruleV)) [.ins 1 []]) : r_RoomX_initX [.ref 0, g] [.ins 1 []] = .ok .non [.ins 1 [("rules", .tup (R.map ruleV)), ("names", enc (lotL (R.flatMap fun r => r.name :: r.gone))), ("text", .str (roomTxt R))]] := by
  refine Ok_eq (call_shared rfl (by simp [Val.blwL, Val.blw]) ?_)
  simp only [bod_RoomX_initX, seqF, startE, Ok_bnd, Ok_ok, List.map_cons, List.map_nil, List.length_cons, List.length_nil, List.replicate, List.cons_append, List.nil_append, List.append_nil, List.getElem?_cons_zero, List.getElem?_cons_succ, List.set_cons_zero, List.set_cons_succ, wipeE, is_sequence_run hs (blwL_map (blw_ruleV 0) R), tstV_bl, Bool.not_true, Bool.false_eq_true, if_false]
  obtain ⟨gd, ew, hg⟩ := hs.iterE [.ins 1 []]
  rw [ew, enumFrom_map]
  simp only [Ok_ok, hg, if_true]
  refine Ok_of (forL_fold (v := fun p : RuleD × Nat => .tup [.int (p.2 : Int), ruleV p.1]) (E := fun s => [some (.ref 0), some g, s.1, s.2, none]) (T := fun _ => [.ins 1 []])
    (step := fun (s : Option Val × Option Val) p => (some (.int (p.2 : Int)), some (ruleV p.1))) ?_ (R.zipIdx 0) (none, none)) ?_
  · intro s p
    refine ⟨_, rfl, .nx, .inl rfl, ?_, hg _⟩
    rfl
  · simp only [seqF, startE, Ok_bnd, Ok_ok, List.map_cons, List.map_nil, List.length_cons, List.length_nil, List.replicate, List.cons_append, List.nil_append, List.append_nil, List.getElem?_cons_zero, List.getElem?_cons_succ, List.set_cons_zero, List.set_cons_succ, wipeE, hw]
    rw [show setAV okA (Str.ofString "rules") (.tup (R.map ruleV)) (.ref 0) [.ins 1 []] = .ok () [.ins 1 [("rules", .tup (R.map ruleV))]] from rfl]
    simp only [seqF, startE, Ok_bnd, Ok_ok, List.map_cons, List.map_nil, List.length_cons, List.length_nil, List.replicate, List.cons_append, List.nil_append, List.append_nil, List.getElem?_cons_zero, List.getElem?_cons_succ, List.set_cons_zero, List.set_cons_succ, wipeE]
    rw [show attrV okA (Str.ofString "rules") (.ref 0) [.ins 1 [("rules", .tup (R.map ruleV))]] = .ok (.tup (R.map ruleV)) [.ins 1 [("rules", .tup (R.map ruleV))]] from rfl]
    simp only [seqF, startE, Ok_bnd, Ok_ok, List.map_cons, List.map_nil, List.length_cons, List.length_nil, List.replicate, List.cons_append, List.nil_append, List.append_nil, List.getElem?_cons_zero, List.getElem?_cons_succ, List.set_cons_zero, List.set_cons_succ, wipeE]
    rw [lc2V_pure R ruleV (fun _ => true) (fun r => (r.name :: r.gone).map enc) 61 (iterV_tup _ _) rfl (by unfold lim; omega) (fun r hr => ⟨_, rfl, rfl, fun _ => ⟨[.tup ((r.name :: r.gone).map enc)], (r.name :: r.gone).map enc, .none, ?_, rfl, rfl, ?_, ?_⟩⟩)]
    · simp only [newL_false, List.filter_true', Ok_ok, ← List.map_flatMap]
      rw [lot_of_run SeqV.fl ?_]
      · simp only [Ok_ok]
        rw [show ∀ x, setAV okA (Str.ofString "names") x (.ref 0) [.ins 1 [("rules", .tup (R.map ruleV))]] = .ok () [.ins 1 [("rules", .tup (R.map ruleV)), ("names", x)]] from fun x => rfl]
        simp only [seqF, startE, Ok_bnd, Ok_ok, List.map_cons, List.map_nil, List.length_cons, List.length_nil, List.replicate, List.cons_append, List.nil_append, List.append_nil, List.getElem?_cons_zero, List.getElem?_cons_succ, List.set_cons_zero, List.set_cons_succ, wipeE]
        rw [show ∀ x, attrV okA (Str.ofString "rules") (.ref 0) [.ins 1 [("rules", .tup (R.map ruleV)), ("names", x)]] = .ok (.tup (R.map ruleV)) [.ins 1 [("rules", .tup (R.map ruleV)), ("names", x)]] from fun x => rfl]
        simp only [seqF, startE, Ok_bnd, Ok_ok, List.map_cons, List.map_nil, List.length_cons, List.length_nil, List.replicate, List.cons_append, List.nil_append, List.append_nil, List.getElem?_cons_zero, List.getElem?_cons_succ, List.set_cons_zero, List.set_cons_succ, wipeE, text_of_rules_run R hl hR]
        rw [show ∀ x y, setAV okA (Str.ofString "text") y (.ref 0) [.ins 1 [("rules", .tup (R.map ruleV)), ("names", x)]] = .ok () [.ins 1 [("rules", .tup (R.map ruleV)), ("names", x), ("text", y)]] from fun x y => rfl]
        simp only [seqF, startE, Ok_bnd, Ok_ok, List.map_cons, List.map_nil, List.length_cons, List.length_nil, List.replicate, List.cons_append, List.nil_append, List.append_nil, List.getElem?_cons_zero, List.getElem?_cons_succ, List.set_cons_zero, List.set_cons_succ, wipeE]
        refine ⟨.non, rfl, finN_val ?_ rfl ⟨rfl, rfl⟩⟩
        simp [Ob.blw, Val.blwF, Enc.blw, Val.blw, blwL_map (blw_ruleV 1)]
      · have key : ∀ Q : List RuleD, (∀ r ∈ Q, r.gone.length ≤ 60) → (Q.flatMap fun r => r.name :: r.gone).length ≤ 61 * Q.length := by
          intro Q
          induction Q with
          | nil => intro _; simp
          | cons r Q ih =>
            intro h
            rw [List.flatMap_cons, List.length_append, List.length_cons, List.length_cons]
            have h1 := h r List.mem_cons_self
            have h2 := ih fun x hx => h x (List.mem_cons_of_mem _ hx)
            omega
        have := key R hR
        unfold lim
        omega
    · have h1 := hR r hr
      simp only [seqF, startE, Ok_bnd, Ok_ok, List.map_cons, List.map_nil, List.length_cons, List.length_nil, List.replicate, List.cons_append, List.nil_append, List.append_nil, List.getElem?_cons_zero, List.getElem?_cons_succ, List.set_cons_zero, List.set_cons_succ, wipeE, Res.bnd_ok, at_name, at_gone]
      show (((starV (fun st => Res.ok [] st) (enc r.gone) _).bnd _).bnd _).bnd _ = _
      rw [show ∀ st, starV (fun st => Res.ok [] st) (enc r.gone) st = .ok (r.gone.map enc) st from fun st => by simp [starV, enc_list, seqOf]]
      simp only [Res.bnd_ok]
      unfold tupV
      rw [if_pos (by simp; unfold lim; omega)]
      rfl
    · have h1 := hR r hr
      simp
      omega
    · refine (lcL_pure (α := Nm) enc (fun _ => true) enc rfl (r.name :: r.gone) (fun x hx => ⟨_, rfl, rfl, fun _ => rfl⟩)).trans ?_
      rw [List.filter_true']
theorem mk_room {R : List RuleD} {g : Val} (hs : SeqV g (R.map ruleV)) (hl : R.length ≤ 300) (hR : ∀ r ∈ R, r.gone.length ≤ 60)
    (hw : tupleV [g] [.ins 1 []] = .ok (.tup (R.map ruleV)) [.ins 1 []]) (st : Store) : makeV true 1 r_RoomX_initX [g] st = .ok (roomV R (lotL (R.flatMap fun r => r.name :: r.gone)) (roomTxt R)) st := by
  unfold makeV
  rw [if_pos (by simp [Val.blwL, hs.blw (blwL_map (blw_ruleV 0) R)]), Room_init_run hs hl hR hw]
  simp [Val.blwF, Enc.blw, Val.blw, roomV, blwL_map (blw_ruleV 0)]
theorem room0_init : r_RoomX_initX [.ref 0, .wt []] [.ins 1 []] = .ok .non [.ins 1 [("rules", .wt []), ("names", .tup []), ("text", .str "")]] := by kernel_rfl
theorem mk_room0 (st : Store) : makeV true 1 r_RoomX_initX [.wt []] st = .ok room0 st := by
  unfold makeV
  rw [if_pos (show Val.blwL 0 [Val.wt []] = true from rfl), room0_init]
  rfl
theorem may_room0 (st : Store) : r_may [room0, .fl []] st = .ok (.tup []) st := call_val rfl rfl rfl (Ok_chkV (by kernel_rfl))

/-! ### draws -/
theorem take_run {S : Store} {b : Nat} {x s c n : Int} (hb : b < S.length) (hw : Wf S) (hn : 0 < n) (hn2 : n < 1000000) :
    (r__law_take [.ref b, .int n] (S.set b (boxO x s c))).Ok fun v st' => ∃ d x' s' c' : Int, v = .int d ∧ 0 ≤ d ∧ d < n ∧ st' = S.set b (boxO x' s' c') := by
  have hw' : ∀ o : Ob, o.blw S.length = true → ((S.set b o).take (S.set b (boxO x s c)).length).all (Ob.blw (S.set b (boxO x s c)).length) = true := by
    intro o ho
    rw [List.length_set, ← List.length_set (as := S) (i := b) (a := o), List.take_length, List.length_set]
    exact all_set hw ho b
  have hk : ∀ o : Ob, (S.set b o).take (S.set b (boxO x s c)).length = S.set b o := fun o => by
    rw [List.length_set, ← List.length_set (as := S) (i := b) (a := o), List.take_length]
  refine call_shared rfl (by simp [Val.blwL, Val.blw]) ?_
  simp only [bod__law_take, seqF, startE, Ok_bnd, Ok_ok, List.map_cons, List.map_nil, List.length_cons, List.length_nil, List.replicate, List.cons_append, List.nil_append, List.append_nil, List.getElem?_cons_zero, List.getElem?_cons_succ, List.set_cons_zero, List.set_cons_succ, wipeE, idx_box0 hb, cmp_gt_int, optB_some]
  by_cases hx : 0 < x
  · simp only [hx, decide_true, if_true, Res.bnd_ok, Ok_bnd, Ok_ok, idx_box0 hb, intV1_int, bin_mod _ _ _ _ hn, asgS_nm, seqF, startE, Ok_bnd, Ok_ok, List.map_cons, List.map_nil, List.length_cons, List.length_nil, List.replicate, List.cons_append, List.nil_append, List.append_nil, List.getElem?_cons_zero, List.getElem?_cons_succ, List.set_cons_zero, List.set_cons_succ, wipeE, Nat.reduceLT, Nat.reduceAdd, bin_div _ _ _ _ (show 0 < n ∧ n < 1073741824 by omega), set_box0 hb]
    refine ⟨_, rfl, finN_val (hw' _ (blw_box _)) rfl ⟨_, _, _, _, rfl, Int.emod_nonneg _ (by omega), Int.emod_lt_of_pos _ hn, hk _⟩⟩
  · simp (disch := decide) only [hx, decide_false, Bool.false_eq_true, if_false, Res.bnd_ok, Ok_bnd, Ok_ok, idx_box0 hb, idx_box1 hb, idx_box2 hb, intV1_int, asgS_nm, seqF, startE, Ok_bnd, Ok_ok, List.map_cons, List.map_nil, List.length_cons, List.length_nil, List.replicate, List.cons_append, List.nil_append, List.append_nil, List.getElem?_cons_zero, List.getElem?_cons_succ, List.set_cons_zero, List.set_cons_succ, wipeE, Nat.reduceLT, Nat.reduceAdd, if_true, set_box2 hb, set_box1 hb, bin_add, bin_mulL, bin_mulR, bin_mod _ _ 2147483647, bin_mod _ _ 2147483629, bin_pow, cmp_lt_int, optB_some]
    have e40 : (2 : Int) ^ (40 : Int).toNat = 1099511627776 := by decide
    rw [decide_eq_true (show n < (2 : Int) ^ (40 : Int).toNat by rw [e40]; omega)]
    simp (disch := decide) only [if_true, Res.bnd_ok, Ok_bnd, Ok_ok, idx_box0 hb, idx_box1 hb, idx_box2 hb, intV1_int, asgS_nm, seqF, startE, Ok_bnd, Ok_ok, List.map_cons, List.map_nil, List.length_cons, List.length_nil, List.replicate, List.cons_append, List.nil_append, List.append_nil, List.getElem?_cons_zero, List.getElem?_cons_succ, List.set_cons_zero, List.set_cons_succ, wipeE, bin_add, bin_mulL, bin_mulR, bin_div _ _ 8191]
    simp only [bin_mod _ _ _ _ hn, Ok_ok, seqF, startE, Ok_bnd, Ok_ok, List.map_cons, List.map_nil, List.length_cons, List.length_nil, List.replicate, List.cons_append, List.nil_append, List.append_nil, List.getElem?_cons_zero, List.getElem?_cons_succ, List.set_cons_zero, List.set_cons_succ, wipeE]
    refine ⟨_, rfl, finN_val (hw' _ (blw_box _)) rfl ⟨_, _, _, _, rfl, Int.emod_nonneg _ (by omega), Int.emod_lt_of_pos _ hn, hk _⟩⟩
theorem mixed_run {α : Type} {v : α → Val} {S : Store} {b : Nat} {x s c : Int} {g : Val} {xs : List α} (hv : ∀ x n, (v x).blw n = true) (hb : b < S.length) (hw : Wf S) (hs : seqOf (S.set b (boxO x s c)) g = some (xs.map v)) (hl : xs.length < 1000000) :
    (r__law_mixed [.ref b, g] (S.set b (boxO x s c))).Ok fun r st' => ∃ (ys : List α) (x' s' c' : Int), r = .fl (ys.map v) ∧ ys.Perm xs ∧ st' = S.set b (boxO x' s' c') := by
  have hvL : ∀ (n : Nat) (ys : List α), Val.blwL n (ys.map v) = true := fun n ys => blwL_map (fun x => hv x n) ys
  refine call_shared rfl (by simp [Val.blwL, Val.blw]) ?_
  have hlv : listV true [g] (S.set b (boxO x s c)) = newL true (xs.map v) (S.set b (boxO x s c)) := by
    unfold listV
    dsimp only
    rw [hs]
  simp only [bod__law_mixed, seqF, startE, Ok_bnd, Ok_ok, List.map_cons, List.map_nil, List.length_cons, List.length_nil, List.replicate, List.cons_append, List.nil_append, List.append_nil, List.getElem?_cons_zero, List.getElem?_cons_succ, List.set_cons_zero, List.set_cons_succ, wipeE, hlv, newL_true, lstV_0, List.length_set, List.length_append, List.append_assoc]
  rw [par2_5 _ _ _ _ _ _ (by simp)]
  simp only [seqF, startE, Ok_bnd, Ok_ok, List.map_cons, List.map_nil, List.length_cons, List.length_nil, List.replicate, List.cons_append, List.nil_append, List.append_nil, List.getElem?_cons_zero, List.getElem?_cons_succ, List.set_cons_zero, List.set_cons_succ, wipeE, Ok_ok]
  have e0 : S.set b (boxO x s c) ++ [Ob.lst (xs.map v), Ob.lst []] = (S ++ [Ob.lst (xs.map v), Ob.lst []]).set b (boxO x s c) := by rw [List.set_append_left _ _ hb]
  rw [e0, lenV_ref (two_get0 hb)]
  simp only [Ok_ok, seqF, startE, Ok_bnd, Ok_ok, List.map_cons, List.map_nil, List.length_cons, List.length_nil, List.replicate, List.cons_append, List.nil_append, List.append_nil, List.getElem?_cons_zero, List.getElem?_cons_succ, List.set_cons_zero, List.set_cons_succ, wipeE]
  rw [List.length_map, iterV_rng _ (by omega)]
  simp only [Ok_ok, gdok_none, if_true]
  refine forR (I := fun rem σ st => ∃ (left found : List α) (x s c : Int) (turn : Option Val), σ = [some (.ref b), some g, some (.ref S.length), some (.ref (S.length + 1)), turn] ∧ st = (S ++ [Ob.lst (left.map v), Ob.lst (found.map v)]).set b (boxO x s c) ∧ (left ++ found).Perm xs ∧ left.length = rem.length) ?_ ?_ _ _ _ ⟨xs, [], x, s, c, none, rfl, rfl, by simp, by rw [length_rngL]⟩
  · rintro y rem σ st ⟨left, found, x, s, c, turn, rfl, rfl, hp, hlen⟩
    refine ⟨_, rfl, ?_⟩
    have hpl := hp.length_eq
    rw [List.length_append] at hpl
    rw [List.length_cons] at hlen
    have hw2 : Wf (S ++ [Ob.lst (left.map v), Ob.lst (found.map v)]) := by
      rw [show S ++ [Ob.lst (left.map v), Ob.lst (found.map v)] = (S ++ [Ob.lst (left.map v)]) ++ [Ob.lst (found.map v)] by simp]
      exact (hw.push (o := .lst (left.map v)) (hvL _ _)).push (o := .lst (found.map v)) (hvL _ _)
    simp only [seqF, seqF, startE, Ok_bnd, Ok_ok, List.map_cons, List.map_nil, List.length_cons, List.length_nil, List.replicate, List.cons_append, List.nil_append, List.append_nil, List.getElem?_cons_zero, List.getElem?_cons_succ, List.set_cons_zero, List.set_cons_succ, wipeE]
    rw [bm_list (two_get1 hb)]
    simp only [seqF, startE, Ok_bnd, Ok_ok, List.map_cons, List.map_nil, List.length_cons, List.length_nil, List.replicate, List.cons_append, List.nil_append, List.append_nil, List.getElem?_cons_zero, List.getElem?_cons_succ, List.set_cons_zero, List.set_cons_succ, wipeE]
    rw [bm_list (two_get0 hb)]
    simp only [seqF, startE, Ok_bnd, Ok_ok, List.map_cons, List.map_nil, List.length_cons, List.length_nil, List.replicate, List.cons_append, List.nil_append, List.append_nil, List.getElem?_cons_zero, List.getElem?_cons_succ, List.set_cons_zero, List.set_cons_succ, wipeE]
    rw [lenV_ref (two_get0 hb)]
    simp only [seqF, startE, Ok_bnd, Ok_ok, List.map_cons, List.map_nil, List.length_cons, List.length_nil, List.replicate, List.cons_append, List.nil_append, List.append_nil, List.getElem?_cons_zero, List.getElem?_cons_succ, List.set_cons_zero, List.set_cons_succ, wipeE]
    refine Ok_imp (take_run (by simp; omega) hw2 (by rw [List.length_map]; omega) (by rw [List.length_map]; omega)) ?_
    rintro dv st' ⟨d, x', s', c', rfl, hd0, hd1, rfl⟩
    rw [List.length_map] at hd1
    obtain ⟨y, hy⟩ : ∃ y, left[d.toNat]? = some y := ⟨left[d.toNat]'(by omega), by simp⟩
    rw [popAtV_at (y := v y) (two_get0 hb) (by rw [List.length_map]; unfold lim; omega) (by rw [List.getElem?_map, hy]; rfl)]
    simp only [seqF, startE, Ok_bnd, Ok_ok, List.map_cons, List.map_nil, List.length_cons, List.length_nil, List.replicate, List.cons_append, List.nil_append, List.append_nil, List.getElem?_cons_zero, List.getElem?_cons_succ, List.set_cons_zero, List.set_cons_succ, wipeE]
    rw [two_set0 hb, appendV_at (two_get1 hb) (by rw [List.length_map]; unfold lim; omega), two_set1 hb]
    simp only [seqF, startE, Ok_bnd, Ok_ok, List.map_cons, List.map_nil, List.length_cons, List.length_nil, List.replicate, List.cons_append, List.nil_append, List.append_nil, List.getElem?_cons_zero, List.getElem?_cons_succ, List.set_cons_zero, List.set_cons_succ, wipeE]
    refine ⟨rfl, left.eraseIdx d.toNat, found ++ [y], x', s', c', _, rfl, ?_, ?_, ?_⟩
    · rw [List.map_append, erase_map]
      rfl
    · refine List.Perm.trans ?_ hp
      refine (List.Perm.append_left _ List.perm_append_comm).trans ?_
      rw [← List.append_assoc]
      exact (erase_perm hy).append_right found
    · have := List.length_eraseIdx_of_lt (i := d.toNat) (l := left) (by omega)
      omega
  · rintro σ st ⟨left, found, x, s, c, turn, rfl, rfl, hp, hlen⟩
    have : left = [] := List.length_eq_zero_iff.mp hlen
    subst this
    simp only [seqF, startE, Ok_bnd, Ok_ok, List.map_cons, List.map_nil, List.length_cons, List.length_nil, List.replicate, List.cons_append, List.nil_append, List.append_nil, List.getElem?_cons_zero, List.getElem?_cons_succ, List.set_cons_zero, List.set_cons_succ, wipeE]
    refine ⟨_, rfl, finN_lst (xs := found.map v) ?_ (by simp) (two_get1 hb) (hvL _ _) ⟨found, x, s, c, rfl, hp, ?_⟩⟩
    · rw [List.length_set, two_take hb]
      exact all_set hw (blw_box _) b
    · rw [List.length_set, two_take hb]

def names14 : List Nm := [⟨"a", by decide +kernel⟩, ⟨"b", by decide +kernel⟩, ⟨"c", by decide +kernel⟩, ⟨"d", by decide +kernel⟩, ⟨"e", by decide +kernel⟩, ⟨"f", by decide +kernel⟩, ⟨"g", by decide +kernel⟩, ⟨"ab", by decide +kernel⟩, ⟨"abc", by decide +kernel⟩, ⟨"zz", by decide +kernel⟩, ⟨"iff", by decide +kernel⟩, ⟨"fi", by decide +kernel⟩, ⟨"z", by decide +kernel⟩, ⟨"ba", by decide +kernel⟩]
theorem names14_nodup : names14.Nodup := by decide +kernel
theorem names_run {S : Store} {b : Nat} {x s c n : Int} (hb : b < S.length) (hw : Wf S) (hn : 0 ≤ n ∧ n ≤ 14) :
    (r__law_names [.ref b, .int n] (S.set b (boxO x s c))).Ok fun r st' => ∃ (ys : List Nm) (x' s' c' : Int), r = .fl (ys.map enc) ∧ ys.Nodup ∧ (ys.length : Int) = n ∧ (∀ y ∈ ys, y ∈ names14) ∧ st' = S.set b (boxO x' s' c') := by
  obtain ⟨k, rfl⟩ : ∃ k : Nat, n = (k : Int) := ⟨n.toNat, by omega⟩
  refine call_shared rfl (by simp [Val.blwL, Val.blw]) ?_
  simp only [bod__law_names, seqF, startE, Ok_bnd, Ok_ok, List.map_cons, List.map_nil, List.length_cons, List.length_nil, List.replicate, List.cons_append, List.nil_append, List.append_nil, List.getElem?_cons_zero, List.getElem?_cons_succ, List.set_cons_zero, List.set_cons_succ, wipeE]
  rw [show ∀ st, lstV false [Val.str (Str.ofString "a"), Val.str (Str.ofString "b"), Val.str (Str.ofString "c"), Val.str (Str.ofString "d"),
          Val.str (Str.ofString "e"), Val.str (Str.ofString "f"), Val.str (Str.ofString "g"),
          Val.str (Str.ofString "ab"), Val.str (Str.ofString "abc"), Val.str (Str.ofString "zz"),
          Val.str (Str.ofString "iff"), Val.str (Str.ofString "fi"), Val.str (Str.ofString "z"),
          Val.str (Str.ofString "ba")] st = .ok (.fl (names14.map enc)) st from fun st => rfl]
  simp only [seqF, startE, Ok_bnd, Ok_ok, List.map_cons, List.map_nil, List.length_cons, List.length_nil, List.replicate, List.cons_append, List.nil_append, List.append_nil, List.getElem?_cons_zero, List.getElem?_cons_succ, List.set_cons_zero, List.set_cons_succ, wipeE, asgS_nm, Nat.reduceLT, Nat.reduceAdd, if_true]
  refine Ok_imp (mixed_run (v := enc) (fun x n => Enc.blw x n) hb hw rfl (by decide)) ?_
  rintro r st' ⟨ys, x', s', c', rfl, hp, rfl⟩
  simp only [seqF, startE, Ok_bnd, Ok_ok, List.map_cons, List.map_nil, List.length_cons, List.length_nil, List.replicate, List.cons_append, List.nil_append, List.append_nil, List.getElem?_cons_zero, List.getElem?_cons_succ, List.set_cons_zero, List.set_cons_succ, wipeE, intV_int, slc_fl_take, ← List.map_take]
  refine ⟨_, rfl, finN_val ?_ (blwL_enc _ _) ⟨ys.take k, x', s', c', rfl, ?_, ?_, ?_, ?_⟩⟩
  · rw [List.length_set, set_take]
    exact all_set hw (blw_box _) b
  · exact (hp.nodup_iff.mpr names14_nodup).sublist (List.take_sublist _ _)
  · rw [List.length_take, hp.length_eq]
    have : names14.length = 14 := rfl
    omega
  · exact fun y hy => hp.mem_iff.mp (List.mem_of_mem_take hy)
  · rw [List.length_set, set_take]
/-- rules as the law draws them -/
def RulesOk (R : List (Nm × List Nm)) : Prop := ∀ p ∈ R, p.1 ∈ names14 ∧ p.1 ∉ p.2 ∧ p.2.length ≤ 6 ∧ ∀ y ∈ p.2, y ∈ names14
/-- .. of some names -/
def RulesIn (nms : List Nm) (R : List (Nm × List Nm)) : Prop := ∀ p ∈ R, p.1 ∈ nms ∧ p.1 ∉ p.2 ∧ p.2.length ≤ 6 ∧ ∀ y ∈ p.2, y ∈ nms
theorem rules_runN {S : Store} {b : Nat} {x s c n : Int} (hb : b < S.length) (hw : Wf S) (hn : 0 < n ∧ n ≤ 7) :
    (r__law_rules [.ref b, .int n] (S.set b (boxO x s c))).Ok fun r st' => ∃ (R : List (Nm × List Nm)) (nms : List Nm) (x' s' c' : Int), r = .fl (R.map enc) ∧ R.length ≤ 21 ∧ RulesIn nms R ∧ (∀ y ∈ nms, y ∈ names14) ∧ (nms.length : Int) ≤ n ∧ st' = S.set b (boxO x' s' c') := by
  refine call_shared rfl (by simp [Val.blwL, Val.blw]) ?_
  simp only [bod__law_rules, seqF, startE, Ok_bnd, Ok_ok, List.map_cons, List.map_nil, List.length_cons, List.length_nil, List.replicate, List.cons_append, List.nil_append, List.append_nil, List.getElem?_cons_zero, List.getElem?_cons_succ, List.set_cons_zero, List.set_cons_succ, wipeE]
  refine Ok_imp (take_run hb hw hn.1 (by omega)) ?_
  rintro _ _ ⟨d, x1, s1, c1, rfl, hd0, hd1, rfl⟩
  simp only [bin_add, seqF, startE, Ok_bnd, Ok_ok, List.map_cons, List.map_nil, List.length_cons, List.length_nil, List.replicate, List.cons_append, List.nil_append, List.append_nil, List.getElem?_cons_zero, List.getElem?_cons_succ, List.set_cons_zero, List.set_cons_succ, wipeE]
  refine Ok_imp (names_run hb hw (show 0 ≤ 1 + d ∧ 1 + d ≤ 14 by omega)) ?_
  rintro _ _ ⟨ns, x2, s2, c2, rfl, hnd, hnl, hn14, rfl⟩
  simp only [lstV_0, newL_true, seqF, startE, Ok_bnd, Ok_ok, List.map_cons, List.map_nil, List.length_cons, List.length_nil, List.replicate, List.cons_append, List.nil_append, List.append_nil, List.getElem?_cons_zero, List.getElem?_cons_succ, List.set_cons_zero, List.set_cons_succ, wipeE, List.length_set]
  rw [par2_5 _ _ _ _ _ _ (by simp), one_eq hb]
  simp only [seqF, startE, Ok_bnd, Ok_ok, List.map_cons, List.map_nil, List.length_cons, List.length_nil, List.replicate, List.cons_append, List.nil_append, List.append_nil, List.getElem?_cons_zero, List.getElem?_cons_succ, List.set_cons_zero, List.set_cons_succ, wipeE]
  refine Ok_imp (take_run (by simp; omega) (hw.push (o := .lst []) rfl) (by decide) (by decide)) ?_
  rintro _ _ ⟨d3, x3, s3, c3, rfl, hd30, hd31, rfl⟩
  simp only [gCmp_gt_int, asgS_nm, seqF, startE, Ok_bnd, Ok_ok, List.map_cons, List.map_nil, List.length_cons, List.length_nil, List.replicate, List.cons_append, List.nil_append, List.append_nil, List.getElem?_cons_zero, List.getElem?_cons_succ, List.set_cons_zero, List.set_cons_succ, wipeE, Nat.reduceLT, Nat.reduceAdd, if_true]
  generalize hcalm : decide (0 < d3) = calm
  rw [show iterV .enum [.fl (ns.map enc)] ((S ++ [Ob.lst []]).set b (boxO x3 s3 c3)) = .ok ((ns.zipIdx 0).map fun p => .tup [.int (p.2 : Int), enc p.1], .lst (.fl (ns.map enc)) (ns.map enc)) ((S ++ [Ob.lst []]).set b (boxO x3 s3 c3)) from by rw [← enumFrom_map]; rfl]
  simp only [Ok_ok, gdok_fl, if_true]
  refine forR (I := fun rem σ st => ∃ (ps : List (Nm × Nat)) (found : List (Nm × List Nm)) (x s c : Int) (o5 o6 o7 o8 o9 : Option Val), rem = ps.map (fun p => .tup [.int (p.2 : Int), enc p.1]) ∧ (∀ p ∈ ps, p ∈ ns.zipIdx 0) ∧
    σ = [some (.ref b), some (.int n), some (.fl (ns.map enc)), some (.ref S.length), some (.bl calm), o5, o6, o7, o8, o9, none] ∧ st = (S ++ [Ob.lst (found.map enc)]).set b (boxO x s c) ∧ RulesIn ns found ∧ found.length + 3 * ps.length ≤ 21) ?_ ?_ _ _ _
    ⟨ns.zipIdx 0, [], x3, s3, c3, none, none, none, none, none, rfl, fun p hp => hp, rfl, rfl, fun p hp => (by cases hp), by rw [List.length_zipIdx]; simp; omega⟩
  · rintro y rem σ st ⟨ps, found, x, s, c, o5, o6, o7, o8, o9, hrem, hps, rfl, rfl, hR, hlen⟩
    cases ps with
    | nil => cases hrem
    | cons p ps =>
      rw [List.map_cons] at hrem
      injection hrem with h1 h2
      subst h1 h2
      rw [List.length_cons] at hlen
      have hpm := hps p List.mem_cons_self
      obtain ⟨nm, at_⟩ := p
      obtain ⟨hat, hnm⟩ : ∃ h : at_ < ns.length, ns[at_] = nm := by
        have := List.mem_zipIdx hpm
        simp at this
        exact ⟨this.1, this.2.symm⟩
      refine ⟨_, rfl, ?_⟩
      simp only [seqF, tstV_bl, seqF, startE, Ok_bnd, Ok_ok, List.map_cons, List.map_nil, List.length_cons, List.length_nil, List.replicate, List.cons_append, List.nil_append, List.append_nil, List.getElem?_cons_zero, List.getElem?_cons_succ, List.set_cons_zero, List.set_cons_succ, wipeE]
      have hw1 : Wf (S ++ [Ob.lst (found.map enc)]) := hw.push (o := .lst (found.map enc)) (blwL_enc _ _)
      refine Ok_imp (Q := fun a st' => ∃ others : List Nm, a = .fl (others.map enc) ∧ st' = (S ++ [Ob.lst (found.map enc)]).set b (boxO x s c) ∧ nm ∉ others ∧ others.length ≤ 6 ∧ ∀ y ∈ others, y ∈ ns) ?_ ?_
      · cases calm with
        | true =>
          simp only [if_true, Res.bnd_ok, intV_int, slc_fl_take, Ok_ok]
          refine ⟨ns.take at_, by rw [List.map_take], by simp, ?_, ?_, fun y hy => List.mem_of_mem_take hy⟩
          · rw [← hnm]; exact not_mem_take hnd hat
          · rw [List.length_take]; omega
        | false =>
          simp only [Bool.false_eq_true, if_false, Res.bnd_ok, Ok_bnd, Ok_ok]
          rw [lcV_pure ns enc (fun y => decide (y ≠ nm)) enc rfl (gdok_fl _ _) (by unfold lim; omega) (fun y hy => ⟨_, rfl, ?_, fun _ => rfl⟩)]
          · refine ⟨ns.filter fun y => decide (y ≠ nm), rfl, rfl, ?_, ?_, fun y hy => (List.mem_filter.mp hy).1⟩
            · simp
            · have h1 : (ns.filter fun y => decide (y ≠ nm)).length < ns.length := by
                rw [List.length_filter_lt_length_iff_exists]
                exact ⟨nm, by rw [← hnm]; exact List.getElem_mem _, by simp⟩
              omega
          · show optB (cmpop .NotEq (enc y) (enc nm) ((S ++ [Ob.lst (found.map enc)]).set b (boxO x s c))) ((S ++ [Ob.lst (found.map enc)]).set b (boxO x s c)) = _
            rw [cmp_ne_enc]
            rfl
      · rintro _ _ ⟨others, rfl, rfl, hno, hol, ho14⟩
        simp only [asgS_nm, tstV_bl, seqF, startE, Ok_bnd, Ok_ok, List.map_cons, List.map_nil, List.length_cons, List.length_nil, List.replicate, List.cons_append, List.nil_append, List.append_nil, List.getElem?_cons_zero, List.getElem?_cons_succ, List.set_cons_zero, List.set_cons_succ, wipeE, Nat.reduceLT, Nat.reduceAdd, if_true]
        refine Ok_imp (Q := fun a st' => ∃ k x s c : Int, a = .int k ∧ 0 ≤ k ∧ k ≤ 3 ∧ st' = (S ++ [Ob.lst (found.map enc)]).set b (boxO x s c)) ?_ ?_
        · cases calm with
          | true =>
            simp only [if_true, Res.bnd_ok, Ok_bnd, Ok_ok]
            refine Ok_imp (take_run (by simp; omega) hw1 (by decide) (by decide)) ?_
            rintro _ _ ⟨d, x', s', c', rfl, h0, h1, rfl⟩
            exact ⟨1 + d, x', s', c', rfl, by omega, by omega, rfl⟩
          | false =>
            simp only [Bool.false_eq_true, if_false, Res.bnd_ok, Ok_bnd, Ok_ok]
            refine Ok_imp (take_run (by simp; omega) hw1 (by decide) (by decide)) ?_
            rintro _ _ ⟨d, x', s', c', rfl, h0, h1, rfl⟩
            exact ⟨d, x', s', c', rfl, by omega, by omega, rfl⟩
        · rintro _ _ ⟨k, x', s', c', rfl, hk0, hk3, rfl⟩
          rw [iterV_rngI _ (by omega)]
          simp only [gdok_none, if_true, seqF, startE, Ok_bnd, Ok_ok, List.map_cons, List.map_nil, List.length_cons, List.length_nil, List.replicate, List.cons_append, List.nil_append, List.append_nil, List.getElem?_cons_zero, List.getElem?_cons_succ, List.set_cons_zero, List.set_cons_succ, wipeE]
          refine forR (I := fun rem σ st => ∃ (found : List (Nm × List Nm)) (x s c : Int) (o8 o9 : Option Val), σ = [some (.ref b), some (.int n), some (.fl (ns.map enc)), some (.ref S.length), some (.bl calm), some (.int (at_ : Int)), some (enc nm), some (.fl (others.map enc)), o8, o9, none] ∧
            st = (S ++ [Ob.lst (found.map enc)]).set b (boxO x s c) ∧ RulesIn ns found ∧ found.length + rem.length + 3 * ps.length ≤ 21) ?_ ?_ _ _ _ ⟨found, x', s', c', o8, o9, rfl, rfl, hR, by rw [length_rngL]; omega⟩
          · rintro y rem σ st ⟨found, x, s, c, o8, o9, rfl, rfl, hR, hlen⟩
            rw [List.length_cons] at hlen
            refine ⟨_, rfl, ?_⟩
            have hw1 : Wf (S ++ [Ob.lst (found.map enc)]) := hw.push (o := .lst (found.map enc)) (blwL_enc _ _)
            simp only [seqF, seqF, startE, Ok_bnd, Ok_ok, List.map_cons, List.map_nil, List.length_cons, List.length_nil, List.replicate, List.cons_append, List.nil_append, List.append_nil, List.getElem?_cons_zero, List.getElem?_cons_succ, List.set_cons_zero, List.set_cons_succ, wipeE]
            refine lcVR (items := others.map enc) rfl (gdok_fl _ _) (by rw [List.length_map]; unfold lim; omega) ?_
            refine lcR (I := fun out rem st => ∃ (ws rest : List Nm) (x s c : Int), out = ws.map enc ∧ rem = rest.map enc ∧ (ws ++ rest).Sublist others ∧ st = (S ++ [Ob.lst (found.map enc)]).set b (boxO x s c)) ?_ ?_ _ _ ⟨[], others, x, s, c, rfl, rfl, .refl _, rfl⟩
            · rintro out y rem st ⟨ws, rest, x, s, c, rfl, hrem, hsub, rfl⟩
              cases rest with
              | nil => cases hrem
              | cons z rest =>
                rw [List.map_cons] at hrem
                injection hrem with h1 h2
                subst h1 h2
                refine ⟨_, rfl, ?_⟩
                simp only [seqF, startE, Ok_bnd, Ok_ok, List.map_cons, List.map_nil, List.length_cons, List.length_nil, List.replicate, List.cons_append, List.nil_append, List.append_nil, List.getElem?_cons_zero, List.getElem?_cons_succ, List.set_cons_zero, List.set_cons_succ, wipeE]
                refine Ok_imp (take_run (by simp; omega) hw1 (by decide) (by decide)) ?_
                rintro _ _ ⟨d, x', s', c', rfl, h0, h1, rfl⟩
                simp only [cmp_lt_int, optB_some, Ok_ok]
                split
                · exact ⟨gdok_fl _ _, ws ++ [z], rest, x', s', c', by rw [List.map_append]; rfl, rfl, by simpa using hsub, rfl⟩
                · exact ⟨gdok_fl _ _, ws, rest, x', s', c', rfl, rfl, (List.Sublist.append_left (List.sublist_cons_self _ _) _).trans hsub, rfl⟩
            · rintro out st ⟨ws, rest, x, s, c, rfl, hrem, hsub, rfl⟩
              have : rest = [] := by cases rest with | nil => rfl | cons => cases hrem
              subst this
              rw [List.append_nil] at hsub
              have hwl := hsub.length_le
              simp only [newL_false, seqF, startE, Ok_bnd, Ok_ok, List.map_cons, List.map_nil, List.length_cons, List.length_nil, List.replicate, List.cons_append, List.nil_append, List.append_nil, List.getElem?_cons_zero, List.getElem?_cons_succ, List.set_cons_zero, List.set_cons_succ, wipeE, Nat.reduceLT, Nat.reduceAdd, if_true]
              rw [bm_list (one_get hb)]
              simp only [tupleV_fl, tupV_2, seqF, startE, Ok_bnd, Ok_ok, List.map_cons, List.map_nil, List.length_cons, List.length_nil, List.replicate, List.cons_append, List.nil_append, List.append_nil, List.getElem?_cons_zero, List.getElem?_cons_succ, List.set_cons_zero, List.set_cons_succ, wipeE]
              rw [appendV_at (one_get hb) (by rw [List.length_map]; unfold lim; omega), one_set hb]
              simp only [seqF, startE, Ok_bnd, Ok_ok, List.map_cons, List.map_nil, List.length_cons, List.length_nil, List.replicate, List.cons_append, List.nil_append, List.append_nil, List.getElem?_cons_zero, List.getElem?_cons_succ, List.set_cons_zero, List.set_cons_succ, wipeE]
              refine ⟨rfl, found ++ [(nm, ws)], x, s, c, _, _, rfl, ?_, ?_, ?_⟩
              · rw [List.map_append]; rfl
              · intro p hp
                rcases List.mem_append.mp hp with hp | hp
                · exact hR p hp
                · rw [List.mem_singleton] at hp
                  subst hp
                  exact ⟨(by rw [← hnm]; exact List.getElem_mem _), fun h => hno (hsub.subset h), by show ws.length ≤ 6; omega, fun y hy => ho14 y (hsub.subset hy)⟩
              · rw [List.length_append, List.length_singleton]; omega
          · rintro σ st ⟨found, x, s, c, o8, o9, rfl, rfl, hR, hlen⟩
            simp only [List.length_nil] at hlen
            simp only [seqF, startE, Ok_bnd, Ok_ok, List.map_cons, List.map_nil, List.length_cons, List.length_nil, List.replicate, List.cons_append, List.nil_append, List.append_nil, List.getElem?_cons_zero, List.getElem?_cons_succ, List.set_cons_zero, List.set_cons_succ, wipeE]
            exact ⟨gdok_fl _ _, ps, found, x, s, c, _, _, _, _, _, rfl, fun p hp => hps p (List.mem_cons_of_mem _ hp), rfl, rfl, hR, by omega⟩
  · rintro σ st ⟨ps, found, x, s, c, o5, o6, o7, o8, o9, hrem, hps, rfl, rfl, hR, hlen⟩
    have : ps = [] := by cases ps with | nil => rfl | cons => cases hrem
    subst this
    rw [List.length_nil] at hlen
    have hw1 : Wf (S ++ [Ob.lst (found.map enc)]) := hw.push (o := .lst (found.map enc)) (blwL_enc _ _)
    simp only [seqF, startE, Ok_bnd, Ok_ok, List.map_cons, List.map_nil, List.length_cons, List.length_nil, List.replicate, List.cons_append, List.nil_append, List.append_nil, List.getElem?_cons_zero, List.getElem?_cons_succ, List.set_cons_zero, List.set_cons_succ, wipeE]
    refine Ok_imp (mixed_run (v := enc) (xs := found) (fun x n => Enc.blw x n) (by simp; omega) hw1 (seqOf_ref (one_get hb)) (by omega)) ?_
    rintro _ _ ⟨ys, x', s', c', rfl, hp, rfl⟩
    refine ⟨_, rfl, finN_val ?_ (blwL_enc _ _) ⟨ys, ns, x', s', c', rfl, by rw [hp.length_eq]; omega, fun p hpm => hR p (hp.mem_iff.mp hpm), hn14, by omega, ?_⟩⟩
    · rw [List.length_set, one_take hb]
      exact all_set hw (blw_box _) b
    · rw [List.length_set, one_take hb]
theorem rules_run {S : Store} {b : Nat} {x s c n : Int} (hb : b < S.length) (hw : Wf S) (hn : 0 < n ∧ n ≤ 7) :
    (r__law_rules [.ref b, .int n] (S.set b (boxO x s c))).Ok fun r st' => ∃ (R : List (Nm × List Nm)) (x' s' c' : Int), r = .fl (R.map enc) ∧ R.length ≤ 21 ∧ RulesOk R ∧ st' = S.set b (boxO x' s' c') := by
  refine Ok_imp (rules_runN hb hw hn) ?_
  rintro _ _ ⟨R, nms, x', s', c', h1, h2, h3, h4, h5, h6⟩
  exact ⟨R, x', s', c', h1, h2, fun p hp => ⟨h4 _ (h3 p hp).1, (h3 p hp).2.1, (h3 p hp).2.2.1, fun y hy => h4 y ((h3 p hp).2.2.2 y hy)⟩, h6⟩

theorem box_run (script : List Int) (k : Nat) (own : Int) (st : Store) : ∃ x s c, r__law_box [.wl (script.map .int), .int (k : Int), .int own] st = .ok (.ref st.length) (st ++ [boxO x s c]) := by
  suffices h : ∃ x s c, (bod__law_box.1 (startE 5 [.wl (script.map .int), .int (k : Int), .int own]) []).Ok fun r st1 => ∃ k : Nat, retOf r.1 = some (.ref k) ∧ st1[k]? = some (boxO x s c) by
    obtain ⟨x, s, c, h⟩ := h
    exact ⟨x, s, c, call_new rfl (by simp [Val.blwL, Val.blw, blwL_ints]) rfl h⟩
  simp (disch := decide) only [bod__law_box, seqF, startE, Ok_bnd, Ok_ok, List.map_cons, List.map_nil, List.length_cons, List.length_nil, List.replicate, List.cons_append, List.nil_append, List.append_nil, List.getElem?_cons_zero, List.getElem?_cons_succ, List.set_cons_zero, List.set_cons_succ, wipeE, bin_mulL, bin_mulR, bin_add, asgS_nm, Nat.reduceLT, Nat.reduceAdd, if_true, lenV_wl, cmp_lt_int, optB_some]
  have e18 : (10 : Int) ^ (18 : Int).toNat = 1000000000000000000 := by decide
  by_cases h1 : (k : Int) < ((script.map Val.int).length : Int)
  · have hk : k < script.length := by rw [List.length_map] at h1; omega
    simp (disch := decide) only [h1, decide_true, if_true, Res.bnd_ok, seqF, startE, Ok_bnd, Ok_ok, List.map_cons, List.map_nil, List.length_cons, List.length_nil, List.replicate, List.cons_append, List.nil_append, List.append_nil, List.getElem?_cons_zero, List.getElem?_cons_succ, List.set_cons_zero, List.set_cons_succ, wipeE, idx_wl hk, absV_int, asgS_nm, Nat.reduceLT, Nat.reduceAdd, intV1_int, bin_mod _ _ 2147483629, bin_mulL, bin_mulR, bin_add, lstV_2, lstV_3, newL_false, newL_true, bin_pow, gCmp_ge_int, intV1_bl, idx_pick]
    exact ⟨_, _, _, 0, rfl, rfl⟩
  · simp (disch := decide) only [h1, decide_false, Bool.false_eq_true, if_false, Res.bnd_ok, seqF, startE, Ok_bnd, Ok_ok, List.map_cons, List.map_nil, List.length_cons, List.length_nil, List.replicate, List.cons_append, List.nil_append, List.append_nil, List.getElem?_cons_zero, List.getElem?_cons_succ, List.set_cons_zero, List.set_cons_succ, wipeE, lenV_wl, cmp_gt_int, optB_some]
    by_cases h2 : (0 : Int) < ((script.map Val.int).length : Int)
    · have hm : 0 ≤ (k : Int) % ((script.map Val.int).length : Int) ∧ (k : Int) % ((script.map Val.int).length : Int) < (script.map Val.int).length := ⟨Int.emod_nonneg _ (by omega), Int.emod_lt_of_pos _ h2⟩
      obtain ⟨j, hj⟩ : ∃ j : Nat, (k : Int) % ((script.map Val.int).length : Int) = (j : Int) := ⟨((k : Int) % ((script.map Val.int).length : Int)).toNat, by omega⟩
      have hjl : j < script.length := by rw [List.length_map] at hm hj; omega
      simp (disch := decide) only [h2, decide_true, if_true, Res.bnd_ok, seqF, startE, Ok_bnd, Ok_ok, List.map_cons, List.map_nil, List.length_cons, List.length_nil, List.replicate, List.cons_append, List.nil_append, List.append_nil, List.getElem?_cons_zero, List.getElem?_cons_succ, List.set_cons_zero, List.set_cons_succ, wipeE, intV1_int, lenV_wl, bin_mod _ _ _ _ h2, hj, idx_wl hjl, absV_int, asgS_nm, Nat.reduceLT, Nat.reduceAdd, bin_mod _ _ 2147483629, bin_mulL, bin_mulR, bin_add, lstV_2, lstV_3, newL_false, newL_true, bin_pow, gCmp_ge_int, intV1_bl, idx_pick]
      exact ⟨_, _, _, 0, rfl, rfl⟩
    · simp (disch := decide) only [h2, decide_false, Bool.false_eq_true, if_false, Res.bnd_ok, seqF, startE, Ok_bnd, Ok_ok, List.map_cons, List.map_nil, List.length_cons, List.length_nil, List.replicate, List.cons_append, List.nil_append, List.append_nil, List.getElem?_cons_zero, List.getElem?_cons_succ, List.set_cons_zero, List.set_cons_succ, wipeE, intV1_int, asgS_nm, Nat.reduceLT, Nat.reduceAdd, if_true, bin_mod _ _ 2147483629, bin_mulL, bin_mulR, bin_add, lstV_2, lstV_3, newL_false, newL_true, bin_pow, gCmp_ge_int, intV1_bl, idx_pick]
      exact ⟨_, _, _, 0, rfl, rfl⟩
theorem law_lot_run {g : Val} {xs : List Nm} {st : Store} (hs : SeqS st g (xs.map enc)) (hl : xs.length < 10000) (hw : Wf st) : r__law_lot [g] st = .ok (enc (lotL xs)) st := by
  refine call_both rfl (Enc.blw _ _) hw fun S hS => ?_
  have hs := (hs.own hS).app [.lst []]
  simp only [bod__law_lot, seqF, startE, Ok_bnd, Ok_ok, List.map_cons, List.map_nil, List.length_cons, List.length_nil, List.replicate, List.cons_append, List.nil_append, List.append_nil, List.getElem?_cons_zero, List.getElem?_cons_succ, List.set_cons_zero, List.set_cons_succ, wipeE, lstV_0, newL_true, asgS_nm, Nat.reduceLT, Nat.reduceAdd, if_true]
  obtain ⟨gd, ew, hg⟩ := hs.walk
  rw [lcV_pure xs enc (fun _ => true) enc ew (hg _ hs) (by unfold lim; omega) (fun x hx => ⟨_, rfl, rfl, fun _ => rfl⟩)]
  simp only [newL_false, List.filter_true', Ok_ok]
  rw [sortAV_nm false _]
  simp only [newL_false, Ok_ok, iterV_fl, gdok_fl, if_true]
  refine Ok_of (forL_foldI (v := enc) (E := fun s => [some g, some (.ref S.length), s.1, none]) (T := fun s => S ++ [.lst (s.2.map enc)])
    (step := fun (s : Option Val × List Nm) y => (some (enc y), if s.2 = [] ∨ s.2.getLast? ≠ some y then s.2 ++ [y] else s.2)) (I := fun ys s => s.2.length + ys.length < 10000) ?_ (isort ltN xs) (none, []) (by rw [(isort_perm xs).length_eq]; simpa using hl)) ?_
  · intro s y ys hI
    rw [List.length_cons] at hI
    obtain ⟨o, acc⟩ := s
    have hI : acc.length + (ys.length + 1) < 10000 := hI
    refine ⟨_, rfl, .nx, .inl rfl, ?_, gdok_fl _ _, ?_⟩
    · have e1 : cmpop .Eq (.ref S.length) (.fl []) (S ++ [Ob.lst (acc.map enc)]) = some (decide (acc = [])) := by
        rw [cmp_eq_def]
        exact pyEq_lst (α := Nm) (xs := acc) (ys := []) (lstOf_ref (end_get _ _)) rfl
      simp only [seqF, Res.bnd_ok, seqF, startE, Ok_bnd, Ok_ok, List.map_cons, List.map_nil, List.length_cons, List.length_nil, List.replicate, List.cons_append, List.nil_append, List.append_nil, List.getElem?_cons_zero, List.getElem?_cons_succ, List.set_cons_zero, List.set_cons_succ, wipeE, lstV_0, newL_false, e1, optB_some, negV]
      by_cases h1 : acc = []
      · subst h1
        simp only [decide_true, if_true, Res.bnd_ok, true_or]
        rw [bm_list (end_get _ _)]
        simp only [Res.bnd_ok]
        rw [appendV_at (end_get _ _) (by simp; unfold lim; omega), end_set]
        simp
      · obtain ⟨z, hz⟩ : ∃ z, acc.getLast? = some z := ⟨acc.getLast h1, List.getLast?_eq_some_getLast h1⟩
        have e2 : cmpop .NotEq (enc z) (enc y) (S ++ [Ob.lst (acc.map enc)]) = some (decide (z ≠ y)) := cmp_ne_enc z y _
        simp only [h1, decide_false, Bool.false_eq_true, if_false, false_or, hz]
        rw [idx_last (end_get _ _) hz]
        simp only [Res.bnd_ok, e2, optB_some, ne_eq, Option.some.injEq, decide_not, Bool.not_eq_true', decide_eq_false_iff_not]
        split
        · rw [bm_list (end_get _ _)]
          simp only [Res.bnd_ok]
          rw [appendV_at (end_get _ _) (by rw [List.length_map]; unfold lim; omega), end_set]
          simp
        · rfl
    · show (if _ then _ else _ : List Nm).length + _ < _
      split
      · rw [List.length_append, List.length_singleton]; show acc.length + 1 + _ < _; have : acc.length + (ys.length + 1) < 10000 := hI; omega
      · show acc.length + _ < _; have : acc.length + (ys.length + 1) < 10000 := hI; omega
  · simp only [seqF, startE, Ok_bnd, Ok_ok, List.map_cons, List.map_nil, List.length_cons, List.length_nil, List.replicate, List.cons_append, List.nil_append, List.append_nil, List.getElem?_cons_zero, List.getElem?_cons_succ, List.set_cons_zero, List.set_cons_succ, wipeE]
    rw [adj_fold, adj_lot, tupleV_ref (xs := (lotL xs).map enc) (end_get _ _)]
    exact ⟨rfl, end_take _ _⟩
theorem law_may_run {g rv : Val} {R : List (Nm × List Nm)} {gs : List Nm} (hs : SeqV g (gs.map enc)) (hr : SeqV rv (R.map enc)) (hl : R.length < 10000) (hR : ∀ p ∈ R, p.2.length ≤ lim) (st : Store) : r__law_may [rv, g] st = .ok (enc (lotL ((R.filter fun p => decide (p.1 ∉ gs) && p.2.all fun x => decide (x ∈ gs)).map (·.1)))) st := by
  refine call_val rfl (by simp [Val.blwL, hr.blw (blwL_enc 0 R), hs.blw (blwL_enc 0 gs)]) (Enc.blw _ _) ?_
  simp only [bod__law_may, seqF, startE, Ok_bnd, Ok_ok, List.map_cons, List.map_nil, List.length_cons, List.length_nil, List.replicate, List.cons_append, List.nil_append, List.append_nil, List.getElem?_cons_zero, List.getElem?_cons_succ, List.set_cons_zero, List.set_cons_succ, wipeE, lstV_0, newL_true, asgS_nm, Nat.reduceLT, Nat.reduceAdd, if_true]
  obtain ⟨gd, ew, hg⟩ := hr.iter [.lst []]
  rw [ew]
  simp only [Ok_ok, hg, if_true]
  refine Ok_of (forL_foldI (v := enc) (E := fun s => [some rv, some g, some (.ref 0), s.1.1, s.1.2, none]) (T := fun s => [.lst ((s.2.map (·.1)).map enc)])
    (step := fun (s : (Option Val × Option Val) × List (Nm × List Nm)) p => ((some (enc p.1), some (enc p.2)), if (decide (p.1 ∉ gs) && p.2.all fun x => decide (x ∈ gs)) then s.2 ++ [p] else s.2)) (I := fun ps s => s.2.length + ps.length < 10000 ∧ ∀ p ∈ ps, p.2.length ≤ lim) ?_ R ((none, none), []) ⟨by simpa using hl, hR⟩) ?_
  · rintro ⟨⟨o3, o4⟩, acc⟩ ⟨n, ws⟩ ps ⟨hI, hI2⟩
    rw [List.length_cons] at hI
    refine ⟨_, rfl, .nx, .inl rfl, ?_, hg _, ?_, fun p hp => hI2 p (List.mem_cons_of_mem _ hp)⟩
    · have e1 : ∀ st, cmpop .NotIn (enc n) g st = some (decide (n ∉ gs)) := fun st => cmp_notin (hs.seqOf st) n
      simp only [seqF, Res.bnd_ok, seqF, startE, Ok_bnd, Ok_ok, List.map_cons, List.map_nil, List.length_cons, List.length_nil, List.replicate, List.cons_append, List.nil_append, List.append_nil, List.getElem?_cons_zero, List.getElem?_cons_succ, List.set_cons_zero, List.set_cons_succ, wipeE, e1, optB_some]
      by_cases hx : n ∈ gs
      · simp only [hx, not_true_eq_false, decide_false, Bool.false_eq_true, if_false, Res.bnd_ok, Bool.false_and]
      · simp only [hx, not_false_eq_true, decide_true, if_true, Bool.true_and]
        rw [lcV_pure ws enc (fun x => decide (x ∉ gs)) enc rfl rfl (hI2 _ List.mem_cons_self) (fun x hx => ⟨_, rfl, ?_, fun _ => rfl⟩)]
        · simp only [newL_false, Res.bnd_ok, lstV_0]
          have e2 : cmpop .Eq (.fl ((ws.filter fun x => decide (x ∉ gs)).map enc)) (.fl []) [Ob.lst ((acc.map (·.1)).map enc)] = some (ws.all fun x => decide (x ∈ gs)) := by
            rw [cmp_eq_def, pyEq_lst (α := Nm) (xs := ws.filter fun x => decide (x ∉ gs)) (ys := []) rfl rfl]
            congr 1
            rw [Bool.eq_iff_iff, decide_eq_true_eq, List.filter_eq_nil_iff, List.all_eq_true]
            simp
          rw [e2]
          simp only [optB_some, Res.bnd_ok]
          split
          · rw [bm_list rfl]
            simp only [Res.bnd_ok]
            rw [appendV_at rfl (by rw [List.length_map, List.length_map]; have : acc.length + (ps.length + 1) < 10000 := hI; unfold lim; omega)]
            simp [enc_nm]
          · rfl
        · show optB (cmpop .NotIn (enc x) g _) _ = _
          rw [cmp_notin (hs.seqOf _)]
          rfl
    · show (if _ then _ else _ : List (Nm × List Nm)).length + _ < _
      have hI : acc.length + (ps.length + 1) < 10000 := hI
      split
      · rw [List.length_append, List.length_singleton]; show acc.length + 1 + _ < _; omega
      · show acc.length + _ < _; omega
  · have key : ∀ (ps acc : List (Nm × List Nm)) (o : Option Val × Option Val), (ps.foldl (fun (s : (Option Val × Option Val) × List (Nm × List Nm)) p => ((some (enc p.1), some (enc p.2)), if (decide (p.1 ∉ gs) && p.2.all fun x => decide (x ∈ gs)) then s.2 ++ [p] else s.2)) (o, acc)).2 = acc ++ ps.filter fun p => decide (p.1 ∉ gs) && p.2.all fun x => decide (x ∈ gs) := by
      intro ps
      induction ps with
      | nil => intro acc o; simp
      | cons p ps ih =>
        intro acc o
        rw [List.foldl_cons, ih]
        cases h : (decide (p.1 ∉ gs) && p.2.all fun x => decide (x ∈ gs)) with
        | true => rw [if_pos rfl, List.filter_cons_of_pos (by exact h), List.append_assoc]; rfl
        | false => rw [if_neg (by simp), List.filter_cons_of_neg (by rw [h]; simp)]
    simp only [seqF, startE, Ok_bnd, Ok_ok, List.map_cons, List.map_nil, List.length_cons, List.length_nil, List.replicate, List.cons_append, List.nil_append, List.append_nil, List.getElem?_cons_zero, List.getElem?_cons_succ, List.set_cons_zero, List.set_cons_succ, wipeE]
    rw [key, law_lot_run (xs := (R.filter fun p => decide (p.1 ∉ gs) && p.2.all fun x => decide (x ∈ gs)).map (·.1)) (.inr ⟨0, rfl, by simp⟩) (by rw [List.length_map]; exact Nat.lt_of_le_of_lt (List.length_filter_le _ _) hl) (wf_one _)]
    rfl
theorem law_people_run {R : List (Nm × List Nm)} (hl : (R.flatMap fun p => p.1 :: p.2).length < 10000) (st : Store) : r__law_people [.fl (R.map enc)] st = .ok (enc (lotL (R.flatMap fun p => p.1 :: p.2))) st := by
  refine call_val rfl (by simp [Val.blwL, Val.blw, blwL_enc]) (Enc.blw _ _) ?_
  simp only [bod__law_people, seqF, startE, Ok_bnd, Ok_ok, List.map_cons, List.map_nil, List.length_cons, List.length_nil, List.replicate, List.cons_append, List.nil_append, List.append_nil, List.getElem?_cons_zero, List.getElem?_cons_succ, List.set_cons_zero, List.set_cons_succ, wipeE, lstV_0, newL_true, asgS_nm, Nat.reduceLT, Nat.reduceAdd, if_true, iterV_fl, gdok_fl]
  refine Ok_of (forL_foldI (v := enc) (E := fun s => [some (.fl (R.map enc)), some (.ref 0), s.1.1, s.1.2]) (T := fun s => [.lst (s.2.map enc)])
    (step := fun (s : (Option Val × Option Val) × List Nm) (p : Nm × List Nm) => ((some (enc p.1), some (enc p.2)), s.2 ++ p.1 :: p.2)) (I := fun ps s => s.2.length + (ps.flatMap fun p => p.1 :: p.2).length < 10000) ?_ R ((none, none), []) (by simpa using hl)) ?_
  · rintro ⟨⟨o3, o4⟩, acc⟩ ⟨n, ws⟩ ps hI
    rw [List.flatMap_cons, List.length_append, List.length_cons] at hI
    have hI : acc.length + (ws.length + 1 + (ps.flatMap fun p => p.1 :: p.2).length) < 10000 := hI
    refine ⟨_, rfl, .nx, .inl rfl, ?_, gdok_fl _ _, ?_⟩
    · simp only [seqF, Res.bnd_ok, seqF, startE, Ok_bnd, Ok_ok, List.map_cons, List.map_nil, List.length_cons, List.length_nil, List.replicate, List.cons_append, List.nil_append, List.append_nil, List.getElem?_cons_zero, List.getElem?_cons_succ, List.set_cons_zero, List.set_cons_succ, wipeE]
      rw [bm_list rfl]
      simp only [Res.bnd_ok, lstV_1, newL_false, listV_seq SeqV.tup, enc_list]
      have e : binop false .Add (.fl [enc n]) (.fl (ws.map enc)) [Ob.lst (acc.map enc)] = .ok (.fl (enc n :: ws.map enc)) [Ob.lst (acc.map enc)] := by
        show (if _ then _ else _) = _
        rw [if_pos (by simp; unfold lim; omega)]
        rfl
      rw [e]
      simp only [Res.bnd_ok]
      rw [show extendV (.ref 0) [.fl (enc n :: ws.map enc)] [Ob.lst (acc.map enc)] = .ok .non [Ob.lst (acc.map enc ++ enc n :: ws.map enc)] from by
        unfold extendV
        simp [lstJ, lstOf]
        unfold lim; omega]
      simp [enc_list]
    · show (acc ++ n :: ws).length + _ < _
      rw [List.length_append, List.length_cons]; omega
  · have key : ∀ (ps : List (Nm × List Nm)) (acc : List Nm) (o : Option Val × Option Val), (ps.foldl (fun (s : (Option Val × Option Val) × List Nm) (p : Nm × List Nm) => ((some (enc p.1), some (enc p.2)), s.2 ++ p.1 :: p.2)) (o, acc)).2 = acc ++ ps.flatMap fun p => p.1 :: p.2 := by
      intro ps
      induction ps with
      | nil => intro acc o; simp
      | cons p ps ih =>
        intro acc o
        rw [List.foldl_cons, ih, List.flatMap_cons, List.append_assoc]
    simp only [seqF, startE, Ok_bnd, Ok_ok, List.map_cons, List.map_nil, List.length_cons, List.length_nil, List.replicate, List.cons_append, List.nil_append, List.append_nil, List.getElem?_cons_zero, List.getElem?_cons_succ, List.set_cons_zero, List.set_cons_succ, wipeE]
    rw [key, law_lot_run (xs := R.flatMap fun p => p.1 :: p.2) (.inr ⟨0, rfl, by simp⟩) hl (wf_one _)]
    rfl

theorem law_made_run {R : List (Nm × List Nm)} (hl : R.length ≤ 300) (hR : ∀ p ∈ R, p.1 ∉ p.2 ∧ p.2.length ≤ 60) (st : Store) : r__law_made [.fl (R.map enc)] st = .ok (lawRoom R) st := by
  refine call_val rfl (by simp [Val.blwL, Val.blw, blwL_enc]) rfl ?_
  simp only [bod__law_made, seqF, startE, Ok_bnd, Ok_ok, List.map_cons, List.map_nil, List.length_cons, List.length_nil, List.replicate, List.cons_append, List.nil_append, List.append_nil, List.getElem?_cons_zero, List.getElem?_cons_succ, List.set_cons_zero, List.set_cons_succ, wipeE]
  rw [lcV_pure R enc (fun _ => true) (fun p => ruleV ⟨p.1, lotL p.2⟩) rfl (gdok_fl _ _) (by unfold lim; omega) (fun p hp => ⟨_, rfl, rfl, fun _ => ?_⟩)]
  · simp only [newL_false, List.filter_true', Ok_ok]
    rw [show (R.map fun p => ruleV ⟨p.1, lotL p.2⟩) = (toRules R).map ruleV from by unfold toRules; rw [List.map_map]; rfl]
    rw [mk_room SeqV.fl (by unfold toRules; rw [List.length_map]; exact hl) ?_ rfl]
    · show some (roomV _ _ _) = some (roomV _ _ _)
      rw [people_eq]
    · intro r hr
      unfold toRules at hr
      obtain ⟨p, hp, rfl⟩ := List.mem_map.mp hr
      exact Nat.le_trans (length_lotL _) (hR p hp).2
  · simp only [Res.bnd_ok, seqF, startE, Ok_bnd, Ok_ok, List.map_cons, List.map_nil, List.length_cons, List.length_nil, List.replicate, List.cons_append, List.nil_append, List.append_nil, List.getElem?_cons_zero, List.getElem?_cons_succ, List.set_cons_zero, List.set_cons_succ, wipeE]
    exact mk_rule p.1 SeqV.tup (hR p hp).2 (hR p hp).1 _

theorem may_runR {R : List RuleD} {ns gs : List Nm} {t : Str} {g : Val} (ok : RoomOk R ns) (hs : SeqV g (gs.map enc)) (st : Store) : r_may [roomV R ns t, g] st = .ok (enc (mayL R ns gs)) st :=
  may_run hs (by have := ok.rl; unfold lim; omega) (by have := ok.nl; unfold lim; omega) (fun r hr => by have := ok.gl r hr; unfold lim; omega) st
theorem most_gone_run {R : List RuleD} {ns xs : List Nm} {t : Str} {g : Val} (ok : RoomOk R ns) (hs : SeqV g (xs.map enc)) (st : Store) :
    r_most_gone [roomV R ns t, g] st = .ok (enc (mostL R ns xs)) st ∧ Most R ns xs (mostL R ns xs) := by
  suffices h : ∃ M, r_most_gone [roomV R ns t, g] st = .ok (enc M) st ∧ Most R ns xs M by
    obtain ⟨M, h1, h2⟩ := h
    rw [h2.eq]
    exact ⟨h1, h2⟩
  suffices h : (bod_most_gone.1 (startE 5 [roomV R ns t, g]) []).Ok fun r _ => ∃ M : List Nm, retOf r.1 = some (enc M) ∧ Most R ns xs M by
    obtain ⟨r, st1, e, M, h1, h2⟩ := Ok_get h
    exact ⟨M, call_val rfl (by simp [Val.blwL, Val.blw, roomV, hs.blw (blwL_enc 0 xs)]) (Enc.blw _ _) (Ok_of e h1), h2⟩
  have hml : ∀ gs, (mayL R ns gs).length ≤ lim := fun gs => by
    have := List.length_filter_le (fun n => decide (n ∉ gs) && (R.filter fun r => decide (r.name = n)).any fun r => r.gone.all fun x => decide (x ∈ gs)) ns
    have h2 := ok.nl
    unfold lim mayL
    omega
  have hm0 : ∀ st, r_may [roomV R ns t, .tup []] st = .ok (enc (mayL R ns [])) st := fun st => may_runR ok (gs := []) SeqV.tup st
  have hme : ∀ gs st, r_may [roomV R ns t, enc gs] st = .ok (enc (mayL R ns gs)) st := fun gs st => may_runR ok SeqV.tup st
  simp only [bod_most_gone, seqF, startE, Ok_bnd, Ok_ok, List.map_cons, List.map_nil, List.length_cons, List.length_nil, List.replicate, List.cons_append, List.nil_append, List.append_nil, List.getElem?_cons_zero, List.getElem?_cons_succ, List.set_cons_zero, List.set_cons_succ, wipeE, asgS_nm, Nat.reduceLT, if_true, Nat.reduceAdd, tupV_0, hm0]
  have cond : ∀ (x : Nm) (st : Store), optB (cmpop .NotIn (enc x) g st) st = .ok (decide (x ∉ xs)) st := fun x st => by rw [cmp_notin (hs.seqOf st)]; rfl
  rw [lcV_pure (mayL R ns []) enc (fun x => decide (x ∉ xs)) enc rfl rfl (hml _) (fun x hx => ⟨_, rfl, cond x _, fun _ => rfl⟩)]
  simp only [newL_false, Ok_ok]
  refine whileR (I := fun n σ st => ∃ M : List Nm, σ = [some (roomV R ns t), some g, some (enc M), some (.fl (((mayL R ns M).filter fun x => decide (x ∉ xs)).map enc)), none] ∧ MostI R ns xs M ∧ n = ns.length - M.length) ?_ lim ns.length _ _ (by have := ok.nl; unfold lim; omega) ⟨[], rfl, MostI.nil, by simp⟩
  rintro n σ st ⟨M, rfl, hM, rfl⟩
  simp only [seqF, startE, Ok_bnd, Ok_ok, List.map_cons, List.map_nil, List.length_cons, List.length_nil, List.replicate, List.cons_append, List.nil_append, List.append_nil, List.getElem?_cons_zero, List.getElem?_cons_succ, List.set_cons_zero, List.set_cons_succ, wipeE, SeqV.fl.len, cmp_gt_int, optB_some, List.length_map]
  by_cases he : ((mayL R ns M).filter fun x => decide (x ∉ xs)) = []
  · rw [decide_eq_false (by rw [he]; decide)]
    rw [if_neg (by simp)]
    exact ⟨M, rfl, hM.done he⟩
  · have hpos := List.length_pos_iff.mpr he
    rw [decide_eq_true (by omega), if_pos rfl]
    have hst : ∀ st, starV (fun st => starV (fun st => .ok [] st) (.fl (((mayL R ns M).filter fun x => decide (x ∉ xs)).map enc)) st) (enc M) st = .ok ((M ++ (mayL R ns M).filter fun x => decide (x ∉ xs)).map enc) st := fun st => by
      simp [starV, enc_list, seqOf, lstOf]
    have hMl := hM.len
    have hfl := List.length_filter_le (fun x => decide (x ∉ xs)) (mayL R ns M)
    have h1 := hml M
    have hnl := ok.nl
    have hcl : (M ++ (mayL R ns M).filter fun x => decide (x ∉ xs)).length ≤ lim := by
      have := List.length_filter_le (fun n => decide (n ∉ M) && (R.filter fun r => decide (r.name = n)).any fun r => r.gone.all fun x => decide (x ∈ M)) ns
      unfold mayL at hfl ⊢
      rw [List.length_append]
      unfold lim
      omega
    simp only [Res.bnd_ok, hst, Ok_ok]
    rw [show ∀ st, lstV false ((M ++ (mayL R ns M).filter fun x => decide (x ∉ xs)).map enc) st = .ok (.fl ((M ++ (mayL R ns M).filter fun x => decide (x ∉ xs)).map enc)) st from fun st => by
      unfold lstV
      rw [if_pos (by rw [List.length_map]; exact hcl)]
      rfl]
    simp only [Ok_ok, seqF, startE, Ok_bnd, Ok_ok, List.map_cons, List.map_nil, List.length_cons, List.length_nil, List.replicate, List.cons_append, List.nil_append, List.append_nil, List.getElem?_cons_zero, List.getElem?_cons_succ, List.set_cons_zero, List.set_cons_succ, wipeE, lot_of_run SeqV.fl hcl, asgS_nm, Nat.reduceLT, Nat.reduceAdd, if_true]
    generalize hM' : lotL (M ++ (mayL R ns M).filter fun x => decide (x ∉ xs)) = M'
    have hMM : MostI R ns xs M' := hM' ▸ hM.step
    have hgr : M.length < M'.length := hM' ▸ hM.grow he
    have hMl' := hMM.len
    simp only [hme, Ok_ok]
    rw [lcV_pure (mayL R ns M') enc (fun x => decide (x ∉ xs)) enc rfl rfl (hml _) (fun x hx => ⟨_, rfl, cond x _, fun _ => rfl⟩)]
    simp only [newL_false, seqF, startE, Ok_bnd, Ok_ok, List.map_cons, List.map_nil, List.length_cons, List.length_nil, List.replicate, List.cons_append, List.nil_append, List.append_nil, List.getElem?_cons_zero, List.getElem?_cons_succ, List.set_cons_zero, List.set_cons_succ, wipeE, Nat.reduceLT, Nat.reduceAdd, if_true]
    exact ⟨_, by omega, M', rfl, hMM, rfl⟩
theorem rest_of_run {R : List RuleD} {ns gs : List Nm} {t : Str} {g : Val} (ok : RoomOk R ns) (hs : SeqV g (gs.map enc)) (st : Store) : r_rest_of [roomV R ns t, g] st = .ok (enc (ns.filter fun x => decide (x ∉ gs))) st := by
  refine call_val rfl (by simp [Val.blwL, Val.blw, roomV, hs.blw (blwL_enc 0 gs)]) (Enc.blw _ _) ?_
  simp only [bod_rest_of, seqF, startE, Ok_bnd, Ok_ok, List.map_cons, List.map_nil, List.length_cons, List.length_nil, List.replicate, List.cons_append, List.nil_append, List.append_nil, List.getElem?_cons_zero, List.getElem?_cons_succ, List.set_cons_zero, List.set_cons_succ, wipeE, at_names]
  rw [lcV_pure ns enc (fun x => decide (x ∉ gs)) enc rfl rfl (by have := ok.nl; unfold lim; omega) (fun x hx => ⟨_, rfl, (show optB (cmpop .NotIn (enc x) g []) [] = _ by rw [cmp_notin (hs.seqOf [])]; rfl), fun _ => rfl⟩)]
  rfl
theorem need_names_run {R : List RuleD} {ns xs : List Nm} {t : Str} {g : Val} (ok : RoomOk R ns) (hs : SeqV g (xs.map enc)) (hx : ∀ x ∈ xs, x ∈ ns) (st : Store) : r_need_names [roomV R ns t, g] st = .ok .non st := by
  refine call_val rfl (by simp [Val.blwL, Val.blw, roomV, hs.blw (blwL_enc 0 xs)]) rfl ?_
  simp only [bod_need_names, seqF, startE, Ok_bnd, Ok_ok, List.map_cons, List.map_nil, List.length_cons, List.length_nil, List.replicate, List.cons_append, List.nil_append, List.append_nil, List.getElem?_cons_zero, List.getElem?_cons_succ, List.set_cons_zero, List.set_cons_succ, wipeE]
  obtain ⟨gd, ew, hg⟩ := hs.iter []
  rw [ew]
  simp only [Ok_ok, hg, if_true]
  refine forR (I := fun rem σ st => ∃ (ys : List Nm) (o : Option Val), rem = ys.map enc ∧ (∀ y ∈ ys, y ∈ xs) ∧ σ = [some (roomV R ns t), some g, o]) ?_ ?_ _ _ _ ⟨xs, none, rfl, fun y hy => hy, rfl⟩
  · rintro v rem σ st ⟨ys, o, hrem, hys, rfl⟩
    cases ys with
    | nil => cases hrem
    | cons y ys =>
      rw [List.map_cons] at hrem
      injection hrem with h1 h2
      subst h1 h2
      refine ⟨_, rfl, ?_⟩
      have hy := hx y (hys y List.mem_cons_self)
      have e1 : ∀ st, cmpop .NotIn (enc y) (enc ns) st = some false := fun st => by
        have := cmp_notin (st := st) (v := enc ns) (xs := ns) rfl y
        rw [this]
        simp [hy]
      simp only [seqF, seqF, startE, Ok_bnd, Ok_ok, List.map_cons, List.map_nil, List.length_cons, List.length_nil, List.replicate, List.cons_append, List.nil_append, List.append_nil, List.getElem?_cons_zero, List.getElem?_cons_succ, List.set_cons_zero, List.set_cons_succ, wipeE, is_name_run, tstV_bl, Bool.not_true, Bool.false_eq_true, if_false, at_names, e1, optB_some, Res.bnd_ok]
      exact ⟨hg _, ys, _, rfl, fun z hz => hys z (List.mem_cons_of_mem _ hz), rfl⟩
  · rintro σ st ⟨ys, o, hrem, hys, rfl⟩
    rfl
theorem hull_run {R : List RuleD} {ns xs : List Nm} {t : Str} {g : Val} (ok : RoomOk R ns) (hs : SeqV g (xs.map enc)) (hx : ∀ x ∈ xs, x ∈ ns) (st : Store) : r_hull [roomV R ns t, g] st = .ok (enc (ns.filter fun x => decide (x ∉ mostL R ns xs))) st := by
  refine call_val rfl (by simp [Val.blwL, Val.blw, roomV, hs.blw (blwL_enc 0 xs)]) (Enc.blw _ _) ?_
  have h2 : ∀ gs st, r_rest_of [roomV R ns t, enc gs] st = .ok (enc (ns.filter fun x => decide (x ∉ gs))) st := fun gs st => rest_of_run ok (gs := gs) SeqV.tup st
  simp only [bod_hull, seqF, startE, Ok_bnd, Ok_ok, List.map_cons, List.map_nil, List.length_cons, List.length_nil, List.replicate, List.cons_append, List.nil_append, List.append_nil, List.getElem?_cons_zero, List.getElem?_cons_succ, List.set_cons_zero, List.set_cons_succ, wipeE, need_names_run ok hs hx, (most_gone_run ok hs _).1, h2]
  rfl
def barH (R : List RuleD) (ns xs : List Nm) : Bool := decide (xs ≠ []) && decide (IsLot xs) && xs.all fun n => decide (n ∈ ns) && (R.filter fun r => decide (r.name = n)).all fun r => r.gone.any fun x => decide (x ∈ xs)
theorem pick_run {α : Type} {v : α → Val} {S : Store} {b : Nat} {x s c : Int} {g : Val} {xs : List α} (hv : ∀ x n, (v x).blw n = true) (hb : b < S.length) (hw : Wf S) (hs : SeqV g (xs.map v)) (hl : xs.length < 1000000) (h0 : xs ≠ []) :
    (r__law_pick [.ref b, g] (S.set b (boxO x s c))).Ok fun r st' => ∃ (y : α) (x' s' c' : Int), r = v y ∧ y ∈ xs ∧ st' = S.set b (boxO x' s' c') := by
  refine call_shared rfl (by simp [Val.blwL, Val.blw]) ?_
  have hpos := List.length_pos_iff.mpr h0
  simp only [bod__law_pick, seqF, startE, Ok_bnd, Ok_ok, List.map_cons, List.map_nil, List.length_cons, List.length_nil, List.replicate, List.cons_append, List.nil_append, List.append_nil, List.getElem?_cons_zero, List.getElem?_cons_succ, List.set_cons_zero, List.set_cons_succ, wipeE, hs.len]
  refine Ok_imp (take_run hb hw (by rw [List.length_map]; omega) (by rw [List.length_map]; omega)) ?_
  rintro _ _ ⟨d, x, s, c, rfl, h1, h2, rfl⟩
  rw [List.length_map] at h2
  obtain ⟨k, rfl⟩ : ∃ k : Nat, d = (k : Int) := ⟨d.toNat, by omega⟩
  rw [hs.idx (k := k) (y := v xs[k]) (by rw [List.getElem?_map, List.getElem?_eq_getElem (by omega)]; rfl)]
  simp only [seqF, startE, Ok_bnd, Ok_ok, List.map_cons, List.map_nil, List.length_cons, List.length_nil, List.replicate, List.cons_append, List.nil_append, List.append_nil, List.getElem?_cons_zero, List.getElem?_cons_succ, List.set_cons_zero, List.set_cons_succ, wipeE]
  refine ⟨_, rfl, finN_val ?_ (hv _ _) ⟨xs[k], x, s, c, rfl, List.getElem_mem _, ?_⟩⟩
  · rw [List.length_set, set_take]
    exact all_set hw (blw_box _) b
  · rw [List.length_set, set_take]

theorem law_mayR {R : List (Nm × List Nm)} {rv g : Val} {gs : List Nm} (hr : SeqV rv (R.map enc)) (hs : SeqV g (gs.map enc)) (hl : R.length < 10000) (hR : ∀ p ∈ R, p.2.length ≤ 60) (st : Store) : r__law_may [rv, g] st = .ok (enc (mayL (toRules R) (peopleL R) gs)) st := by
  rw [may_eq]
  exact law_may_run hs hr hl (fun p hp => by have := hR p hp; unfold lim; omega) st
theorem may_len {R : List RuleD} {ns L : List Nm} {m : Nm} (h : Feas R ns L) (hm : m ∈ mayL R ns L) : (lotL (L ++ [m])).length = L.length + 1 := by
  have hnm : m ∉ L := by
    have := mem_mayL.mp hm
    exact this.2.1
  have hnd : (L ++ [m]).Nodup := by
    rw [List.nodup_append]
    exact ⟨h.lot.nodup, by simp, fun a ha b hb => by rw [List.mem_singleton] at hb; subst hb; exact fun e => hnm (e ▸ ha)⟩
  have h1 := nodup_len (ys := lotL (L ++ [m])) hnd fun x hx => mem_lotL.mpr hx
  have h2 := length_lotL (L ++ [m])
  rw [List.length_append, List.length_singleton] at h1 h2
  omega
theorem law_lots_run {R : List (Nm × List Nm)} (ok : RoomOk (toRules R) (peopleL R)) (h14 : (peopleL R).length ≤ 14) (hl : R.length < 10000) (hR : ∀ p ∈ R, p.2.length ≤ 60) :
    ∃ F : List (List Nm), (∀ st, r__law_lots [.fl (R.map enc)] st = .ok (.fl (F.map enc)) st) ∧ F.Nodup ∧ (∀ L, L ∈ F ↔ Feas (toRules R) (peopleL R) L) ∧ F.Pairwise (fun a b => a.length ≤ b.length) := by
  have hme : ∀ gs st, r__law_may [.fl (R.map enc), enc gs] st = .ok (enc (mayL (toRules R) (peopleL R) gs)) st := fun gs st => law_mayR SeqV.fl SeqV.tup hl hR st
  suffices h : (bod__law_lots.1 (startE 5 [.fl (R.map enc)]) []).Ok fun r st1 => ∃ F : List (List Nm), (∃ k : Nat, retOf r.1 = some (.ref k) ∧ st1[k]? = some (.lst (F.map enc))) ∧ F.Nodup ∧ (∀ L, L ∈ F ↔ Feas (toRules R) (peopleL R) L) ∧ F.Pairwise (fun a b => a.length ≤ b.length) by
    obtain ⟨r, st1, e, F, h1, h2, h3⟩ := Ok_get h
    exact ⟨F, fun st => call_lst rfl (by simp [Val.blwL, Val.blw, blwL_enc]) (blwL_enc _ _) (Ok_of e h1), h2, h3⟩
  generalize toRules R = Ru at *
  generalize peopleL R = ns at *
  have h2p : 2 ^ ns.length ≤ 16384 := Nat.le_trans (Nat.pow_le_pow_right (by decide : 0 < 2) h14) (by decide)
  simp only [bod__law_lots, seqF, startE, Ok_bnd, Ok_ok, List.map_cons, List.map_nil, List.length_cons, List.length_nil, List.replicate, List.cons_append, List.nil_append, List.append_nil, List.getElem?_cons_zero, List.getElem?_cons_succ, List.set_cons_zero, List.set_cons_succ, wipeE, asgS_nm, Nat.reduceLT, if_true, Nat.reduceAdd, tupV_0, lstV_1, newL_true]
  rw [par2_5 _ _ _ _ _ _ (by simp)]
  simp only [seqF, startE, Ok_bnd, Ok_ok, List.map_cons, List.map_nil, List.length_cons, List.length_nil, List.replicate, List.cons_append, List.nil_append, List.append_nil, List.getElem?_cons_zero, List.getElem?_cons_succ, List.set_cons_zero, List.set_cons_succ, wipeE]
  refine whileR (I := fun n σ st => ∃ (F : List (List Nm)) (k : Nat) (o3 o4 : Option Val), σ = [some (.fl (R.map enc)), some (.ref 0), some (.int (k : Int)), o3, o4] ∧ st = [Ob.lst (F.map enc)] ∧ F.Nodup ∧ (∀ L ∈ F, Feas Ru ns L) ∧ [] ∈ F ∧ k ≤ F.length ∧
    (∀ i, i < k → ∀ L, F[i]? = some L → ∀ n ∈ mayL Ru ns L, lotL (L ++ [n]) ∈ F) ∧ F.Pairwise (fun a b => a.length ≤ b.length) ∧ (∀ K, F[k]? = some K → ∀ L ∈ F, L.length ≤ K.length + 1) ∧ n = 2 ^ ns.length - k) ?_ lim (2 ^ ns.length) _ _ (by unfold lim; omega) ⟨[[]], 0, none, none, rfl, rfl, by simp, (fun L hL => by rw [List.mem_singleton] at hL; subst hL; exact .nil), List.mem_singleton.mpr rfl, by simp, (fun i hi => absurd hi (Nat.not_lt_zero _)), by simp, by simp, by simp⟩
  rintro n σ st ⟨F, k, o3, o4, rfl, rfl, hd, hF, h0, hk, hcl, hasc, htop, rfl⟩
  have hFl := feas_len ok.lot hd hF
  simp only [seqF, startE, Ok_bnd, Ok_ok, List.map_cons, List.map_nil, List.length_cons, List.length_nil, List.replicate, List.cons_append, List.nil_append, List.append_nil, List.getElem?_cons_zero, List.getElem?_cons_succ, List.set_cons_zero, List.set_cons_succ, wipeE, lenV_ref (rfl : [Ob.lst (F.map enc)][0]? = some (Ob.lst (F.map enc))), List.length_map, cmp_lt_int, optB_some]
  by_cases hkl : k < F.length
  · rw [decide_eq_true (show (k : Int) < (F.length : Int) by omega), if_pos rfl]
    obtain ⟨L, hL⟩ : ∃ L, F[k]? = some L := ⟨F[k], List.getElem?_eq_getElem hkl⟩
    have hLF : L ∈ F := List.mem_of_getElem? hL
    have hLs := (hF L hLF).sub
    have hLl : L.length ≤ 14 := Nat.le_trans (nodup_len (hF L hLF).lot.nodup hLs) h14
    simp only [seqF, seqF, startE, Ok_bnd, Ok_ok, List.map_cons, List.map_nil, List.length_cons, List.length_nil, List.replicate, List.cons_append, List.nil_append, List.append_nil, List.getElem?_cons_zero, List.getElem?_cons_succ, List.set_cons_zero, List.set_cons_succ, wipeE, idx_ref (k := k) (y := enc L) (rfl : [Ob.lst (F.map enc)][0]? = some (Ob.lst (F.map enc))) (by rw [List.getElem?_map, hL]; rfl), hme, iterV_lot, gdok_none, if_true]
    refine forR (I := fun rem σ st => ∃ (ms : List Nm) (F' E : List (List Nm)) (o3 o4 : Option Val), rem = ms.map enc ∧ (∀ m ∈ ms, m ∈ mayL Ru ns L) ∧ σ = [some (.fl (R.map enc)), some (.ref 0), some (.int (k : Int)), o3, o4] ∧ st = [Ob.lst (F'.map enc)] ∧ F'.Nodup ∧ (∀ L ∈ F', Feas Ru ns L) ∧ F' = F ++ E ∧ (∀ m ∈ mayL Ru ns L, m ∉ ms → lotL (L ++ [m]) ∈ F') ∧ F'.Pairwise (fun a b => a.length ≤ b.length) ∧ ∀ K ∈ F', K.length ≤ L.length + 1) ?_ ?_ _ _ _ ⟨mayL Ru ns L, F, [], o3, o4, rfl, fun m hm => hm, rfl, rfl, hd, hF, by simp, (fun m hm hn => absurd hm hn), hasc, htop L hL⟩
    · rintro v rem σ st ⟨ms, F', E, o3, o4, hrem, hms, rfl, rfl, hd', hF', hE, hcl', hasc', htop'⟩
      cases ms with
      | nil => cases hrem
      | cons m ms =>
        rw [List.map_cons] at hrem
        injection hrem with h1 h2
        subst h1 h2
        have hmL := hms m List.mem_cons_self
        have hFl' := feas_len ok.lot hd' hF'
        have hL' : F'[k]? = some L := by rw [hE, List.getElem?_append_left hkl]; exact hL
        have hml := may_len (hF L hLF) hmL
        refine ⟨_, rfl, ?_⟩
        simp only [seqF, seqF, startE, Ok_bnd, Ok_ok, List.map_cons, List.map_nil, List.length_cons, List.length_nil, List.replicate, List.cons_append, List.nil_append, List.append_nil, List.getElem?_cons_zero, List.getElem?_cons_succ, List.set_cons_zero, List.set_cons_succ, wipeE, idx_ref (k := k) (y := enc L) (rfl : [Ob.lst (F'.map enc)][0]? = some (Ob.lst (F'.map enc))) (by rw [List.getElem?_map, hL']; rfl)]
        rw [listV_seq (show SeqV (enc L) (L.map enc) from SeqV.tup)]
        simp only [newL_false, lstV_1, seqF, startE, Ok_bnd, Ok_ok, List.map_cons, List.map_nil, List.length_cons, List.length_nil, List.replicate, List.cons_append, List.nil_append, List.append_nil, List.getElem?_cons_zero, List.getElem?_cons_succ, List.set_cons_zero, List.set_cons_succ, wipeE]
        rw [bin_cat rfl rfl (by simp; unfold lim; omega), newL_false, show L.map enc ++ [enc m] = (L ++ [m]).map enc from by rw [List.map_append]; rfl]
        simp only [seqF, startE, Ok_bnd, Ok_ok, List.map_cons, List.map_nil, List.length_cons, List.length_nil, List.replicate, List.cons_append, List.nil_append, List.append_nil, List.getElem?_cons_zero, List.getElem?_cons_succ, List.set_cons_zero, List.set_cons_succ, wipeE]
        rw [law_lot_run (xs := L ++ [m]) (.inl SeqV.fl) (by rw [List.length_append, List.length_singleton]; omega) (show Wf [Ob.lst (F'.map enc)] by unfold Wf; simp [Ob.blw, blwL_enc])]
        simp only [seqF, startE, Ok_bnd, Ok_ok, List.map_cons, List.map_nil, List.length_cons, List.length_nil, List.replicate, List.cons_append, List.nil_append, List.append_nil, List.getElem?_cons_zero, List.getElem?_cons_succ, List.set_cons_zero, List.set_cons_succ, wipeE, asgS_nm, Nat.reduceLT, Nat.reduceAdd, if_true]
        rw [cmp_notin (xs := F') (seqOf_ref rfl)]
        simp only [optB_some, Ok_ok]
        have hfe : Feas Ru ns (lotL (L ++ [m])) := .step (hF L hLF) hmL
        by_cases hin : lotL (L ++ [m]) ∈ F'
        · simp only [hin, not_true_eq_false, decide_false, Bool.false_eq_true, if_false, seqF, startE, Ok_bnd, Ok_ok, List.map_cons, List.map_nil, List.length_cons, List.length_nil, List.replicate, List.cons_append, List.nil_append, List.append_nil, List.getElem?_cons_zero, List.getElem?_cons_succ, List.set_cons_zero, List.set_cons_succ, wipeE]
          refine ⟨rfl, ms, F', E, _, _, rfl, fun z hz => hms z (List.mem_cons_of_mem _ hz), rfl, rfl, hd', hF', hE, fun z hz hzn => ?_, hasc', htop'⟩
          by_cases hzm : z = m
          · subst hzm; exact hin
          · exact hcl' z hz fun h => (List.mem_cons.mp h).elim hzm hzn
        · simp only [hin, not_false_eq_true, decide_true, if_true, seqF, startE, Ok_bnd, Ok_ok, List.map_cons, List.map_nil, List.length_cons, List.length_nil, List.replicate, List.cons_append, List.nil_append, List.append_nil, List.getElem?_cons_zero, List.getElem?_cons_succ, List.set_cons_zero, List.set_cons_succ, wipeE]
          rw [bm_list rfl]
          simp only [seqF, startE, Ok_bnd, Ok_ok, List.map_cons, List.map_nil, List.length_cons, List.length_nil, List.replicate, List.cons_append, List.nil_append, List.append_nil, List.getElem?_cons_zero, List.getElem?_cons_succ, List.set_cons_zero, List.set_cons_succ, wipeE]
          rw [appendV_at rfl (by rw [List.length_map]; unfold lim; omega)]
          simp only [seqF, startE, Ok_bnd, Ok_ok, List.map_cons, List.map_nil, List.length_cons, List.length_nil, List.replicate, List.cons_append, List.nil_append, List.append_nil, List.getElem?_cons_zero, List.getElem?_cons_succ, List.set_cons_zero, List.set_cons_succ, wipeE]
          refine ⟨rfl, ms, F' ++ [lotL (L ++ [m])], E ++ [lotL (L ++ [m])], _, _, rfl, fun z hz => hms z (List.mem_cons_of_mem _ hz), rfl, by rw [List.map_append]; rfl, ?_, ?_, by rw [hE, List.append_assoc], fun z hz hzn => ?_, ?_, ?_⟩
          · rw [List.nodup_append]
            exact ⟨hd', by simp, fun a ha b hb => by rw [List.mem_singleton] at hb; subst hb; exact fun e => hin (e ▸ ha)⟩
          · intro K hK
            rcases List.mem_append.mp hK with hK | hK
            · exact hF' K hK
            · rw [List.mem_singleton] at hK; subst hK; exact hfe
          · by_cases hzm : z = m
            · subst hzm; exact List.mem_append.mpr (.inr (List.mem_singleton.mpr rfl))
            · exact List.mem_append.mpr (.inl (hcl' z hz fun h => (List.mem_cons.mp h).elim hzm hzn))
          · rw [List.pairwise_append]
            exact ⟨hasc', by simp, fun a ha b hb => by rw [List.mem_singleton] at hb; subst hb; rw [hml]; exact htop' a ha⟩
          · intro K hK
            rcases List.mem_append.mp hK with hK | hK
            · exact htop' K hK
            · rw [List.mem_singleton] at hK; subst hK; rw [hml]; exact Nat.le_refl _
    · rintro σ st ⟨ms, F', E, o3, o4, hrem, hms, rfl, rfl, hd', hF', hE, hcl', hasc', htop'⟩
      have : ms = [] := by cases ms with | nil => rfl | cons => cases hrem
      subst this
      simp only [seqF, startE, Ok_bnd, Ok_ok, List.map_cons, List.map_nil, List.length_cons, List.length_nil, List.replicate, List.cons_append, List.nil_append, List.append_nil, List.getElem?_cons_zero, List.getElem?_cons_succ, List.set_cons_zero, List.set_cons_succ, wipeE, bin_add, asgS_nm, Nat.reduceLT, Nat.reduceAdd, if_true]
      have hLk : F'[k]? = some L := by rw [hE, List.getElem?_append_left hkl]; exact hL
      refine ⟨_, ?_, F', k + 1, _, _, rfl, rfl, hd', hF', by rw [hE]; exact List.mem_append.mpr (.inl h0), by rw [hE, List.length_append]; omega, fun i hi K hK n hn => ?_, hasc', fun K hK J hJ => ?_, rfl⟩
      · omega
      · by_cases hik : i = k
        · subst hik
          rw [hLk] at hK
          cases hK
          exact hcl' n hn (by simp)
        · rw [hE, List.getElem?_append_left (by omega)] at hK
          rw [hE]
          exact List.mem_append.mpr (.inl (hcl i (by omega) K hK n hn))
      · have h1 := htop' J hJ
        obtain ⟨a1, a2⟩ := List.getElem?_eq_some_iff.mp hLk
        obtain ⟨b1, b2⟩ := List.getElem?_eq_some_iff.mp hK
        have h2 := List.pairwise_iff_getElem.mp hasc' k (k + 1) a1 b1 (by omega)
        rw [a2, b2] at h2
        omega
  · rw [decide_eq_false (show ¬ (k : Int) < (F.length : Int) by omega), if_neg (by simp)]
    refine ⟨F, ⟨0, rfl, rfl⟩, hd, fun L => ⟨hF L, fun h => ?_⟩, hasc⟩
    induction h with
    | nil => exact h0
    | step h1 h2 ih =>
      obtain ⟨i, hi⟩ := List.mem_iff_getElem?.mp ih
      have := (List.getElem?_eq_some_iff.mp hi).1
      exact hcl i (by omega) _ hi _ h2

theorem is_sequence_no {v : Val} (hb : v.blw 0 = true) (h : isiV oc_t isi_list_tuple v [] = .ok (.bl false) []) (st : Store) : r_is_sequence [v] st = .ok (.bl false) st := by
  refine call_val rfl (by simp [Val.blwL, hb]) rfl ?_
  simp only [bod_is_sequence, seqF, startE, Ok_bnd, Ok_ok, List.map_cons, List.map_nil, List.length_cons, List.length_nil, List.replicate, List.cons_append, List.nil_append, List.append_nil, List.getElem?_cons_zero, List.getElem?_cons_succ, List.set_cons_zero, List.set_cons_succ, wipeE, h]
  rfl
theorem is_name_odd {v : Val} (hb : v.blw 0 = true) (h : isiV oc_t isi_str v [] = .ok (.bl false) []) (st : Store) : r_is_name [v] st = .ok (.bl false) st := by
  refine call_val rfl (by simp [Val.blwL, hb]) rfl ?_
  simp only [bod_is_name, seqF, startE, Ok_bnd, Ok_ok, List.map_cons, List.map_nil, List.length_cons, List.length_nil, List.replicate, List.cons_append, List.nil_append, List.append_nil, List.getElem?_cons_zero, List.getElem?_cons_succ, List.set_cons_zero, List.set_cons_succ, wipeE, h, tstV_bl, Bool.not_false, if_true, Res.bnd_ok]
  rfl
theorem is_name_empty (st : Store) : r_is_name [.str (Str.ofString "")] st = .ok (.bl false) st := by
  refine call_val rfl rfl rfl ?_
  simp only [bod_is_name, seqF, startE, Ok_bnd, Ok_ok, List.map_cons, List.map_nil, List.length_cons, List.length_nil, List.replicate, List.cons_append, List.nil_append, List.append_nil, List.getElem?_cons_zero, List.getElem?_cons_succ, List.set_cons_zero, List.set_cons_succ, wipeE]
  rfl

def deepV : Val := .fl [.tup [.fl [.tup [.fl [.tup [.fl [.tup [], .int 1]], .int 1]], .int 1]], .int 1]
def valL : List Val := [.int 0, .int (-3), .int 1000000000, .str (Str.ofString ""), .str (Str.ofString "a"), .non, .bl true, .bl false, .fl [], .fl [.int 1, .str (Str.ofString "a")], .tup [.str (Str.ofString "x"), .non], .tup [], .str (Str.ofString "if"), .int 2, .str (Str.ofString "abcd"), .fl [.str (Str.ofString "x")], .str (Str.ofString "A"), deepV]
theorem blwL_mem {n : Nat} : ∀ {vs : List Val} {v : Val}, Val.blwL n vs = true → v ∈ vs → v.blw n = true
  | [], v, _, h => by cases h
  | x :: xs, v, h, hm => by
    simp only [Val.blwL, Bool.and_eq_true] at h
    rcases List.mem_cons.mp hm with rfl | hm
    · exact h.1
    · exact blwL_mem h.2 hm
theorem blw_valL (n : Nat) : Val.blwL n valL = true := by simp [valL, deepV, Val.blwL, Val.blw]
theorem pickV_run {S : Store} {b : Nat} {x s c : Int} {g : Val} {vs : List Val} (hb : b < S.length) (hw : Wf S) (hs : SeqV g vs) (hbl : ∀ n, Val.blwL n vs = true) (h0 : vs ≠ []) (hl : vs.length < 1000000) :
    (r__law_pick [.ref b, g] (S.set b (boxO x s c))).Ok fun r st' => ∃ (k : Nat) (x' s' c' : Int), vs[k]? = some r ∧ st' = S.set b (boxO x' s' c') := by
  refine call_shared rfl (by simp [Val.blwL, Val.blw]) ?_
  have h1 := List.length_pos_iff.mpr h0
  simp only [bod__law_pick, seqF, startE, Ok_bnd, Ok_ok, List.map_cons, List.map_nil, List.length_cons, List.length_nil, List.replicate, List.cons_append, List.nil_append, List.append_nil, List.getElem?_cons_zero, List.getElem?_cons_succ, List.set_cons_zero, List.set_cons_succ, wipeE, hs.len]
  refine Ok_imp (take_run hb hw (by omega) (by omega)) ?_
  rintro _ _ ⟨d, x, s, c, rfl, hd0, hd1, rfl⟩
  obtain ⟨k, rfl⟩ : ∃ k : Nat, d = (k : Int) := ⟨d.toNat, by omega⟩
  have hk : k < vs.length := by omega
  rw [hs.idx (List.getElem?_eq_getElem hk)]
  have hm := List.getElem_mem hk
  refine ⟨_, rfl, finN_val ?_ (blwL_mem (hbl _) hm) ⟨k, x, s, c, List.getElem?_eq_getElem hk, ?_⟩⟩
  · rw [List.length_set, set_take]
    exact all_set hw (blw_box _) b
  · rw [List.length_set, set_take]
theorem call_sharedE {np : Nat} {rm : Bool} {N : Nat} {body : Mi.Env → Store → Res (Fw × Mi.Env)} {ws : List Val} {st : Store} {Q : Val → Store → Prop} {R : List Val → Store → Res Val} (e : R = callV np rm N body) (hn : ws.length = np) (hz : Val.blwL 0 ws = false)
    (h : (body (startE N ws) st).Ok fun r st1 => ∃ v, retOf r.1 = some v ∧ (finN rm st v st1).Ok Q) : (R ws st).Ok Q := by
  rw [e]; exact call_shared hn hz h
theorem need_bad {R : List RuleD} {ns pre : List Nm} {t : Str} {x : Val} {post : List Val} {g : Val} (hs : SeqV g (pre.map enc ++ x :: post)) (hpre : ∀ y ∈ pre, y ∈ ns) {b : Bool} (hx : ∀ st, r_is_name [x] st = .ok (.bl b) st) (hin : b = true → cmpop .NotIn x (enc ns) [] = some true) : rX_need_names [roomV R ns t, g] [] = .exc ⟨2, [("name", x)]⟩ [] := by
  unfold rX_need_names callX
  rw [if_pos (show [roomV R ns t, g].length = 2 from rfl)]
  simp only [bodX_need_names, seqF, startE, Ok_bnd, Ok_ok, List.map_cons, List.map_nil, List.length_cons, List.length_nil, List.replicate, List.cons_append, List.nil_append, List.append_nil, List.getElem?_cons_zero, List.getElem?_cons_succ, List.set_cons_zero, List.set_cons_succ, wipeE, qX_ok, Res.bnd_ok]
  obtain ⟨gd, ew, hg⟩ := hs.iter []
  rw [ew]
  simp only [qX_ok, Res.bnd_ok, hg, if_true]
  rw [forL_raise (I := fun σ => ∃ o, σ = [some (roomV R ns t), some g, o]) (e := ⟨2, [("name", x)]⟩) (hg _) _ _ ⟨none, rfl⟩ (fun y hy σ hI => ?_) (fun σ hI => ?_)]
  · rfl
  · obtain ⟨o, rfl⟩ := hI
    obtain ⟨q, hq, rfl⟩ := List.mem_map.mp hy
    refine ⟨_, rfl, ?_⟩
    have e1 : ∀ st, cmpop .NotIn (enc q) (enc ns) st = some false := fun st => by
      have := cmp_notin (st := st) (v := enc ns) (xs := ns) rfl q
      rw [this]
      simp [hpre q hq]
    simp only [seqF, startE, Ok_bnd, Ok_ok, List.map_cons, List.map_nil, List.length_cons, List.length_nil, List.replicate, List.cons_append, List.nil_append, List.append_nil, List.getElem?_cons_zero, List.getElem?_cons_succ, List.set_cons_zero, List.set_cons_succ, wipeE, is_name_run, tstV_bl, qX_ok, Res.bnd_ok, Bool.not_true, Bool.false_eq_true, if_false, at_names, e1, optB_some]
    exact ⟨_, rfl, _, rfl⟩
  · obtain ⟨o, rfl⟩ := hI
    refine ⟨_, rfl, ?_⟩
    cases b with
    | false =>
      simp only [seqF, startE, Ok_bnd, Ok_ok, List.map_cons, List.map_nil, List.length_cons, List.length_nil, List.replicate, List.cons_append, List.nil_append, List.append_nil, List.getElem?_cons_zero, List.getElem?_cons_succ, List.set_cons_zero, List.set_cons_succ, wipeE, hx, tstV_bl, qX_ok, Res.bnd_ok, Bool.not_false, if_true]
      rfl
    | true =>
      simp only [seqF, startE, Ok_bnd, Ok_ok, List.map_cons, List.map_nil, List.length_cons, List.length_nil, List.replicate, List.cons_append, List.nil_append, List.append_nil, List.getElem?_cons_zero, List.getElem?_cons_succ, List.set_cons_zero, List.set_cons_succ, wipeE, hx, tstV_bl, qX_ok, Res.bnd_ok, Bool.not_true, Bool.false_eq_true, if_false, at_names, hin rfl, optB_some, if_true]
      rfl
theorem hull_bad {R : List RuleD} {ns pre : List Nm} {t : Str} {x : Val} {post : List Val} {g : Val} (hs : SeqV g (pre.map enc ++ x :: post)) (hpre : ∀ y ∈ pre, y ∈ ns) {b : Bool} (hx : ∀ st, r_is_name [x] st = .ok (.bl b) st) (hin : b = true → cmpop .NotIn x (enc ns) [] = some true) : rX_hull [roomV R ns t, g] [] = .exc ⟨2, [("name", x)]⟩ [] := by
  unfold rX_hull callX
  rw [if_pos (show [roomV R ns t, g].length = 2 from rfl)]
  simp only [bodX_hull, seqF, startE, Ok_bnd, Ok_ok, List.map_cons, List.map_nil, List.length_cons, List.length_nil, List.replicate, List.cons_append, List.nil_append, List.append_nil, List.getElem?_cons_zero, List.getElem?_cons_succ, List.set_cons_zero, List.set_cons_succ, wipeE, need_bad hs hpre hx hin, Res.bnd_ok]
  rfl
theorem heard_bad {R : List RuleD} {ns pre : List Nm} {t : Str} {x : Val} {post : List Val} {g : Val} (hs : SeqV g (pre.map enc ++ x :: post)) (hb : Val.blwL 0 (pre.map enc ++ x :: post) = true) (hpre : ∀ y ∈ pre, y ∈ ns) {b : Bool} (hx : ∀ st, r_is_name [x] st = .ok (.bl b) st) (hin : b = true → cmpop .NotIn x (enc ns) [] = some true) (hxb : x.blw 0 = true) (st : Store) : r__law_heard [roomV R ns t, g] st = .ok (.tup [.str (Str.ofString "none"), x]) st := by
  refine call_val rfl (by simp [Val.blwL, Val.blw, roomV, hs.blw hb]) (by simp [Val.blw, Val.blwL, hxb]) ?_
  simp only [bod__law_heard, seqF, startE, Ok_bnd, Ok_ok, List.map_cons, List.map_nil, List.length_cons, List.length_nil, List.replicate, List.cons_append, List.nil_append, List.append_nil, List.getElem?_cons_zero, List.getElem?_cons_succ, List.set_cons_zero, List.set_cons_succ, wipeE, asgS_nm, Nat.reduceLT, Nat.reduceAdd, if_true]
  unfold tryE
  simp only [seqF, startE, Ok_bnd, Ok_ok, List.map_cons, List.map_nil, List.length_cons, List.length_nil, List.replicate, List.cons_append, List.nil_append, List.append_nil, List.getElem?_cons_zero, List.getElem?_cons_succ, List.set_cons_zero, List.set_cons_succ, wipeE, Res.bnd_ok, qX_ok, hull_bad hs hpre hx hin]
  rfl

def odd8 : List Val := [.str (Str.ofString "qq"), .non, .int 0, .fl [.str (Str.ofString "a")], .str (Str.ofString "A"), .str (Str.ofString ""), .tup [.int 1, .non], .bl true]
theorem flat14 {R : List (Nm × List Nm)} (h : RulesOk R) : ∀ x ∈ R.flatMap (fun p => p.1 :: p.2), x ∈ names14 := by
  intro x hx
  obtain ⟨p, hp, hx⟩ := List.mem_flatMap.mp hx
  obtain ⟨h1, h2, h3, h4⟩ := h p hp
  rcases List.mem_cons.mp hx with rfl | hx
  · exact h1
  · exact h4 x hx
theorem map_subset_In {ns ms : List Nm} (h : ∀ x ∈ ns, x ∈ ms) {v : Val} (hv : ∀ y ∈ ms, (enc y : Val) ≠ v) : ∀ w ∈ (ns.map enc : List Val), w ≠ v := by
  intro w hw
  obtain ⟨y, hy, rfl⟩ := List.mem_map.mp hw
  exact hv y (h y hy)
theorem odd8_all : ∀ v ∈ odd8, v.blw 0 = true ∧ (∃ b : Bool, (∀ st, r_is_name [v] st = .ok (.bl b) st) ∧ (b = true → v = .str (Str.ofString "qq"))) ∧ ∃ t, ∀ st, reprEV [.tup [.str (Str.ofString "none"), v]] st = .ok (.str t) st := by
  intro v hv
  have rp : ∀ v, (∃ d : PyData, dat [] 12 (.tup [.str (Str.ofString "none"), v]) = some d ∧ (d.showable && decide (d.shown.length ≤ lim)) = true ∧ (∀ st, dat st 12 (.tup [.str (Str.ofString "none"), v]) = some d)) → ∃ t, ∀ st, reprEV [.tup [.str (Str.ofString "none"), v]] st = .ok (.str t) st := by
    rintro v ⟨d, h1, h2, h3⟩
    refine ⟨d.shown, fun st => ?_⟩
    show (match seqOf st (.tup [.str (Str.ofString "none"), v]), dat st 12 (.tup [.str (Str.ofString "none"), v]) with
    | some _, some d => if d.showable && decide (d.shown.length ≤ lim) then Res.ok (Val.str d.shown) st else .no
    | _, _ => .no) = _
    rw [h3]
    show (if (d.showable && decide (d.shown.length ≤ lim)) = true then Res.ok (Val.str d.shown) st else .no) = _
    rw [if_pos h2]
  simp only [odd8, List.mem_cons, List.not_mem_nil, or_false] at hv
  rcases hv with rfl | rfl | rfl | rfl | rfl | rfl | rfl | rfl
  · exact ⟨rfl, ⟨true, fun st => by kernel_rfl, fun _ => rfl⟩, rp _ ⟨.tuple [.str (Str.ofString "none"), .str (Str.ofString "qq")], by kernel_rfl, by kernel_rfl, fun st => by kernel_rfl⟩⟩
  · exact ⟨rfl, ⟨false, fun st => by kernel_rfl, fun h => by cases h⟩, rp _ ⟨.tuple [.str (Str.ofString "none"), .none], by kernel_rfl, by kernel_rfl, fun st => by kernel_rfl⟩⟩
  · exact ⟨rfl, ⟨false, fun st => by kernel_rfl, fun h => by cases h⟩, rp _ ⟨.tuple [.str (Str.ofString "none"), .int 0], by kernel_rfl, by kernel_rfl, fun st => by kernel_rfl⟩⟩
  · exact ⟨rfl, ⟨false, fun st => by kernel_rfl, fun h => by cases h⟩, rp _ ⟨.tuple [.str (Str.ofString "none"), .list [.str (Str.ofString "a")]], by kernel_rfl, by kernel_rfl, fun st => by kernel_rfl⟩⟩
  · exact ⟨rfl, ⟨false, fun st => by kernel_rfl, fun h => by cases h⟩, rp _ ⟨.tuple [.str (Str.ofString "none"), .str (Str.ofString "A")], by kernel_rfl, by kernel_rfl, fun st => by kernel_rfl⟩⟩
  · exact ⟨rfl, ⟨false, fun st => by kernel_rfl, fun h => by cases h⟩, rp _ ⟨.tuple [.str (Str.ofString "none"), .str (Str.ofString "")], by kernel_rfl, by kernel_rfl, fun st => by kernel_rfl⟩⟩
  · exact ⟨rfl, ⟨false, fun st => by kernel_rfl, fun h => by cases h⟩, rp _ ⟨.tuple [.str (Str.ofString "none"), .tuple [.int 1, .none]], by kernel_rfl, by kernel_rfl, fun st => by kernel_rfl⟩⟩
  · exact ⟨rfl, ⟨false, fun st => by kernel_rfl, fun h => by cases h⟩, rp _ ⟨.tuple [.str (Str.ofString "none"), .bool true], by kernel_rfl, by kernel_rfl, fun st => by kernel_rfl⟩⟩
/-- none of the eight stands among the people -/
theorem notin_of {P : List Nm} {v : Val} {d : PyData} {st : Store} (hd : dat st 12 v = some d) (h : ∀ x ∈ P, PyData.eqv (.str x.1) d = false) {g : Val} (hg : SeqV g (P.map enc)) (hng : ∀ t, g ≠ .str t) : cmpop .NotIn v g st = some true := by
  have e2 : ∀ xs : List Nm, mapO (dat st 12) (xs.map enc) = some (xs.map fun x => PyData.str x.1) := fun xs => by
    induction xs with
    | nil => rfl
    | cons x xs ih =>
      rw [List.map_cons, mapO, ih, show dat st 12 (enc x) = some (PyData.str x.1) from Enc.dat st x 12 (by decide)]
      rfl
  have e : pyInS st v g = some false := by
    unfold pyInS
    rw [hg.seqOf st]
    dsimp only
    rw [hd, e2]
    dsimp only
    congr 1
    rw [List.any_eq_false]
    intro z hz
    obtain ⟨x, hx, rfl⟩ := List.mem_map.mp hz
    rw [h x hx]
    simp
  show (pyIn st v g).map (!·) = _
  rw [show pyIn st v g = pyInS st v g from by cases g <;> first | rfl | exact absurd rfl (hng _), e]
  rfl
theorem odd8_out {P : List Nm} (hP : ∀ x ∈ P, x ∈ names14) : ∀ v ∈ odd8, ∀ (g : Val), SeqV g (P.map enc) → (∀ t, g ≠ .str t) → ∀ st, cmpop .NotIn v g st = some true := by
  intro v hv g hg hng st
  have hs : ∀ t : Str, (∀ x ∈ names14, (x.1 == t) = false) → ∀ x ∈ P, PyData.eqv (.str x.1) (.str t) = false := fun t ht x hx => ht x (hP x hx)
  simp only [odd8, List.mem_cons, List.not_mem_nil, or_false] at hv
  rcases hv with rfl | rfl | rfl | rfl | rfl | rfl | rfl | rfl
  · exact notin_of (d := .str (Str.ofString "qq")) (by kernel_rfl) (hs _ (by decide +kernel)) hg hng
  · exact notin_of (d := .none) (by kernel_rfl) (fun x hx => rfl) hg hng
  · exact notin_of (d := .int 0) (by kernel_rfl) (fun x hx => rfl) hg hng
  · exact notin_of (d := .list [.str (Str.ofString "a")]) (by kernel_rfl) (fun x hx => rfl) hg hng
  · exact notin_of (d := .str (Str.ofString "A")) (by kernel_rfl) (hs _ (by decide +kernel)) hg hng
  · exact notin_of (d := .str (Str.ofString "")) (by kernel_rfl) (hs _ (by decide +kernel)) hg hng
  · exact notin_of (d := .tuple [.int 1, .none]) (by kernel_rfl) (fun x hx => rfl) hg hng
  · exact notin_of (d := .bool true) (by kernel_rfl) (fun x hx => rfl) hg hng

theorem law_true : ∀ (ns : List Int), ns.length ≤ 63 → r_law [.wl (ns.map .int)] [] = .ok (.bl true) [] := by
  intro ns hns
  refine call_val rfl (by simp [Val.blwL, Val.blw, blwL_ints]) rfl ?_
  simp only [bod_law, seqF, startE, Ok_bnd, Ok_ok, List.map_cons, List.map_nil, List.length_cons, List.length_nil, List.replicate, List.cons_append, List.nil_append, List.append_nil, List.getElem?_cons_zero, List.getElem?_cons_succ, List.set_cons_zero, List.set_cons_succ, wipeE, lenV_wl, minV_2, maxV_2]
  rw [iterV_rngI _ (by split <;> split <;> omega)]
  simp only [gdok_none, if_true, Ok_ok]
  refine forR (I := fun rem σ st => ∃ (o1 o2 o3 o4 o5 o6 o7 o8 o9 o10 o11 o12 o13 o14 o15 o16 o17 : Option Val), σ = [some (.wl (ns.map .int)), o1, o2, o3, o4, o5, o6, o7, o8, o9, o10, o11, o12, o13, o14, o15, o16, o17, none] ∧ Wf st ∧ ∀ v ∈ rem, ∃ k : Nat, v = .int (k : Int)) ?_ ?_ _ _ _
    ⟨none, none, none, none, none, none, none, none, none, none, none, none, none, none, none, none, none, rfl, rfl, fun v hv => let ⟨k, e, _⟩ := rngL_nat _ 0 v hv; ⟨k, e⟩⟩
  · rintro v rem σ st ⟨o1, o2, o3, o4, o5, o6, o7, o8, o9, o10, o11, o12, o13, o14, o15, o16, o17, rfl, hw, hk⟩
    obtain ⟨k, rfl⟩ := hk v List.mem_cons_self
    refine ⟨_, rfl, ?_⟩
    simp only [seqF, seqF, startE, Ok_bnd, Ok_ok, List.map_cons, List.map_nil, List.length_cons, List.length_nil, List.replicate, List.cons_append, List.nil_append, List.append_nil, List.getElem?_cons_zero, List.getElem?_cons_succ, List.set_cons_zero, List.set_cons_succ, wipeE]
    obtain ⟨x, s, c, e⟩ := box_run ns k 13 st
    rw [e]
    simp only [asgS_nm, seqF, startE, Ok_bnd, Ok_ok, List.map_cons, List.map_nil, List.length_cons, List.length_nil, List.replicate, List.cons_append, List.nil_append, List.append_nil, List.getElem?_cons_zero, List.getElem?_cons_succ, List.set_cons_zero, List.set_cons_succ, wipeE, Nat.reduceLT, Nat.reduceAdd, if_true]
    rw [iterV_rngI _ (by omega)]
    simp only [gdok_none, if_true, Ok_ok]
    have hb : st.length < (st ++ [boxO x s c]).length := by simp
    have hw0 : Wf (st ++ [boxO x s c]) := hw.push rfl
    have e0 : st ++ [boxO x s c] = (st ++ [boxO x s c]).set st.length (boxO x s c) := by rw [end_set]
    generalize st ++ [boxO x s c] = S at hb hw0 e0
    rw [e0]
    generalize hbe : st.length = b at *
    refine forR (I := fun rem σ st' => ∃ (S : Store) (x s c : Int) (o3 o4 o5 o6 o7 o8 o9 o10 o11 o12 o13 o14 o15 o16 o17 : Option Val), σ = [some (.wl (ns.map .int)), some (.int (k : Int)), some (.ref b), o3, o4, o5, o6, o7, o8, o9, o10, o11, o12, o13, o14, o15, o16, o17, none] ∧ b < S.length ∧ Wf S ∧ st' = S.set b (boxO x s c)) ?_ ?_ _ _ _ ⟨S, x, s, c, o3, o4, o5, o6, o7, o8, o9, o10, o11, o12, o13, o14, o15, o16, o17, rfl, hb, hw0, rfl⟩
    · clear hb hw0 e0 e x s c S
      rintro v rem σ st' ⟨S, x, s, c, o3, o4, o5, o6, o7, o8, o9, o10, o11, o12, o13, o14, o15, o16, o17, rfl, hb, hw0, rfl⟩
      refine ⟨_, rfl, ?_⟩
      simp only [seqF, seqF, startE, Ok_bnd, Ok_ok, List.map_cons, List.map_nil, List.length_cons, List.length_nil, List.replicate, List.cons_append, List.nil_append, List.append_nil, List.getElem?_cons_zero, List.getElem?_cons_succ, List.set_cons_zero, List.set_cons_succ, wipeE]
      refine Ok_imp (rules_run hb hw0 (by decide)) ?_
      rintro _ _ ⟨R, x, s, c, rfl, hRl, hR, rfl⟩
      have hm : ∀ st, r__law_made [.fl (R.map enc)] st = .ok (lawRoom R) st := fun st => law_made_run (by omega) (fun p hp => ⟨(hR p hp).2.1, by have := (hR p hp).2.2.1; omega⟩) st
      have ok : RoomOk (toRules R) (peopleL R) := lawOk (by omega) (fun p hp => by have := (hR p hp).2.2.1; omega) (flat14 hR) (by decide)
      have h14 : (peopleL R).length ≤ 14 := nodup_len (ys := names14) (isLot_lotL _).nodup fun x hx => flat14 hR x (mem_lotL.mp hx)
      have hP14 : ∀ x ∈ peopleL R, x ∈ names14 := fun x hx => flat14 hR x (mem_lotL.mp hx)
      obtain ⟨F, hlots, hFd, hFm, hFa⟩ := law_lots_run ok h14 (by omega) (fun p hp => by have := (hR p hp).2.2.1; omega)
      have hFl : F.length ≤ 16384 := Nat.le_trans (feas_len ok.lot hFd fun L hL => (hFm L).mp hL) (Nat.le_trans (Nat.pow_le_pow_right (by decide : 0 < 2) h14) (by decide))
      have hpl : (R.flatMap fun p => p.1 :: p.2).length < 10000 := by
        have : ∀ (R : List (Nm × List Nm)), (∀ p ∈ R, p.2.length ≤ 6) → (R.flatMap fun p => p.1 :: p.2).length ≤ 7 * R.length := fun R => by
          induction R with
          | nil => intro _; simp
          | cons p R ih =>
            intro h
            have h1 := ih fun q hq => h q (List.mem_cons_of_mem _ hq)
            have h2 := h p List.mem_cons_self
            rw [List.flatMap_cons, List.length_append, List.length_cons, List.length_cons]
            omega
        have := this R fun p hp => (hR p hp).2.2.1
        omega
      have hppl : ∀ st, r__law_people [.fl (R.map enc)] st = .ok (enc (peopleL R)) st := fun st => law_people_run hpl st
      simp only [asgS_nm, seqF, startE, Ok_bnd, Ok_ok, List.map_cons, List.map_nil, List.length_cons, List.length_nil, List.replicate, List.cons_append, List.nil_append, List.append_nil, List.getElem?_cons_zero, List.getElem?_cons_succ, List.set_cons_zero, List.set_cons_succ, wipeE, Nat.reduceLT, Nat.reduceAdd, if_true, hm, hlots]
      have hM : ∀ X, Most (toRules R) (peopleL R) X (mostL (toRules R) (peopleL R) X) := fun X => (most_gone_run (t := ("" : Str)) ok (xs := X) SeqV.fl []).2
      have hhull : ∀ (g : Val) (X : List Nm) (st : Store), SeqV g (X.map enc) → (∀ x ∈ X, x ∈ peopleL R) → r_hull [lawRoom R, g] st = .ok (enc (hullL (peopleL R) (mostL (toRules R) (peopleL R) X))) st := fun g X st hs hx => hull_run ok hs hx st
      have hbad : ∀ (g : Val) (pre : List Nm) (x : Val) (post : List Val) (st : Store), SeqV g (pre.map enc ++ x :: post) → Val.blwL 0 (pre.map enc ++ x :: post) = true → (∀ y ∈ pre, y ∈ peopleL R) → x ∈ odd8 → r__law_heard [lawRoom R, g] st = .ok (.tup [.str (Str.ofString "none"), x]) st := fun g pre x post st hs hb hp hx => by
        obtain ⟨h1, ⟨bb, h2, _⟩, _⟩ := odd8_all x hx
        exact heard_bad hs hb hp h2 (fun _ => odd8_out hP14 x hx _ SeqV.tup (fun t h => by cases h) _) h1 st
      have hout8 := odd8_out hP14
      have hPl : IsLot (peopleL R) := isLot_lotL _
      generalize hPe : peopleL R = P at *
      generalize hQe : toRules R = Q at *
      generalize lawRoom R = rm at *
      rw [par2_5 _ _ _ _ _ _ (by simp)]
      simp only [seqF, startE, Ok_bnd, Ok_ok, List.map_cons, List.map_nil, List.length_cons, List.length_nil, List.replicate, List.cons_append, List.nil_append, List.append_nil, List.getElem?_cons_zero, List.getElem?_cons_succ, List.set_cons_zero, List.set_cons_succ, wipeE, Res.bnd_ok, hppl, enc_list, listV_seq SeqV.tup, newL_false, asgS_nm, Nat.reduceLT, Nat.reduceAdd, if_true]
      rw [iterV_rngI _ (by omega)]
      simp only [gdok_none, if_true, Ok_ok, Res.bnd_ok]
      refine Ok_imp (Q := fun r st' => ∃ (S : Store) (x s c : Int) (o8 o9 o10 o11 o12 o13 o14 o15 o16 o17 : Option Val), r = (Fw.nx, [some (.wl (ns.map .int)), some (.int (k : Int)), some (.ref b), some v, some (.fl (R.map enc)), some rm, some (.fl (F.map enc)), some (.fl (P.map enc)), o8, o9, o10, o11, o12, o13, o14, o15, o16, o17, none]) ∧ b < S.length ∧ Wf S ∧ st' = S.set b (boxO x s c)) ?_ ?_
      · refine forR (I := fun rem σ st' => ∃ (S : Store) (x s c : Int) (o8 o9 o10 o11 o12 o13 o14 o15 o16 o17 : Option Val), σ = [some (.wl (ns.map .int)), some (.int (k : Int)), some (.ref b), some v, some (.fl (R.map enc)), some rm, some (.fl (F.map enc)), some (.fl (P.map enc)), o8, o9, o10, o11, o12, o13, o14, o15, o16, o17, none] ∧ b < S.length ∧ Wf S ∧ st' = S.set b (boxO x s c)) ?_ ?_ _ _ _ ⟨S, x, s, c, o8, o9, o10, o11, o12, o13, o14, o15, o16, o17, rfl, hb, hw0, rfl⟩
        · clear hb hw0 x s c S
          rintro v8 rem σ st' ⟨S, x, s, c, o8, o9, o10, o11, o12, o13, o14, o15, o16, o17, rfl, hb, hw0, rfl⟩
          refine ⟨_, rfl, ?_⟩
          simp only [seqF, seqF, startE, Ok_bnd, Ok_ok, List.map_cons, List.map_nil, List.length_cons, List.length_nil, List.replicate, List.cons_append, List.nil_append, List.append_nil, List.getElem?_cons_zero, List.getElem?_cons_succ, List.set_cons_zero, List.set_cons_succ, wipeE]
          refine Ok_imp (mixed_run (v := enc) (xs := P) (fun x n => Enc.blw x n) hb hw0 rfl (by omega)) ?_
          rintro _ _ ⟨ys, x, s, c, rfl, hp, rfl⟩
          have hyl := hp.length_eq
          have draw : ∀ (n : Int) (x s c : Int), 0 < n → n < 1000000 → (r__law_take [.ref b, .int n] (S.set b (boxO x s c))).Ok fun a st_1 => (optB (cmpop .Eq a (.int 0) st_1) st_1).Ok fun _ st' => ∃ x' s' c', st' = S.set b (boxO x' s' c') := by
            intro n x s c h1 h2
            refine Ok_imp (take_run hb hw0 h1 h2) ?_
            rintro _ _ ⟨d, x, s, c, rfl, h0, h1, rfl⟩
            simp only [cmp_eq_int, optB_some, Ok_ok]
            exact ⟨_, _, _, rfl⟩
          refine Ok_imp (lcDraw (v := enc) ys rfl (fun _ _ _ => gdok_fl _ _) (by unfold lim; omega) (fun y x s c => ⟨_, rfl, by simp only [seqF, startE, Ok_bnd, Ok_ok, List.map_cons, List.map_nil, List.length_cons, List.length_nil, List.replicate, List.cons_append, List.nil_append, List.append_nil, List.getElem?_cons_zero, List.getElem?_cons_succ, List.set_cons_zero, List.set_cons_succ, wipeE]; exact draw 3 x s c (by decide) (by decide), fun st' => rfl⟩)) ?_
          rintro _ _ ⟨one, x, s, c, rfl, hone, rfl⟩
          have hone' : ∀ x ∈ one, x ∈ P := fun x hx => hp.mem_iff.mp (hone.subset hx)
          have honel := hone.length_le
          simp only [asgS_nm, seqF, startE, Ok_bnd, Ok_ok, List.map_cons, List.map_nil, List.length_cons, List.length_nil, List.replicate, List.cons_append, List.nil_append, List.append_nil, List.getElem?_cons_zero, List.getElem?_cons_succ, List.set_cons_zero, List.set_cons_succ, wipeE, Nat.reduceLT, Nat.reduceAdd, if_true, lstV_0, newL_true, List.length_set]
          rw [show S.set b (boxO x s c) ++ [Ob.lst []] = (S ++ [Ob.lst []]).set b (boxO x s c) from (List.set_append_left _ _ hb).symm]
          have hbs : b ≠ S.length := by omega
          refine Ok_imp (Q := fun r st' => ∃ (gs : List Nm) (o11 : Option Val), r = (Fw.nx, [some (.wl (ns.map .int)), some (.int (k : Int)), some (.ref b), some v, some (.fl (R.map enc)), some rm, some (.fl (F.map enc)), some (.fl (P.map enc)), some v8, some (.fl (one.map enc)), some (.ref S.length), o11, o12, o13, o14, o15, o16, o17, none]) ∧ (∀ x, x ∈ gs ↔ ∃ L ∈ F, x ∈ L ∧ ∀ y ∈ L, y ∉ one) ∧ st' = (S ++ [Ob.lst (gs.map enc)]).set b (boxO x s c)) ?_ ?_
          · simp only [iterV_fl, Ok_ok, gdok_fl, if_true]
            refine forR (I := fun rem σ st' => ∃ (gs : List Nm) (pre post : List (List Nm)) (o11 : Option Val), rem = post.map enc ∧ F = pre ++ post ∧ gs.length ≤ 14 * pre.length ∧ σ = [some (.wl (ns.map .int)), some (.int (k : Int)), some (.ref b), some v, some (.fl (R.map enc)), some rm, some (.fl (F.map enc)), some (.fl (P.map enc)), some v8, some (.fl (one.map enc)), some (.ref S.length), o11, o12, o13, o14, o15, o16, o17, none] ∧ (∀ x, x ∈ gs ↔ ∃ L ∈ pre, x ∈ L ∧ ∀ y ∈ L, y ∉ one) ∧ st' = (S ++ [Ob.lst (gs.map enc)]).set b (boxO x s c)) ?_ ?_ _ _ _ ⟨[], [], F, o11, rfl, rfl, by simp, rfl, by simp, rfl⟩
            · rintro w rem σ st' ⟨gs, pre, post, o11, hrem, hF, hgl, rfl, hgs, rfl⟩
              cases post with
              | nil => cases hrem
              | cons L post =>
                rw [List.map_cons] at hrem
                injection hrem with h1 h2
                subst h1 h2
                have hLF : L ∈ F := by rw [hF]; simp
                have hLl : L.length ≤ 14 := Nat.le_trans (nodup_len ((hFm L).mp hLF).lot.nodup ((hFm L).mp hLF).sub) h14
                have hpre : pre.length < F.length := by rw [hF]; simp
                refine ⟨_, rfl, ?_⟩
                simp only [seqF, seqF, startE, Ok_bnd, Ok_ok, List.map_cons, List.map_nil, List.length_cons, List.length_nil, List.replicate, List.cons_append, List.nil_append, List.append_nil, List.getElem?_cons_zero, List.getElem?_cons_succ, List.set_cons_zero, List.set_cons_succ, wipeE, enc_list]
                rw [lcV_pure L enc (fun x => decide (x ∈ one)) enc rfl rfl (by unfold lim; omega) (fun x hx => ⟨_, rfl, (show optB (cmpop .In (enc x) (.fl (one.map enc)) _) _ = _ by rw [cmp_in (xs := one) rfl]; rfl), fun _ => rfl⟩)]
                simp only [newL_false, seqF, startE, Ok_bnd, Ok_ok, List.map_cons, List.map_nil, List.length_cons, List.length_nil, List.replicate, List.cons_append, List.nil_append, List.append_nil, List.getElem?_cons_zero, List.getElem?_cons_succ, List.set_cons_zero, List.set_cons_succ, wipeE, lstV_0, cmp_eq_nil, optB_some, Res.bnd_ok]
                by_cases hno : (L.filter fun x => decide (x ∈ one)) = []
                · simp only [hno, decide_true, if_true, Res.bnd_ok, seqF, startE, Ok_bnd, Ok_ok, List.map_cons, List.map_nil, List.length_cons, List.length_nil, List.replicate, List.cons_append, List.nil_append, List.append_nil, List.getElem?_cons_zero, List.getElem?_cons_succ, List.set_cons_zero, List.set_cons_succ, wipeE, listV_seq SeqV.tup, newL_false]
                  rw [bm_list (by rw [List.getElem?_set_ne hbs]; exact end_get _ _)]
                  simp only [seqF, startE, Ok_bnd, Ok_ok, List.map_cons, List.map_nil, List.length_cons, List.length_nil, List.replicate, List.cons_append, List.nil_append, List.append_nil, List.getElem?_cons_zero, List.getElem?_cons_succ, List.set_cons_zero, List.set_cons_succ, wipeE, Res.bnd_ok]
                  rw [extendV_at (xs := gs.map enc) (by rw [List.getElem?_set_ne hbs]; exact end_get _ _) (by rw [List.length_map, List.length_map]; unfold lim; omega)]
                  simp only [seqF, startE, Ok_bnd, Ok_ok, List.map_cons, List.map_nil, List.length_cons, List.length_nil, List.replicate, List.cons_append, List.nil_append, List.append_nil, List.getElem?_cons_zero, List.getElem?_cons_succ, List.set_cons_zero, List.set_cons_succ, wipeE, Res.bnd_ok]
                  refine ⟨gdok_fl _ _, gs ++ L, pre ++ [L], post, _, rfl, by rw [hF, List.append_assoc]; rfl, by rw [List.length_append, List.length_append, List.length_singleton]; omega, rfl, fun z => ?_, ?_⟩
                  · rw [List.mem_append, hgs]
                    constructor
                    · rintro (⟨K, hK, h1, h2⟩ | h)
                      · exact ⟨K, List.mem_append_left _ hK, h1, h2⟩
                      · exact ⟨L, List.mem_append_right _ List.mem_cons_self, h, fun y hy hyo => by
                          have := List.filter_eq_nil_iff.mp hno y hy
                          exact this (decide_eq_true hyo)⟩
                    · rintro ⟨K, hK, h1, h2⟩
                      rcases List.mem_append.mp hK with hK | hK
                      · exact .inl ⟨K, hK, h1, h2⟩
                      · rw [List.mem_singleton.mp hK] at h1; exact .inr h1
                  · rw [List.set_comm _ _ hbs, end_set, List.map_append]
                · simp only [hno, decide_false, Bool.false_eq_true, if_false, Res.bnd_ok, seqF, startE, Ok_bnd, Ok_ok, List.map_cons, List.map_nil, List.length_cons, List.length_nil, List.replicate, List.cons_append, List.nil_append, List.append_nil, List.getElem?_cons_zero, List.getElem?_cons_succ, List.set_cons_zero, List.set_cons_succ, wipeE]
                  refine ⟨gdok_fl _ _, gs, pre ++ [L], post, _, rfl, by rw [hF, List.append_assoc]; rfl, by rw [List.length_append, List.length_singleton]; omega, rfl, fun z => ?_, rfl⟩
                  rw [hgs]
                  constructor
                  · rintro ⟨K, hK, h1, h2⟩
                    exact ⟨K, List.mem_append_left _ hK, h1, h2⟩
                  · rintro ⟨K, hK, h1, h2⟩
                    rcases List.mem_append.mp hK with hK | hK
                    · exact ⟨K, hK, h1, h2⟩
                    · rw [List.mem_singleton] at hK
                      subst hK
                      exact absurd (List.filter_eq_nil_iff.mpr fun y hy hd => h2 y hy (of_decide_eq_true hd)) hno
            · rintro σ st' ⟨gs, pre, post, o11, hrem, hF, hgl, rfl, hgs, rfl⟩
              cases post with
              | cons L post => cases hrem
              | nil =>
                rw [List.append_nil] at hF
                subst hF
                exact ⟨gs, o11, rfl, hgs, rfl⟩
          rintro _ _ ⟨gs, o11, rfl, hgs, rfl⟩
          have hgM : ∀ x, x ∈ gs ↔ x ∈ mostL Q P one := by
            intro x
            rw [hgs]
            constructor
            · rintro ⟨L, hL, h1, h2⟩
              exact Feas.inMost (hM one) ((hFm L).mp hL) h2 x h1
            · intro hx
              exact ⟨mostL Q P one, (hFm _).mpr (most_feas hPl (hM one)), hx, fun y hy => (hM one).out y hy⟩
          have hb1 : b < (S ++ [Ob.lst (gs.map enc)]).length := by simp; omega
          have hw1 : Wf (S ++ [Ob.lst (gs.map enc)]) := hw0.push (o := .lst (gs.map enc)) (blwL_enc _ gs)
          have hgT : ∀ x s c, ((S ++ [Ob.lst (gs.map enc)]).set b (boxO x s c))[S.length]? = some (.lst (gs.map enc)) := fun x s c => by rw [List.getElem?_set_ne hbs]; exact end_get _ _
          have hdue : (P.filter fun x => decide (x ∉ gs)) = hullL P (mostL Q P one) := by
            unfold hullL
            exact List.filter_congr fun x _ => decide_eq_decide.mpr (not_congr (hgM x))
          simp only [seqF, startE, Ok_bnd, Ok_ok, List.map_cons, List.map_nil, List.length_cons, List.length_nil, List.replicate, List.cons_append, List.nil_append, List.append_nil, List.getElem?_cons_zero, List.getElem?_cons_succ, List.set_cons_zero, List.set_cons_succ, wipeE, Res.bnd_ok]
          rw [lcV_pure P enc (fun x => decide (x ∉ gs)) enc rfl (gdok_fl _ _) (by unfold lim; omega) (fun x hx => ⟨_, rfl, (show optB (cmpop .NotIn (enc x) (.ref S.length) _) _ = _ by rw [cmp_notin (xs := gs) (seqOf_ref (hgT _ _ _))]; rfl), fun _ => rfl⟩), hdue]
          generalize S ++ [Ob.lst (gs.map enc)] = S1 at *
          generalize hHe : hullL P (mostL Q P one) = H at *
          have hHP : ∀ x ∈ H, x ∈ P := fun x hx => (mem_hullL.mp (hHe ▸ hx)).1
          have hHH : hullL P (mostL Q P H) = H := by
            have := ((hM one).hull hone').eq
            rw [hHe] at this
            rw [this, hHe]
          have hH1 : hullL P (mostL Q P (one ++ one.take 1)) = H := by
            have := ((hM one).congr (Y := one ++ one.take 1) fun x _ => ⟨fun h => List.mem_append_left _ h, fun h => (List.mem_append.mp h).elim id fun h => List.mem_of_mem_take h⟩).eq
            rw [this, hHe]
          have ceq : ∀ (xs : List Nm) st, cmpop .NotEq (.tup (xs.map enc)) (.tup (xs.map enc)) st = some false := fun xs st => by
            have := cmp_ne_lot xs xs st
            rw [enc_list] at this
            rw [this]
            simp
          have ceqL : ∀ (xs : List Nm) st, cmpop .NotEq (.fl (xs.map enc)) (.fl (xs.map enc)) st = some false := fun xs st => by
            rw [cmp_ne_flN xs xs st]
            simp
          have hhH : ∀ st, r_hull [rm, .tup (H.map enc)] st = .ok (.tup (H.map enc)) st := fun st => by
            have := hhull (.tup (H.map enc)) H st SeqV.tup hHP
            rw [hHH] at this
            exact this
          have hcat : ∀ st, binop false .Add (.fl (one.map enc)) (.fl ((one.take 1).map enc)) st = .ok (.fl ((one ++ one.take 1).map enc)) st := fun st => by
            rw [bin_cat rfl rfl (by rw [List.length_map, List.length_map, List.length_take]; unfold lim; omega), newL_false, List.map_append]
          have hh1 : ∀ st, r_hull [rm, .fl ((one ++ one.take 1).map enc)] st = .ok (.tup (H.map enc)) st := fun st => by
            have := hhull _ (one ++ one.take 1) st SeqV.fl (fun x hx => (List.mem_append.mp hx).elim (hone' x) fun h => hone' x (List.mem_of_mem_take h))
            rw [hH1] at this
            exact this
          have htk : ∀ st, slcV false (.fl (one.map enc)) none (some (1 : Int)) st = .ok (.fl ((one.take 1).map enc)) st := fun st => by
            rw [show ((1 : Int)) = ((1 : Nat) : Int) from rfl, slc_fl_take, List.map_take]
          simp only [newL_false, seqF, startE, Ok_bnd, Ok_ok, List.map_cons, List.map_nil, List.length_cons, List.length_nil, List.replicate, List.cons_append, List.nil_append, List.append_nil, List.getElem?_cons_zero, List.getElem?_cons_succ, List.set_cons_zero, List.set_cons_succ, wipeE, Res.bnd_ok, tupleV_fl, asgS_nm, Nat.reduceLT, Nat.reduceAdd, if_true, intV_int, htk, hcat, hh1, ceq, optB_some, Bool.false_eq_true, if_false, hhH, ceqL]
          rw [show ∀ st, lstV false [Val.str (Str.ofString "a")] st = .ok (.fl [Val.str (Str.ofString "a")]) st from fun st => rfl]
          simp only [Res.bnd_ok, tupV_2, seqF, startE, Ok_bnd, Ok_ok, List.map_cons, List.map_nil, List.length_cons, List.length_nil, List.replicate, List.cons_append, List.nil_append, List.append_nil, List.getElem?_cons_zero, List.getElem?_cons_succ, List.set_cons_zero, List.set_cons_succ, wipeE]
          rw [show ∀ st, lstV false [Val.str (Str.ofString "qq"), .non, .int 0, .fl [Val.str (Str.ofString "a")], .str (Str.ofString "A"), .str (Str.ofString ""), .tup [.int 1, .non], .bl true] st = .ok (.fl odd8) st from fun st => rfl]
          simp only [Res.bnd_ok, tupV_2, seqF, startE, Ok_bnd, Ok_ok, List.map_cons, List.map_nil, List.length_cons, List.length_nil, List.replicate, List.cons_append, List.nil_append, List.append_nil, List.getElem?_cons_zero, List.getElem?_cons_succ, List.set_cons_zero, List.set_cons_succ, wipeE]
          have hoddb : ∀ n, Val.blwL n odd8 = true := fun n => by simp [odd8, Val.blwL, Val.blw]
          refine Ok_imp (pickV_run hb1 hw1 SeqV.fl hoddb (by decide) (by decide)) ?_
          rintro odd _ ⟨jj, x, s, c, hjj, rfl⟩
          have hom := List.mem_of_getElem? hjj
          have hob := blwL_mem (hoddb 0) hom
          obtain ⟨_, _, tx, htx⟩ := odd8_all odd hom
          simp only [asgS_nm, seqF, startE, Ok_bnd, Ok_ok, List.map_cons, List.map_nil, List.length_cons, List.length_nil, List.replicate, List.cons_append, List.nil_append, List.append_nil, List.getElem?_cons_zero, List.getElem?_cons_succ, List.set_cons_zero, List.set_cons_succ, wipeE, Nat.reduceLT, Nat.reduceAdd, if_true, Res.bnd_ok, show ∀ st, lenV [.fl (one.map enc)] st = .ok (.int (one.length : Int)) st from fun st => by show Res.ok (Val.int ((one.map (enc : Nm → Val)).length : Int)) st = _; rw [List.length_map], bin_add]
          refine Ok_imp (take_run hb1 hw1 (by omega) (by omega)) ?_
          rintro _ _ ⟨d, x, s, c, rfl, hd0, hd1, rfl⟩
          obtain ⟨j, rfl⟩ : ∃ j : Nat, d = (j : Int) := ⟨d.toNat, by omega⟩
          simp only [intV_int, Ok_ok, slc_fl_take, slc_fl_drop, lstV_1, newL_false]
          rw [bin_cat rfl rfl (by rw [List.length_take, List.length_map]; simp; unfold lim; omega)]
          simp only [newL_false, Ok_ok]
          rw [bin_cat rfl rfl (by rw [List.length_append, List.length_take, List.length_drop, List.length_map]; simp; unfold lim; omega)]
          simp only [newL_false, Ok_ok]
          rw [bin_cat rfl rfl (by rw [List.length_append, List.length_append, List.length_take, List.length_drop, List.length_map]; simp; unfold lim; omega)]
          simp only [newL_false, Ok_ok]
          rw [← List.map_take, ← List.map_drop, List.append_assoc, List.append_assoc, List.singleton_append]
          have hallb : Val.blwL 0 ((one.take j).map enc ++ odd :: ((one.drop j).map enc ++ [Val.str (Str.ofString "qq")])) = true := by
            have : ∀ (a b : List Val), Val.blwL 0 a = true → Val.blwL 0 b = true → Val.blwL 0 (a ++ b) = true := fun a b ha hb => by
              induction a with
              | nil => exact hb
              | cons y a ih =>
                rw [Val.blwL, Bool.and_eq_true] at ha
                rw [List.cons_append, Val.blwL, ha.1, ih ha.2]
                rfl
            exact this _ _ (blwL_enc 0 _) (by rw [Val.blwL, hob, this _ _ (blwL_enc 0 _) rfl]; rfl)
          have hheard := fun st => hbad _ (one.take j) odd ((one.drop j).map enc ++ [Val.str (Str.ofString "qq")]) st SeqV.fl hallb (fun y hy => hone' y (List.mem_of_mem_take hy)) hom
          generalize (one.take j).map enc ++ odd :: ((one.drop j).map enc ++ [Val.str (Str.ofString "qq")]) = wrong at hheard
          have hnes : ∀ st, cmpop .NotEq (.str tx) (.str tx) st = some false := fun st => by
            show (some (decide (tx = tx))).map (!·) = _
            simp
          have hnin : ∀ st, cmpop .NotIn odd (.fl (P.map enc)) st = some true := fun st => hout8 odd hom _ SeqV.fl (fun t h => by cases h) st
          simp only [hheard, Ok_ok, hnin, optB_some, if_true, htx, Res.bnd_ok, hnes, Bool.false_eq_true, if_false]
          exact ⟨gdok_none _, S1, x, s, c, _, _, _, _, _, _, _, _, _, _, rfl, hb1, hw1, rfl⟩
        · rintro σ st' ⟨S, x, s, c, o8, o9, o10, o11, o12, o13, o14, o15, o16, o17, rfl, hb, hw0, rfl⟩
          exact ⟨S, x, s, c, _, _, _, _, _, _, _, _, _, _, rfl, hb, hw0, rfl⟩
      · rintro _ _ ⟨S, x, s, c, o8, o9, o10, o11, o12, o13, o14, o15, o16, o17, rfl, hb, hw0, rfl⟩
        exact ⟨trivial, S, x, s, c, _, _, _, _, _, _, _, _, _, _, _, _, _, _, _, rfl, hb, hw0, rfl⟩
    · rintro σ st' ⟨S, x, s, c, o3, o4, o5, o6, o7, o8, o9, o10, o11, o12, o13, o14, o15, o16, o17, rfl, hb, hw0, rfl⟩
      simp only [seqF, startE, Ok_bnd, Ok_ok, List.map_cons, List.map_nil, List.length_cons, List.length_nil, List.replicate, List.cons_append, List.nil_append, List.append_nil, List.getElem?_cons_zero, List.getElem?_cons_succ, List.set_cons_zero, List.set_cons_succ, wipeE]
      exact ⟨trivial, _, _, _, _, _, _, _, _, _, _, _, _, _, _, _, _, _, rfl, hw0.set rfl _, fun v hv => hk v (List.mem_cons_of_mem _ hv)⟩
  · rintro σ st ⟨o1, o2, o3, o4, o5, o6, o7, o8, o9, o10, o11, o12, o13, o14, o15, o16, o17, rfl, hw, hk⟩
    have hroom : ∀ st, r_hull [room0, .tup []] st = .ok (.tup []) st := fun st => by kernel_rfl
    simp only [seqF, startE, Ok_bnd, Ok_ok, List.map_cons, List.map_nil, List.length_cons, List.length_nil, List.replicate, List.cons_append, List.nil_append, List.append_nil, List.getElem?_cons_zero, List.getElem?_cons_succ, List.set_cons_zero, List.set_cons_succ, wipeE, tupV_0, mk_room0, hroom, Ok_ok]
    rfl

end K13

set_option maxHeartbeats 4000000
namespace K13
open PySem PySem.Spec PyProof.Rows L2 Mi
section
variable {P : Program} {w : World} {base : Heap} {G : Gm} {mg : Str → Option Value} {f : Nat → Addr} {fd : Nat → FuncData} {em : Nat → Addr} {pr : Addr} {mc : Value} {dT : Nat → Addr}
def spLaw (K : PySem.W.Frag) : Sp := fun vs H Q _ => ∃ (a : Addr) (ns : List Int), vs = [.ref a] ∧ SqL K H a (ns.map V.int) ∧ ns.length ≤ 63 ∧ ∀ H', Q (.bl true) H'

theorem law_ok (T : Tb G mg f fd em pr mc dT) : FnG P w G.K mg base 6 (f 26) (fd 26) ["_law_script"] (spLaw G.K) := by
  constructor
  intro A outer s H args us vs Q hg hr e0 hb rv hsp
  refine (ok_law (P := P) (w := w) (base := base) T).go A outer s H args us vs Q hg hr e0 hb rv ?_
  obtain ⟨a, ns, rfl, hS, hl, q⟩ := hsp
  have S : Sim G H (fun _ => 0) [] H := ⟨Same.refl _, fun i o e => by simp at e, fun i j hi => absurd hi (Nat.not_lt_zero _)⟩
  refine ⟨rfl, H, fun _ => 0, [.wl (ns.map .int)], S, RepL.cons ?_ RepL.nil, ?_⟩
  · unfold Rep
    exact ⟨a, _, rfl, hS, repL_ints ns⟩
  · have hz : ∀ l : List Int, Val.blwL 0 (l.map .int) = true := fun l => by
      induction l with
      | nil => rfl
      | cons x l ih => rw [List.map_cons, Val.blwL, ih]; rfl
    obtain ⟨r, st1, e, hv⟩ := callV_bl (law_true ns hl) (by rw [Val.blwL, Val.blw, hz]; rfl)
    rw [e]
    exact fun F' m' H' S' e' => ⟨_, hv, fun z rz => by unfold Rep at rz; subst rz; exact q H'⟩
end
theorem all_mk {l : PySem.W.OpenLaw} {w : World} {K : PySem.W.Frag} {h : Heap} {mg : Str → Option Value} {fa : Addr} {pr C0 C1 C2 C3 C4 : Addr}
    {od0 an0 : Option Addr} {sl0 : Array (Option Value)} {oc0 kV0 dc0 pm0 cd0 ct0 : Value} {f0 : Addr}
    {od1 an1 : Option Addr} {sl1 : Array (Option Value)} {oc1 kV1 dc1 pm1 cd1 ct1 : Value} {f1 : Addr}
    {od2 an2 : Option Addr} {sl2 : Array (Option Value)} {oc2 kV2 dc2 pm2 cd2 ct2 : Value} {f2 : Addr}
    {od3 an3 : Option Addr} {sl3 : Array (Option Value)} {oc3 kV3 dc3 pm3 cd3 ct3 : Value} {f3 : Addr}
    {od4 an4 : Option Addr} {sl4 : Array (Option Value)} {oc4 kV4 dc4 pm4 cd4 ct4 : Value} {f4 : Addr}
    {od5 an5 : Option Addr} {sl5 : Array (Option Value)} {oc5 kV5 dc5 pm5 cd5 ct5 : Value} {f5 : Addr}
    {od6 an6 : Option Addr} {sl6 : Array (Option Value)} {oc6 kV6 dc6 pm6 cd6 ct6 : Value} {f6 : Addr}
    {od7 an7 : Option Addr} {sl7 : Array (Option Value)} {oc7 kV7 dc7 pm7 cd7 ct7 : Value} {f7 : Addr}
    {od8 an8 : Option Addr} {sl8 : Array (Option Value)} {oc8 kV8 dc8 pm8 cd8 ct8 : Value} {f8 : Addr}
    {od9 an9 : Option Addr} {sl9 : Array (Option Value)} {oc9 kV9 dc9 pm9 cd9 ct9 : Value} {f9 : Addr}
    {od10 an10 : Option Addr} {sl10 : Array (Option Value)} {oc10 kV10 dc10 pm10 cd10 ct10 : Value} {f10 : Addr}
    {od11 an11 : Option Addr} {sl11 : Array (Option Value)} {oc11 kV11 dc11 pm11 cd11 ct11 : Value} {f11 : Addr}
    {od12 an12 : Option Addr} {sl12 : Array (Option Value)} {oc12 kV12 dc12 pm12 cd12 ct12 : Value} {f12 : Addr}
    {od13 an13 : Option Addr} {sl13 : Array (Option Value)} {oc13 kV13 dc13 pm13 cd13 ct13 : Value} {f13 : Addr}
    {od14 an14 : Option Addr} {sl14 : Array (Option Value)} {oc14 kV14 dc14 pm14 cd14 ct14 : Value} {f14 : Addr}
    {od15 an15 : Option Addr} {sl15 : Array (Option Value)} {oc15 kV15 dc15 pm15 cd15 ct15 : Value} {f15 : Addr}
    {od16 an16 : Option Addr} {sl16 : Array (Option Value)} {oc16 kV16 dc16 pm16 cd16 ct16 : Value} {f16 : Addr}
    {t16 : Addr} {toc16 : Value} {tod16 : Option Addr} {tn16 : Nat} {tsl16 : Array (Option Value)} {em16 : Addr} {eod16 : Option Addr} {en16 : Nat} {esl16 : Array (Option Value)}
    {od17 an17 : Option Addr} {sl17 : Array (Option Value)} {oc17 kV17 dc17 pm17 cd17 ct17 : Value} {f17 : Addr}
    {od18 an18 : Option Addr} {sl18 : Array (Option Value)} {oc18 kV18 dc18 pm18 cd18 ct18 : Value} {f18 : Addr}
    {t18 : Addr} {toc18 : Value} {tod18 : Option Addr} {tn18 : Nat} {tsl18 : Array (Option Value)} {em18 : Addr} {eod18 : Option Addr} {en18 : Nat} {esl18 : Array (Option Value)}
    {od19 an19 : Option Addr} {sl19 : Array (Option Value)} {oc19 kV19 dc19 pm19 cd19 ct19 : Value} {f19 : Addr}
    {od20 an20 : Option Addr} {sl20 : Array (Option Value)} {oc20 kV20 dc20 pm20 cd20 ct20 : Value} {f20 : Addr}
    {od21 an21 : Option Addr} {sl21 : Array (Option Value)} {oc21 kV21 dc21 pm21 cd21 ct21 : Value} {f21 : Addr}
    {od22 an22 : Option Addr} {sl22 : Array (Option Value)} {oc22 kV22 dc22 pm22 cd22 ct22 : Value} {f22 : Addr}
    {od23 an23 : Option Addr} {sl23 : Array (Option Value)} {oc23 kV23 dc23 pm23 cd23 ct23 : Value} {f23 : Addr}
    {od24 an24 : Option Addr} {sl24 : Array (Option Value)} {oc24 kV24 dc24 pm24 cd24 ct24 : Value} {f24 : Addr}
    {od25 an25 : Option Addr} {sl25 : Array (Option Value)} {oc25 kV25 dc25 pm25 cd25 ct25 : Value} {f25 : Addr}
    {od26 an26 : Option Addr} {sl26 : Array (Option Value)} {oc26 kV26 dc26 pm26 cd26 ct26 : Value} {f26 : Addr}
    {nmE2 qE2 : Str} {NE2 : Addr} {bsE2 bmE2 : List Value} {snE2 : List Str} {suE2 : List Value} {abE2 : Bool} {coE2 : Option Bool} {ddE2 : Option Addr} {k0E2 k1E2 k2E2 k3E2 k5E2 : Option Value}
    {od27 an27 : Option Addr} {sl27 : Array (Option Value)} {oc27 kV27 dc27 pm27 cd27 ct27 : Value} {f27 : Addr}
    {tk_LETTERS : Tok}
    {tk_MOST_LETTERS : Tok}
    (X : K.In h) (G : h.Ns mainGlobals mg) (hfa : mg "law" = some (.ref fa))
    (a0 : PySem.W.nsIn K mainGlobals "_law_box" = some (some (.ref f0)))
    (l0 : K.lookup f0 = some ⟨oc0, od0, .func (PySem.W.fnOf "_law_box" "_law_box" (defArgs s__law_box) (defBody s__law_box) (defScope s__law_box) .none kV0 dc0 pm0 an0 cd0 ct0), sl0⟩)
    (c0 : PySem.W.codeIn K cd0 "_law_box" = true)
    (k0 : PySem.W.keepIn K (.ref f0) = true)
    (a1 : PySem.W.nsIn K mainGlobals "is_name" = some (some (.ref f1)))
    (l1 : K.lookup f1 = some ⟨oc1, od1, .func (PySem.W.fnOf "is_name" "is_name" (defArgs s_is_name) (defBody s_is_name) (defScope s_is_name) .none kV1 dc1 pm1 an1 cd1 ct1), sl1⟩)
    (c1 : PySem.W.codeIn K cd1 "is_name" = true)
    (k1 : PySem.W.keepIn K (.ref f1) = true)
    (a2 : PySem.W.nsIn K mainGlobals "need_names" = some (some (.ref f2)))
    (l2 : K.lookup f2 = some ⟨oc2, od2, .func (PySem.W.fnOf "need_names" "need_names" (defArgs s_need_names) (defBody s_need_names) (defScope s_need_names) .none kV2 dc2 pm2 an2 cd2 ct2), sl2⟩)
    (c2 : PySem.W.codeIn K cd2 "need_names" = true)
    (k2 : PySem.W.keepIn K (.ref f2) = true)
    (a3 : PySem.W.nsIn K mainGlobals "rest_of" = some (some (.ref f3)))
    (l3 : K.lookup f3 = some ⟨oc3, od3, .func (PySem.W.fnOf "rest_of" "rest_of" (defArgs s_rest_of) (defBody s_rest_of) (defScope s_rest_of) .none kV3 dc3 pm3 an3 cd3 ct3), sl3⟩)
    (c3 : PySem.W.codeIn K cd3 "rest_of" = true)
    (k3 : PySem.W.keepIn K (.ref f3) = true)
    (a4 : PySem.W.nsIn K mainGlobals "lot_of" = some (some (.ref f4)))
    (l4 : K.lookup f4 = some ⟨oc4, od4, .func (PySem.W.fnOf "lot_of" "lot_of" (defArgs s_lot_of) (defBody s_lot_of) (defScope s_lot_of) .none kV4 dc4 pm4 an4 cd4 ct4), sl4⟩)
    (c4 : PySem.W.codeIn K cd4 "lot_of" = true)
    (k4 : PySem.W.keepIn K (.ref f4) = true)
    (a5 : PySem.W.nsIn K mainGlobals "is_fulfilled" = some (some (.ref f5)))
    (l5 : K.lookup f5 = some ⟨oc5, od5, .func (PySem.W.fnOf "is_fulfilled" "is_fulfilled" (defArgs s_is_fulfilled) (defBody s_is_fulfilled) (defScope s_is_fulfilled) .none kV5 dc5 pm5 an5 cd5 ct5), sl5⟩)
    (c5 : PySem.W.codeIn K cd5 "is_fulfilled" = true)
    (k5 : PySem.W.keepIn K (.ref f5) = true)
    (a6 : PySem.W.findIn K (.ref C1) "wants_of" = some (some (.ref f6)))
    (i6 : PySem.W.isFn K (.ref f6) = true)
    (l6 : K.lookup f6 = some ⟨oc6, od6, .func (PySem.W.fnOf "wants_of" "Room.wants_of" (defArgs s_Room_wants_of) (defBody s_Room_wants_of) (defScope s_Room_wants_of) .none kV6 dc6 pm6 an6 cd6 ct6), sl6⟩)
    (c6 : PySem.W.codeIn K cd6 "Room.wants_of" = true)
    (k6 : PySem.W.keepIn K (.ref f6) = true)
    (a7 : PySem.W.nsIn K mainGlobals "may" = some (some (.ref f7)))
    (l7 : K.lookup f7 = some ⟨oc7, od7, .func (PySem.W.fnOf "may" "may" (defArgs s_may) (defBody s_may) (defScope s_may) .none kV7 dc7 pm7 an7 cd7 ct7), sl7⟩)
    (c7 : PySem.W.codeIn K cd7 "may" = true)
    (k7 : PySem.W.keepIn K (.ref f7) = true)
    (a8 : PySem.W.nsIn K mainGlobals "most_gone" = some (some (.ref f8)))
    (l8 : K.lookup f8 = some ⟨oc8, od8, .func (PySem.W.fnOf "most_gone" "most_gone" (defArgs s_most_gone) (defBody s_most_gone) (defScope s_most_gone) .none kV8 dc8 pm8 an8 cd8 ct8), sl8⟩)
    (c8 : PySem.W.codeIn K cd8 "most_gone" = true)
    (k8 : PySem.W.keepIn K (.ref f8) = true)
    (a9 : PySem.W.nsIn K mainGlobals "hull" = some (some (.ref f9)))
    (l9 : K.lookup f9 = some ⟨oc9, od9, .func (PySem.W.fnOf "hull" "hull" (defArgs s_hull) (defBody s_hull) (defScope s_hull) .none kV9 dc9 pm9 an9 cd9 ct9), sl9⟩)
    (c9 : PySem.W.codeIn K cd9 "hull" = true)
    (k9 : PySem.W.keepIn K (.ref f9) = true)
    (a10 : PySem.W.nsIn K mainGlobals "_law_take" = some (some (.ref f10)))
    (l10 : K.lookup f10 = some ⟨oc10, od10, .func (PySem.W.fnOf "_law_take" "_law_take" (defArgs s__law_take) (defBody s__law_take) (defScope s__law_take) .none kV10 dc10 pm10 an10 cd10 ct10), sl10⟩)
    (c10 : PySem.W.codeIn K cd10 "_law_take" = true)
    (k10 : PySem.W.keepIn K (.ref f10) = true)
    (a11 : PySem.W.nsIn K mainGlobals "_law_mixed" = some (some (.ref f11)))
    (l11 : K.lookup f11 = some ⟨oc11, od11, .func (PySem.W.fnOf "_law_mixed" "_law_mixed" (defArgs s__law_mixed) (defBody s__law_mixed) (defScope s__law_mixed) .none kV11 dc11 pm11 an11 cd11 ct11), sl11⟩)
    (c11 : PySem.W.codeIn K cd11 "_law_mixed" = true)
    (k11 : PySem.W.keepIn K (.ref f11) = true)
    (a12 : PySem.W.nsIn K mainGlobals "_law_names" = some (some (.ref f12)))
    (l12 : K.lookup f12 = some ⟨oc12, od12, .func (PySem.W.fnOf "_law_names" "_law_names" (defArgs s__law_names) (defBody s__law_names) (defScope s__law_names) .none kV12 dc12 pm12 an12 cd12 ct12), sl12⟩)
    (c12 : PySem.W.codeIn K cd12 "_law_names" = true)
    (k12 : PySem.W.keepIn K (.ref f12) = true)
    (a13 : PySem.W.nsIn K mainGlobals "_law_rules" = some (some (.ref f13)))
    (l13 : K.lookup f13 = some ⟨oc13, od13, .func (PySem.W.fnOf "_law_rules" "_law_rules" (defArgs s__law_rules) (defBody s__law_rules) (defScope s__law_rules) .none kV13 dc13 pm13 an13 cd13 ct13), sl13⟩)
    (c13 : PySem.W.codeIn K cd13 "_law_rules" = true)
    (k13 : PySem.W.keepIn K (.ref f13) = true)
    (a14 : PySem.W.nsIn K mainGlobals "text_of_rules" = some (some (.ref f14)))
    (l14 : K.lookup f14 = some ⟨oc14, od14, .func (PySem.W.fnOf "text_of_rules" "text_of_rules" (defArgs s_text_of_rules) (defBody s_text_of_rules) (defScope s_text_of_rules) .none kV14 dc14 pm14 an14 cd14 ct14), sl14⟩)
    (c14 : PySem.W.codeIn K cd14 "text_of_rules" = true)
    (k14 : PySem.W.keepIn K (.ref f14) = true)
    (a15 : PySem.W.nsIn K mainGlobals "is_sequence" = some (some (.ref f15)))
    (l15 : K.lookup f15 = some ⟨oc15, od15, .func (PySem.W.fnOf "is_sequence" "is_sequence" (defArgs s_is_sequence) (defBody s_is_sequence) (defScope s_is_sequence) .none kV15 dc15 pm15 an15 cd15 ct15), sl15⟩)
    (c15 : PySem.W.codeIn K cd15 "is_sequence" = true)
    (k15 : PySem.W.keepIn K (.ref f15) = true)
    (a16 : PySem.W.findIn K (.ref C1) "__init__" = some (some (.ref f16)))
    (i16 : PySem.W.isFn K (.ref f16) = true)
    (l16 : K.lookup f16 = some ⟨oc16, od16, .func (PySem.W.fnOf "__init__" "Room.__init__" (defArgs s_RoomX_initX) (defBody s_RoomX_initX) (defScope s_RoomX_initX) (.ref t16) kV16 dc16 pm16 an16 cd16 ct16), sl16⟩)
    (c16 : PySem.W.codeIn K cd16 "Room.__init__" = true)
    (k16 : PySem.W.keepIn K (.ref f16) = true)
    (d16 : K.lookup t16 = some ⟨toc16, tod16, .seq #[.ref em16] tn16, tsl16⟩)
    (de16 : K.lookup em16 = some ⟨.type "tuple", eod16, .seq #[] en16, esl16⟩)
    (a17 : PySem.W.nsIn K mainGlobals "text_of" = some (some (.ref f17)))
    (l17 : K.lookup f17 = some ⟨oc17, od17, .func (PySem.W.fnOf "text_of" "text_of" (defArgs s_text_of) (defBody s_text_of) (defScope s_text_of) .none kV17 dc17 pm17 an17 cd17 ct17), sl17⟩)
    (c17 : PySem.W.codeIn K cd17 "text_of" = true)
    (k17 : PySem.W.keepIn K (.ref f17) = true)
    (a18 : PySem.W.findIn K (.ref C0) "__init__" = some (some (.ref f18)))
    (i18 : PySem.W.isFn K (.ref f18) = true)
    (l18 : K.lookup f18 = some ⟨oc18, od18, .func (PySem.W.fnOf "__init__" "Rule.__init__" (defArgs s_RuleX_initX) (defBody s_RuleX_initX) (defScope s_RuleX_initX) (.ref t18) kV18 dc18 pm18 an18 cd18 ct18), sl18⟩)
    (c18 : PySem.W.codeIn K cd18 "Rule.__init__" = true)
    (k18 : PySem.W.keepIn K (.ref f18) = true)
    (d18 : K.lookup t18 = some ⟨toc18, tod18, .seq #[.ref em18] tn18, tsl18⟩)
    (de18 : K.lookup em18 = some ⟨.type "tuple", eod18, .seq #[] en18, esl18⟩)
    (a19 : PySem.W.nsIn K mainGlobals "_law_made" = some (some (.ref f19)))
    (l19 : K.lookup f19 = some ⟨oc19, od19, .func (PySem.W.fnOf "_law_made" "_law_made" (defArgs s__law_made) (defBody s__law_made) (defScope s__law_made) .none kV19 dc19 pm19 an19 cd19 ct19), sl19⟩)
    (c19 : PySem.W.codeIn K cd19 "_law_made" = true)
    (k19 : PySem.W.keepIn K (.ref f19) = true)
    (a20 : PySem.W.nsIn K mainGlobals "_law_lot" = some (some (.ref f20)))
    (l20 : K.lookup f20 = some ⟨oc20, od20, .func (PySem.W.fnOf "_law_lot" "_law_lot" (defArgs s__law_lot) (defBody s__law_lot) (defScope s__law_lot) .none kV20 dc20 pm20 an20 cd20 ct20), sl20⟩)
    (c20 : PySem.W.codeIn K cd20 "_law_lot" = true)
    (k20 : PySem.W.keepIn K (.ref f20) = true)
    (a21 : PySem.W.nsIn K mainGlobals "_law_may" = some (some (.ref f21)))
    (l21 : K.lookup f21 = some ⟨oc21, od21, .func (PySem.W.fnOf "_law_may" "_law_may" (defArgs s__law_may) (defBody s__law_may) (defScope s__law_may) .none kV21 dc21 pm21 an21 cd21 ct21), sl21⟩)
    (c21 : PySem.W.codeIn K cd21 "_law_may" = true)
    (k21 : PySem.W.keepIn K (.ref f21) = true)
    (a22 : PySem.W.nsIn K mainGlobals "_law_lots" = some (some (.ref f22)))
    (l22 : K.lookup f22 = some ⟨oc22, od22, .func (PySem.W.fnOf "_law_lots" "_law_lots" (defArgs s__law_lots) (defBody s__law_lots) (defScope s__law_lots) .none kV22 dc22 pm22 an22 cd22 ct22), sl22⟩)
    (c22 : PySem.W.codeIn K cd22 "_law_lots" = true)
    (k22 : PySem.W.keepIn K (.ref f22) = true)
    (a23 : PySem.W.nsIn K mainGlobals "_law_people" = some (some (.ref f23)))
    (l23 : K.lookup f23 = some ⟨oc23, od23, .func (PySem.W.fnOf "_law_people" "_law_people" (defArgs s__law_people) (defBody s__law_people) (defScope s__law_people) .none kV23 dc23 pm23 an23 cd23 ct23), sl23⟩)
    (c23 : PySem.W.codeIn K cd23 "_law_people" = true)
    (k23 : PySem.W.keepIn K (.ref f23) = true)
    (a24 : PySem.W.nsIn K mainGlobals "_law_pick" = some (some (.ref f24)))
    (l24 : K.lookup f24 = some ⟨oc24, od24, .func (PySem.W.fnOf "_law_pick" "_law_pick" (defArgs s__law_pick) (defBody s__law_pick) (defScope s__law_pick) .none kV24 dc24 pm24 an24 cd24 ct24), sl24⟩)
    (c24 : PySem.W.codeIn K cd24 "_law_pick" = true)
    (k24 : PySem.W.keepIn K (.ref f24) = true)
    (a25 : PySem.W.nsIn K mainGlobals "_law_heard" = some (some (.ref f25)))
    (l25 : K.lookup f25 = some ⟨oc25, od25, .func (PySem.W.fnOf "_law_heard" "_law_heard" (defArgs s__law_heard) (defBody s__law_heard) (defScope s__law_heard) .none kV25 dc25 pm25 an25 cd25 ct25), sl25⟩)
    (c25 : PySem.W.codeIn K cd25 "_law_heard" = true)
    (k25 : PySem.W.keepIn K (.ref f25) = true)
    (a26 : PySem.W.nsIn K mainGlobals "law" = some (some (.ref f26)))
    (l26 : K.lookup f26 = some ⟨oc26, od26, .func (PySem.W.fnOf "law" "law" (defArgs s_law) (defBody s_law) (defScope s_law) .none kV26 dc26 pm26 an26 cd26 ct26), sl26⟩)
    (c26 : PySem.W.codeIn K cd26 "law" = true)
    (k26 : PySem.W.keepIn K (.ref f26) = true)
    (gC0 : PySem.W.nsIn K mainGlobals "Rule" = some (some (.ref C0)))
    (mk0 : PySem.W.makesIn K C0 = true)
    (kc0 : PySem.W.keepIn K (.ref C0) = true)
    (pg0 : PySem.W.plainGet K C0 Str.empty = true)
    (hd0 : PySem.W.hasDictIn K C0 = true)
    (po0 : PySem.W.plainOver K C0 = true)
    (sa0 : PySem.W.findIn K (.ref C0) "__setattr__" = some (some (.builtin "object.__setattr__")))
    (ha0 : PySem.W.findIn K (.ref C0) "__class__" = some (some (.builtin "object.__class__")))
    (hm0 : PySem.W.mroIn K C0 (.type "object") = some true)
    (kb0_list : PySem.W.kitOne K (.ref C0) (.type "list") = some false)
    (kb0_str : PySem.W.kitOne K (.ref C0) (.type "str") = some false)
    (kb0_tuple : PySem.W.kitOne K (.ref C0) (.type "tuple") = some false)
    (gC1 : PySem.W.nsIn K mainGlobals "Room" = some (some (.ref C1)))
    (mk1 : PySem.W.makesIn K C1 = true)
    (kc1 : PySem.W.keepIn K (.ref C1) = true)
    (pg1 : PySem.W.plainGet K C1 Str.empty = true)
    (hd1 : PySem.W.hasDictIn K C1 = true)
    (po1 : PySem.W.plainOver K C1 = true)
    (sa1 : PySem.W.findIn K (.ref C1) "__setattr__" = some (some (.builtin "object.__setattr__")))
    (ha1 : PySem.W.findIn K (.ref C1) "__class__" = some (some (.builtin "object.__class__")))
    (hm1 : PySem.W.mroIn K C1 (.type "object") = some true)
    (kb1_list : PySem.W.kitOne K (.ref C1) (.type "list") = some false)
    (kb1_str : PySem.W.kitOne K (.ref C1) (.type "str") = some false)
    (kb1_tuple : PySem.W.kitOne K (.ref C1) (.type "tuple") = some false)
    (gC2 : PySem.W.nsIn K mainGlobals "InvalidName" = some (some (.ref C2)))
    (lE2 : K.lookup C2 = some (excClassObj nmE2 qE2 C2 NE2 bsE2 bmE2 true snE2 suE2 abE2 coE2 ddE2 k0E2 k1E2 k2E2 k3E2 k5E2 "ValueError.__new__"))
    (rE2 : PySem.HandSPX.refsVE bmE2 = true)
    (saE2 : PySem.W.findIn K (.ref C2) "__setattr__" = some (some (.builtin "object.__setattr__")))
    (exE2 : PySem.W.subIn K (.ref C2) (.type "BaseException") = some true)
    (tyE2 : PySem.W.typeIn K (.ref C2) = some (.type "type"))
    (keE2 : PySem.W.keepIn K (.ref C2) = true)
    (iE2 : PySem.W.findIn K (.ref C2) "__init__" = some (some (.ref f27)))
    (tE2 : PySem.W.typeIn K (.ref f27) = some (.type "function"))
    (l27 : K.lookup f27 = some ⟨oc27, od27, .func (PySem.W.fnOf "__init__" "InvalidName.__init__" (defArgs s_EInvalidName) (defBody s_EInvalidName) (defScope s_EInvalidName) .none kV27 dc27 pm27 an27 cd27 ct27), sl27⟩)
    (c27 : PySem.W.codeIn K cd27 "InvalidName.__init__" = true)
    (k27 : PySem.W.keepIn K (.ref f27) = true)
    (nE2 : PySem.W.findIn K (.ref C2) "name" = some none)
    (gaE2 : PySem.W.findIn K (.ref C2) "__getattribute__" = some (some (.builtin "BaseException.__getattribute__")))
    (ggE2 : PySem.W.findIn K (.ref C2) "__getattr__" = some none)
    (hdE2 : PySem.W.hasDictIn K C2 = true)
    (haE2 : PySem.W.findIn K (.ref C2) "__class__" = some (some (.builtin "object.__class__")))
    (hmE2 : PySem.W.mroIn K C2 (.type "object") = some true)
    (sbE2 : PySem.W.subIn K (.ref C2) (.ref C2) = some true)
    (gC3 : PySem.W.nsIn K mainGlobals "LeaveError" = some (some (.ref C3)))
    (gC4 : PySem.W.nsIn K mainGlobals "InvalidOrder" = some (some (.ref C4)))
    (ktE2_3 : PySem.W.kitOne K (.ref C2) (.ref C3) = some true)
    (ktE2_4 : PySem.W.kitOne K (.ref C2) (.ref C4) = some false)
    (rdE : PySem.W.readsIn K C3 (.type "type") = true)
    (gtE : PySem.W.specialIn K (.ref C3) "__getattribute__" = some (some (.builtin "type.__getattribute__")))
    (vvE : PySem.W.findCls K (.ref C3) (.type "type") "__init__" = some (.val (.builtin "ValueError.__init__")))
    (hn : PySem.W.specialIn K (.builtin "object.__class__") "__get__" = some (some (.builtin "getset_descriptor.__get__")))
    (htk : PySem.W.takesIn K (.builtin "object.__class__") = some true)
    (na0 : PySem.W.findIn K (.ref C0) "name" = some none)
    (na1 : PySem.W.findIn K (.ref C0) "gone" = some none)
    (na2 : PySem.W.findIn K (.ref C0) "text" = some none)
    (na3 : PySem.W.findIn K (.ref C1) "rules" = some none)
    (na4 : PySem.W.findIn K (.ref C1) "names" = some none)
    (na5 : PySem.W.findIn K (.ref C1) "text" = some none)
    (kt0_NoneType : PySem.W.kitOne K (.type "NoneType") (.ref C0) = some false)
    (kt0_bool : PySem.W.kitOne K (.type "bool") (.ref C0) = some false)
    (kt0_int : PySem.W.kitOne K (.type "int") (.ref C0) = some false)
    (kt0_str : PySem.W.kitOne K (.type "str") (.ref C0) = some false)
    (kt0_list : PySem.W.kitOne K (.type "list") (.ref C0) = some false)
    (kt0_tuple : PySem.W.kitOne K (.type "tuple") (.ref C0) = some false)
    (kt0_dict : PySem.W.kitOne K (.type "dict") (.ref C0) = some false)
    (kt0_c0 : PySem.W.kitOne K (.ref C0) (.ref C0) = some true)
    (kt0_c1 : PySem.W.kitOne K (.ref C1) (.ref C0) = some false)
    (z_abs : PySem.W.nsIn K mainGlobals "abs" = some none)
    (z_all : PySem.W.nsIn K mainGlobals "all" = some none)
    (z_any : PySem.W.nsIn K mainGlobals "any" = some none)
    (z_enumerate : PySem.W.nsIn K mainGlobals "enumerate" = some none)
    (z_int : PySem.W.nsIn K mainGlobals "int" = some none)
    (z_isinstance : PySem.W.nsIn K mainGlobals "isinstance" = some none)
    (z_len : PySem.W.nsIn K mainGlobals "len" = some none)
    (z_list : PySem.W.nsIn K mainGlobals "list" = some none)
    (z_max : PySem.W.nsIn K mainGlobals "max" = some none)
    (z_min : PySem.W.nsIn K mainGlobals "min" = some none)
    (z_range : PySem.W.nsIn K mainGlobals "range" = some none)
    (z_repr : PySem.W.nsIn K mainGlobals "repr" = some none)
    (z_sorted : PySem.W.nsIn K mainGlobals "sorted" = some none)
    (z_str : PySem.W.nsIn K mainGlobals "str" = some none)
    (z_tuple : PySem.W.nsIn K mainGlobals "tuple" = some none)
    (v_LETTERS : PySem.W.nsIn K mainGlobals "LETTERS" = some (some (.str "abcdefghijklmnopqrstuvwxyz" tk_LETTERS)))
    (v_MOST_LETTERS : PySem.W.nsIn K mainGlobals "MOST_LETTERS" = some (some (.int 3 tk_MOST_LETTERS))) :
    ∃ fd : FuncData, (∀ (s : Shared) (v : Value), BindsTo s fd ⟨[v], []⟩ [("_law_script", v)]) ∧ ∀ base : Heap, K.In base → base.Ns mainGlobals mg → FnG l.prog w K mg base 6 fa fd ["_law_script"] (spLaw K) := by
  have e := hfa.symm.trans (PySem.W.mg_of X G a26)
  cases e
  have F0 := mfun_mk (st := s__law_box) l0 c0 k0
  have F1 := mfun_mk (st := s_is_name) l1 c1 k1
  have F2 := mfun_mk (st := s_need_names) l2 c2 k2
  have F3 := mfun_mk (st := s_rest_of) l3 c3 k3
  have F4 := mfun_mk (st := s_lot_of) l4 c4 k4
  have F5 := mfun_mk (st := s_is_fulfilled) l5 c5 k5
  have F6 := mfun_mk (st := s_Room_wants_of) l6 c6 k6
  have F7 := mfun_mk (st := s_may) l7 c7 k7
  have F8 := mfun_mk (st := s_most_gone) l8 c8 k8
  have F9 := mfun_mk (st := s_hull) l9 c9 k9
  have F10 := mfun_mk (st := s__law_take) l10 c10 k10
  have F11 := mfun_mk (st := s__law_mixed) l11 c11 k11
  have F12 := mfun_mk (st := s__law_names) l12 c12 k12
  have F13 := mfun_mk (st := s__law_rules) l13 c13 k13
  have F14 := mfun_mk (st := s_text_of_rules) l14 c14 k14
  have F15 := mfun_mk (st := s_is_sequence) l15 c15 k15
  have F16 := mfun_mk (st := s_RoomX_initX) l16 c16 k16
  have F17 := mfun_mk (st := s_text_of) l17 c17 k17
  have F18 := mfun_mk (st := s_RuleX_initX) l18 c18 k18
  have F19 := mfun_mk (st := s__law_made) l19 c19 k19
  have F20 := mfun_mk (st := s__law_lot) l20 c20 k20
  have F21 := mfun_mk (st := s__law_may) l21 c21 k21
  have F22 := mfun_mk (st := s__law_lots) l22 c22 k22
  have F23 := mfun_mk (st := s__law_people) l23 c23 k23
  have F24 := mfun_mk (st := s__law_pick) l24 c24 k24
  have F25 := mfun_mk (st := s__law_heard) l25 c25 k25
  have F26 := mfun_mk (st := s_law) l26 c26 k26
  have F27 := mfun_mk (st := s_EInvalidName) l27 c27 k27
  have kbL0 : ∀ t ∈ tyL, PySem.W.kitOne K (.ref C0) (.type t) = some false := fun t ht => by
    rcases mem_tys ht with rfl | rfl | rfl
    · exact kb0_list
    · exact kb0_str
    · exact kb0_tuple
  have kbL1 : ∀ t ∈ tyL, PySem.W.kitOne K (.ref C1) (.type t) = some false := fun t ht => by
    rcases mem_tys ht with rfl | rfl | rfl
    · exact kb1_list
    · exact kb1_str
    · exact kb1_tuple
  have T : Tb ⟨K, fun c => ([C0, C1, C2, C3, C4] : List Addr).getD c 0⟩ mg (fun i => ([f0, f1, f2, f3, f4, f5, f6, f7, f8, f9, f10, f11, f12, f13, f14, f15, f16, f17, f18, f19, f20, f21, f22, f23, f24, f25, fa, f27] : List Addr).getD i 0) (fun i => ([PySem.W.fnOf "_law_box" "_law_box" (defArgs s__law_box) (defBody s__law_box) (defScope s__law_box) .none kV0 dc0 pm0 an0 cd0 ct0, PySem.W.fnOf "is_name" "is_name" (defArgs s_is_name) (defBody s_is_name) (defScope s_is_name) .none kV1 dc1 pm1 an1 cd1 ct1, PySem.W.fnOf "need_names" "need_names" (defArgs s_need_names) (defBody s_need_names) (defScope s_need_names) .none kV2 dc2 pm2 an2 cd2 ct2, PySem.W.fnOf "rest_of" "rest_of" (defArgs s_rest_of) (defBody s_rest_of) (defScope s_rest_of) .none kV3 dc3 pm3 an3 cd3 ct3, PySem.W.fnOf "lot_of" "lot_of" (defArgs s_lot_of) (defBody s_lot_of) (defScope s_lot_of) .none kV4 dc4 pm4 an4 cd4 ct4, PySem.W.fnOf "is_fulfilled" "is_fulfilled" (defArgs s_is_fulfilled) (defBody s_is_fulfilled) (defScope s_is_fulfilled) .none kV5 dc5 pm5 an5 cd5 ct5, PySem.W.fnOf "wants_of" "Room.wants_of" (defArgs s_Room_wants_of) (defBody s_Room_wants_of) (defScope s_Room_wants_of) .none kV6 dc6 pm6 an6 cd6 ct6, PySem.W.fnOf "may" "may" (defArgs s_may) (defBody s_may) (defScope s_may) .none kV7 dc7 pm7 an7 cd7 ct7, PySem.W.fnOf "most_gone" "most_gone" (defArgs s_most_gone) (defBody s_most_gone) (defScope s_most_gone) .none kV8 dc8 pm8 an8 cd8 ct8, PySem.W.fnOf "hull" "hull" (defArgs s_hull) (defBody s_hull) (defScope s_hull) .none kV9 dc9 pm9 an9 cd9 ct9, PySem.W.fnOf "_law_take" "_law_take" (defArgs s__law_take) (defBody s__law_take) (defScope s__law_take) .none kV10 dc10 pm10 an10 cd10 ct10, PySem.W.fnOf "_law_mixed" "_law_mixed" (defArgs s__law_mixed) (defBody s__law_mixed) (defScope s__law_mixed) .none kV11 dc11 pm11 an11 cd11 ct11, PySem.W.fnOf "_law_names" "_law_names" (defArgs s__law_names) (defBody s__law_names) (defScope s__law_names) .none kV12 dc12 pm12 an12 cd12 ct12, PySem.W.fnOf "_law_rules" "_law_rules" (defArgs s__law_rules) (defBody s__law_rules) (defScope s__law_rules) .none kV13 dc13 pm13 an13 cd13 ct13, PySem.W.fnOf "text_of_rules" "text_of_rules" (defArgs s_text_of_rules) (defBody s_text_of_rules) (defScope s_text_of_rules) .none kV14 dc14 pm14 an14 cd14 ct14, PySem.W.fnOf "is_sequence" "is_sequence" (defArgs s_is_sequence) (defBody s_is_sequence) (defScope s_is_sequence) .none kV15 dc15 pm15 an15 cd15 ct15, PySem.W.fnOf "__init__" "Room.__init__" (defArgs s_RoomX_initX) (defBody s_RoomX_initX) (defScope s_RoomX_initX) (.ref t16) kV16 dc16 pm16 an16 cd16 ct16, PySem.W.fnOf "text_of" "text_of" (defArgs s_text_of) (defBody s_text_of) (defScope s_text_of) .none kV17 dc17 pm17 an17 cd17 ct17, PySem.W.fnOf "__init__" "Rule.__init__" (defArgs s_RuleX_initX) (defBody s_RuleX_initX) (defScope s_RuleX_initX) (.ref t18) kV18 dc18 pm18 an18 cd18 ct18, PySem.W.fnOf "_law_made" "_law_made" (defArgs s__law_made) (defBody s__law_made) (defScope s__law_made) .none kV19 dc19 pm19 an19 cd19 ct19, PySem.W.fnOf "_law_lot" "_law_lot" (defArgs s__law_lot) (defBody s__law_lot) (defScope s__law_lot) .none kV20 dc20 pm20 an20 cd20 ct20, PySem.W.fnOf "_law_may" "_law_may" (defArgs s__law_may) (defBody s__law_may) (defScope s__law_may) .none kV21 dc21 pm21 an21 cd21 ct21, PySem.W.fnOf "_law_lots" "_law_lots" (defArgs s__law_lots) (defBody s__law_lots) (defScope s__law_lots) .none kV22 dc22 pm22 an22 cd22 ct22, PySem.W.fnOf "_law_people" "_law_people" (defArgs s__law_people) (defBody s__law_people) (defScope s__law_people) .none kV23 dc23 pm23 an23 cd23 ct23, PySem.W.fnOf "_law_pick" "_law_pick" (defArgs s__law_pick) (defBody s__law_pick) (defScope s__law_pick) .none kV24 dc24 pm24 an24 cd24 ct24, PySem.W.fnOf "_law_heard" "_law_heard" (defArgs s__law_heard) (defBody s__law_heard) (defScope s__law_heard) .none kV25 dc25 pm25 an25 cd25 ct25, PySem.W.fnOf "law" "law" (defArgs s_law) (defBody s_law) (defScope s_law) .none kV26 dc26 pm26 an26 cd26 ct26, PySem.W.fnOf "__init__" "InvalidName.__init__" (defArgs s_EInvalidName) (defBody s_EInvalidName) (defScope s_EInvalidName) .none kV27 dc27 pm27 an27 cd27 ct27] : List FuncData).getD i (PySem.W.fnOf "law" "law" (defArgs s_law) (defBody s_law) (defScope s_law) .none kV26 dc26 pm26 an26 cd26 ct26)) (fun i => ([0, 0, 0, 0, 0, 0, 0, 0, 0, 0, 0, 0, 0, 0, 0, 0, em16, 0, em18, 0, 0, 0, 0, 0, 0, 0, 0] : List Addr).getD i 0) pr (.type "type") (fun i => ([0, 0, 0, 0, 0, 0, 0, 0, 0, 0, 0, 0, 0, 0, 0, 0, t16, 0, t18, 0, 0, 0, 0, 0, 0, 0, 0] : List Addr).getD i 0) :=
    { F__law_box := F0
      b__law_box := F0.binds fun _ _ _ _ _ _ us hl => match us, hl with | [_, _, _], _ => rfl
      g__law_box := PySem.W.mg_of X G a0
      F_is_name := F1
      b_is_name := F1.binds fun _ _ _ _ _ _ us hl => match us, hl with | [_], _ => rfl
      g_is_name := PySem.W.mg_of X G a1
      F_need_names := F2
      b_need_names := F2.binds fun _ _ _ _ _ _ us hl => match us, hl with | [_, _], _ => rfl
      g_need_names := PySem.W.mg_of X G a2
      F_rest_of := F3
      b_rest_of := F3.binds fun _ _ _ _ _ _ us hl => match us, hl with | [_, _], _ => rfl
      g_rest_of := PySem.W.mg_of X G a3
      F_lot_of := F4
      b_lot_of := F4.binds fun _ _ _ _ _ _ us hl => match us, hl with | [_], _ => rfl
      g_lot_of := PySem.W.mg_of X G a4
      F_is_fulfilled := F5
      b_is_fulfilled := F5.binds fun _ _ _ _ _ _ us hl => match us, hl with | [_, _], _ => rfl
      g_is_fulfilled := PySem.W.mg_of X G a5
      F_Room_wants_of := F6
      b_Room_wants_of := F6.binds fun _ _ _ _ _ _ us hl => match us, hl with | [_, _], _ => rfl
      me_Room_wants_of := ⟨a6, i6, k6⟩
      F_may := F7
      b_may := F7.binds fun _ _ _ _ _ _ us hl => match us, hl with | [_, _], _ => rfl
      g_may := PySem.W.mg_of X G a7
      F_most_gone := F8
      b_most_gone := F8.binds fun _ _ _ _ _ _ us hl => match us, hl with | [_, _], _ => rfl
      g_most_gone := PySem.W.mg_of X G a8
      F_hull := F9
      b_hull := F9.binds fun _ _ _ _ _ _ us hl => match us, hl with | [_, _], _ => rfl
      g_hull := PySem.W.mg_of X G a9
      F__law_take := F10
      b__law_take := F10.binds fun _ _ _ _ _ _ us hl => match us, hl with | [_, _], _ => rfl
      g__law_take := PySem.W.mg_of X G a10
      F__law_mixed := F11
      b__law_mixed := F11.binds fun _ _ _ _ _ _ us hl => match us, hl with | [_, _], _ => rfl
      g__law_mixed := PySem.W.mg_of X G a11
      F__law_names := F12
      b__law_names := F12.binds fun _ _ _ _ _ _ us hl => match us, hl with | [_, _], _ => rfl
      g__law_names := PySem.W.mg_of X G a12
      F__law_rules := F13
      b__law_rules := F13.binds fun _ _ _ _ _ _ us hl => match us, hl with | [_, _], _ => rfl
      g__law_rules := PySem.W.mg_of X G a13
      F_text_of_rules := F14
      b_text_of_rules := F14.binds fun _ _ _ _ _ _ us hl => match us, hl with | [_], _ => rfl
      g_text_of_rules := PySem.W.mg_of X G a14
      F_is_sequence := F15
      b_is_sequence := F15.binds fun _ _ _ _ _ _ us hl => match us, hl with | [_], _ => rfl
      g_is_sequence := PySem.W.mg_of X G a15
      F_RoomX_initX := F16
      b_RoomX_initX := F16.bindsD (ds := []) d16 rfl fun _ _ _ _ _ _ us hl => match us, hl with | [_, _], _ => ⟨_, rfl, rfl⟩
      bd_RoomX_initX := F16.bindsD (ds := [.ref em16]) d16 rfl fun _ _ _ _ _ _ us hl => have hl' : us.length = 1 := (by simpa using hl); match us, hl' with | [_], _ => ⟨_, rfl, rfl⟩
      es_RoomX_initX := fun _ => .inr ⟨_, #[], en16, de16, rfl, rfl, Nat.zero_le _, .nil⟩
      mk_Room := ⟨mk1, a16, i16, kc1⟩
      F_text_of := F17
      b_text_of := F17.binds fun _ _ _ _ _ _ us hl => match us, hl with | [_, _], _ => rfl
      g_text_of := PySem.W.mg_of X G a17
      F_RuleX_initX := F18
      b_RuleX_initX := F18.bindsD (ds := []) d18 rfl fun _ _ _ _ _ _ us hl => match us, hl with | [_, _, _], _ => ⟨_, rfl, rfl⟩
      bd_RuleX_initX := F18.bindsD (ds := [.ref em18]) d18 rfl fun _ _ _ _ _ _ us hl => have hl' : us.length = 2 := (by simpa using hl); match us, hl' with | [_, _], _ => ⟨_, rfl, rfl⟩
      es_RuleX_initX := fun _ => .inr ⟨_, #[], en18, de18, rfl, rfl, Nat.zero_le _, .nil⟩
      mk_Rule := ⟨mk0, a18, i18, kc0⟩
      F__law_made := F19
      b__law_made := F19.binds fun _ _ _ _ _ _ us hl => match us, hl with | [_], _ => rfl
      g__law_made := PySem.W.mg_of X G a19
      F__law_lot := F20
      b__law_lot := F20.binds fun _ _ _ _ _ _ us hl => match us, hl with | [_], _ => rfl
      g__law_lot := PySem.W.mg_of X G a20
      F__law_may := F21
      b__law_may := F21.binds fun _ _ _ _ _ _ us hl => match us, hl with | [_, _], _ => rfl
      g__law_may := PySem.W.mg_of X G a21
      F__law_lots := F22
      b__law_lots := F22.binds fun _ _ _ _ _ _ us hl => match us, hl with | [_], _ => rfl
      g__law_lots := PySem.W.mg_of X G a22
      F__law_people := F23
      b__law_people := F23.binds fun _ _ _ _ _ _ us hl => match us, hl with | [_], _ => rfl
      g__law_people := PySem.W.mg_of X G a23
      F__law_pick := F24
      b__law_pick := F24.binds fun _ _ _ _ _ _ us hl => match us, hl with | [_, _], _ => rfl
      g__law_pick := PySem.W.mg_of X G a24
      F__law_heard := F25
      b__law_heard := F25.binds fun _ _ _ _ _ _ us hl => match us, hl with | [_, _], _ => rfl
      g__law_heard := PySem.W.mg_of X G a25
      F_law := F26
      b_law := F26.binds fun _ _ _ _ _ _ us hl => match us, hl with | [_], _ => rfl
      g_law := PySem.W.mg_of X G a26
      gc_Rule := PySem.W.mg_of X G gC0
      gc_Room := PySem.W.mg_of X G gC1
      ER_InvalidName := ⟨⟨_, _, _, _, _, _, _, _, _, _, _, _, _, _, _, lE2, rE2⟩, saE2, exE2, tyE2, keE2⟩
      F_EInvalidName := F27
      b_EInvalidName := F27.binds fun _ _ _ _ _ _ us hl => match us, hl with | [_, _], _ => rfl
      ei_InvalidName := iE2
      et_InvalidName := tE2
      en_InvalidName := nE2
      xf_InvalidName := ⟨gaE2, ggE2, exE2, hdE2⟩
      xc_InvalidName := ⟨gaE2, ggE2, exE2, hdE2, haE2, hn, htk, hmE2⟩
      ex_InvalidName := PySem.W.exm_ref exE2 hdE2 tyE2 sbE2
      ek_InvalidName_LeaveError := ktE2_3
      ek_InvalidName_InvalidOrder := ktE2_4
      eg_InvalidName := PySem.W.mg_of X G gC2
      eg_LeaveError := PySem.W.mg_of X G gC3
      eg_InvalidOrder := PySem.W.mg_of X G gC4
      eb_r := ⟨rdE, gtE⟩
      eb_v := vvE
      kb := fun c hc => by
                have hc : c < 2 := of_decide_eq_true hc
                match c, hc with
                | 0, _ => exact kbL0
                | 1, _ => exact kbL1
      ci := fun c hc => by
                have hc : c < 2 := of_decide_eq_true hc
                match c, hc with
                | 0, _ => exact ⟨⟨pg0, hd0, po0, sa0⟩, ha0, hn, htk, hm0⟩
                | 1, _ => exact ⟨⟨pg1, hd1, po1, sa1⟩, ha1, hn, htk, hm1⟩
      na := fun p hp => by
                rcases mem_okL hp with rfl | rfl | rfl | rfl | rfl | rfl
                · exact na0
                · exact na1
                · exact na2
                · exact na3
                · exact na4
                · exact na5
      z_abs := PySem.W.mg_none_of X G z_abs
      z_all := PySem.W.mg_none_of X G z_all
      z_any := PySem.W.mg_none_of X G z_any
      z_enumerate := PySem.W.mg_none_of X G z_enumerate
      z_int := PySem.W.mg_none_of X G z_int
      z_isinstance := PySem.W.mg_none_of X G z_isinstance
      z_len := PySem.W.mg_none_of X G z_len
      z_list := PySem.W.mg_none_of X G z_list
      z_max := PySem.W.mg_none_of X G z_max
      z_min := PySem.W.mg_none_of X G z_min
      z_range := PySem.W.mg_none_of X G z_range
      z_repr := PySem.W.mg_none_of X G z_repr
      z_sorted := PySem.W.mg_none_of X G z_sorted
      z_str := PySem.W.mg_none_of X G z_str
      z_tuple := PySem.W.mg_none_of X G z_tuple
      c_LETTERS := ⟨_, PySem.W.mg_of X G v_LETTERS, _, rfl⟩
      c_MOST_LETTERS := ⟨_, PySem.W.mg_of X G v_MOST_LETTERS, _, rfl⟩
      kt_Rule := fun kd r hr => by
            cases kd with
            | non => cases hr; exact kt0_NoneType
            | bl => cases hr; exact kt0_bool
            | int => cases hr; exact kt0_int
            | str => cases hr; exact kt0_str
            | lst => cases hr; exact kt0_list
            | tup => cases hr; exact kt0_tuple
            | dic => cases hr; exact kt0_dict
            | cls c =>
              simp only [isi_Rule] at hr
              split at hr
              · rename_i hc
                match c, hc, hr with
                | 0, _, hr => cases hr; exact kt0_c0
                | 1, _, hr => cases hr; exact kt0_c1
              · cases hr }
  exact ⟨_, fun s v => .of_eq rfl, fun base _ _ => law_ok T⟩
end K13
open PySem PySem.W PyProof.Rows
set_option maxHeartbeats 0 in
theorem PySem.Challenge.cw_leavelots_k13_who_has_to_stay_holds : PySem.Challenge.rw_leavelots_k13_who_has_to_stay.Holds := by
  w_on; o_law; k_head; (case hw => w_witness2)
  k_fill
  refine Mi.walk_ofG (l := PySem.Challenge.rw_leavelots_k13_who_has_to_stay) (n := 63) (k := 6) (x := "_law_script") (sp := fun w => K13.spLaw _) rfl (by decide) rfl ⟨rfl, by decide, by decide⟩ (fun w h Y => PySem.W.kIn_of Y) ?F (fun _ _ a ns hl _ hS => ⟨a, ns, rfl, hS, hl, fun _ => rfl⟩)
  case F =>
    intro w mg fa h KX G hmg
    refine' K13.all_mk (pr := 0) KX G hmg ?a0 ?l0 ?c0 ?k0 ?a1 ?l1 ?c1 ?k1 ?a2 ?l2 ?c2 ?k2 ?a3 ?l3 ?c3 ?k3 ?a4 ?l4 ?c4 ?k4 ?a5 ?l5 ?c5 ?k5 ?a6 ?i6 ?l6 ?c6 ?k6 ?a7 ?l7 ?c7 ?k7 ?a8 ?l8 ?c8 ?k8 ?a9 ?l9 ?c9 ?k9 ?a10 ?l10 ?c10 ?k10 ?a11 ?l11 ?c11 ?k11 ?a12 ?l12 ?c12 ?k12 ?a13 ?l13 ?c13 ?k13 ?a14 ?l14 ?c14 ?k14 ?a15 ?l15 ?c15 ?k15 ?a16 ?i16 ?l16 ?c16 ?k16 ?d16 ?de16 ?a17 ?l17 ?c17 ?k17 ?a18 ?i18 ?l18 ?c18 ?k18 ?d18 ?de18 ?a19 ?l19 ?c19 ?k19 ?a20 ?l20 ?c20 ?k20 ?a21 ?l21 ?c21 ?k21 ?a22 ?l22 ?c22 ?k22 ?a23 ?l23 ?c23 ?k23 ?a24 ?l24 ?c24 ?k24 ?a25 ?l25 ?c25 ?k25 ?a26 ?l26 ?c26 ?k26 ?gC0 ?mk0 ?kc0 ?pg0 ?hd0 ?po0 ?sa0 ?ha0 ?hm0 ?kb0_list ?kb0_str ?kb0_tuple ?gC1 ?mk1 ?kc1 ?pg1 ?hd1 ?po1 ?sa1 ?ha1 ?hm1 ?kb1_list ?kb1_str ?kb1_tuple ?gC2 ?lE2 ?rE2 ?saE2 ?exE2 ?tyE2 ?keE2 ?iE2 ?tE2 ?l27 ?c27 ?k27 ?nE2 ?gaE2 ?ggE2 ?hdE2 ?haE2 ?hmE2 ?sbE2 ?gC3 ?gC4 ?ktE2_3 ?ktE2_4 ?rdE ?gtE ?vvE ?hn ?htk ?na0 ?na1 ?na2 ?na3 ?na4 ?na5 ?kt0_NoneType ?kt0_bool ?kt0_int ?kt0_str ?kt0_list ?kt0_tuple ?kt0_dict ?kt0_c0 ?kt0_c1 ?z_abs ?z_all ?z_any ?z_enumerate ?z_int ?z_isinstance ?z_len ?z_list ?z_max ?z_min ?z_range ?z_repr ?z_sorted ?z_str ?z_tuple ?v_LETTERS ?v_MOST_LETTERS
    (case gC0 => k_is)
    (case gC1 => k_is)
    (case gC2 => k_is)
    (case gC3 => k_is)
    (case gC4 => k_is)
    (case a0 => k_is)
    (case l0 => k_is)
    (case c0 => k_is)
    (case k0 => k_is)
    (case a1 => k_is)
    (case l1 => k_is)
    (case c1 => k_is)
    (case k1 => k_is)
    (case a2 => k_is)
    (case l2 => k_is)
    (case c2 => k_is)
    (case k2 => k_is)
    (case a3 => k_is)
    (case l3 => k_is)
    (case c3 => k_is)
    (case k3 => k_is)
    (case a4 => k_is)
    (case l4 => k_is)
    (case c4 => k_is)
    (case k4 => k_is)
    (case a5 => k_is)
    (case l5 => k_is)
    (case c5 => k_is)
    (case k5 => k_is)
    (case a6 => k_is)
    (case i6 => k_is)
    (case l6 => k_is)
    (case c6 => k_is)
    (case k6 => k_is)
    (case a7 => k_is)
    (case l7 => k_is)
    (case c7 => k_is)
    (case k7 => k_is)
    (case a8 => k_is)
    (case l8 => k_is)
    (case c8 => k_is)
    (case k8 => k_is)
    (case a9 => k_is)
    (case l9 => k_is)
    (case c9 => k_is)
    (case k9 => k_is)
    (case a10 => k_is)
    (case l10 => k_is)
    (case c10 => k_is)
    (case k10 => k_is)
    (case a11 => k_is)
    (case l11 => k_is)
    (case c11 => k_is)
    (case k11 => k_is)
    (case a12 => k_is)
    (case l12 => k_is)
    (case c12 => k_is)
    (case k12 => k_is)
    (case a13 => k_is)
    (case l13 => k_is)
    (case c13 => k_is)
    (case k13 => k_is)
    (case a14 => k_is)
    (case l14 => k_is)
    (case c14 => k_is)
    (case k14 => k_is)
    (case a15 => k_is)
    (case l15 => k_is)
    (case c15 => k_is)
    (case k15 => k_is)
    (case a16 => k_is)
    (case i16 => k_is)
    (case l16 => k_is)
    (case c16 => k_is)
    (case k16 => k_is)
    (case d16 => k_is)
    (case de16 => k_is)
    (case a17 => k_is)
    (case l17 => k_is)
    (case c17 => k_is)
    (case k17 => k_is)
    (case a18 => k_is)
    (case i18 => k_is)
    (case l18 => k_is)
    (case c18 => k_is)
    (case k18 => k_is)
    (case d18 => k_is)
    (case de18 => k_is)
    (case a19 => k_is)
    (case l19 => k_is)
    (case c19 => k_is)
    (case k19 => k_is)
    (case a20 => k_is)
    (case l20 => k_is)
    (case c20 => k_is)
    (case k20 => k_is)
    (case a21 => k_is)
    (case l21 => k_is)
    (case c21 => k_is)
    (case k21 => k_is)
    (case a22 => k_is)
    (case l22 => k_is)
    (case c22 => k_is)
    (case k22 => k_is)
    (case a23 => k_is)
    (case l23 => k_is)
    (case c23 => k_is)
    (case k23 => k_is)
    (case a24 => k_is)
    (case l24 => k_is)
    (case c24 => k_is)
    (case k24 => k_is)
    (case a25 => k_is)
    (case l25 => k_is)
    (case c25 => k_is)
    (case k25 => k_is)
    (case a26 => k_is)
    (case l26 => k_is)
    (case c26 => k_is)
    (case k26 => k_is)
    (case mk0 => k_is)
    (case kc0 => k_is)
    (case pg0 => k_is)
    (case hd0 => k_is)
    (case po0 => k_is)
    (case sa0 => k_is)
    (case ha0 => k_is)
    (case hm0 => k_is)
    (case kb0_list => kit_is)
    (case kb0_str => kit_is)
    (case kb0_tuple => kit_is)
    (case mk1 => k_is)
    (case kc1 => k_is)
    (case pg1 => k_is)
    (case hd1 => k_is)
    (case po1 => k_is)
    (case sa1 => k_is)
    (case ha1 => k_is)
    (case hm1 => k_is)
    (case kb1_list => kit_is)
    (case kb1_str => kit_is)
    (case kb1_tuple => kit_is)
    (case lE2 => k_is)
    (case rE2 => rfl)
    (case saE2 => k_is)
    (case exE2 => k_is)
    (case tyE2 => k_is)
    (case keE2 => k_is)
    (case iE2 => k_is)
    (case tE2 => k_is)
    (case l27 => k_is)
    (case c27 => k_is)
    (case k27 => k_is)
    (case nE2 => k_is)
    (case gaE2 => k_is)
    (case ggE2 => k_is)
    (case hdE2 => k_is)
    (case haE2 => k_is)
    (case hmE2 => k_is)
    (case sbE2 => k_is)
    (case ktE2_3 => kit_is)
    (case ktE2_4 => kit_is)
    (case rdE => k_is)
    (case gtE => k_is)
    (case vvE => k_is)
    (case hn => k_is)
    (case htk => k_is)
    (case na0 => k_is)
    (case na1 => k_is)
    (case na2 => k_is)
    (case na3 => k_is)
    (case na4 => k_is)
    (case na5 => k_is)
    (case kt0_NoneType => kit_is)
    (case kt0_bool => kit_is)
    (case kt0_int => kit_is)
    (case kt0_str => kit_is)
    (case kt0_list => kit_is)
    (case kt0_tuple => kit_is)
    (case kt0_dict => kit_is)
    (case kt0_c0 => kit_is)
    (case kt0_c1 => kit_is)
    (case z_abs => k_is)
    (case z_all => k_is)
    (case z_any => k_is)
    (case z_enumerate => k_is)
    (case z_int => k_is)
    (case z_isinstance => k_is)
    (case z_len => k_is)
    (case z_list => k_is)
    (case z_max => k_is)
    (case z_min => k_is)
    (case z_range => k_is)
    (case z_repr => k_is)
    (case z_sorted => k_is)
    (case z_str => k_is)
    (case z_tuple => k_is)
    (case v_LETTERS => k_is)
    (case v_MOST_LETTERS => k_is)
