import PyProof.Rows.All
import Wide.All
import OpenK.AllK
import Wide.FinOn
import PySem.Str
import PyProof.EqAt
import PyProof.EqKinds
import PyProof.TupleCall
import HandS.ForMost
import HandS.Exc
import HandS.ExcOwn
import HandS.TryOnly
import HandS.WordsExc
import HandS.ExcInit
import HandS.Walk
import HandS.Conv
import HandS.Deep
import HandS.Style
import HandS.Wide
import HandS.IsInst
import HandS.DictComp
import HandS.Lambda
import HandS.TupAny
import HandS.SortInts
import HandS.TryMany
import KE.GoesEnum
import HandS.Zip
import HandS.WordsDict
import HandS.More
import HandS.ExcField
import HandS.EndTab
import KE.KNest
import HandS.TupLe
import HandS.RaiseMore
import PySem.Challenge.RW_wovenkeep_k03_ways_and_what_is_led

set_option linter.all false
set_option autoImplicit false
/-! WkD: the functional reading of the given program's Python: data, stores, results, one combinator a construct. Plain Lean, no machine in sight. -/
namespace Wk
open PySem (Str)

/-- a value: scalars, tuples as data, everything that can change by its number in the store -/
inductive D where
  | non | bl (b : Bool) | int (i : Int) | str (x : Str) | tup (xs : List D) | frz (xs : List D) | ref (n : Nat)

mutual
def D.eqb : D → D → Bool
  | .non, .non => true
  | .bl a, .bl b => a == b
  | .int a, .int b => a == b
  | .str a, .str b => a == b
  | .tup a, .tup b => D.eqbs a b
  | .frz a, .frz b => D.eqbs a b
  | .ref a, .ref b => a == b
  | _, _ => false
def D.eqbs : List D → List D → Bool
  | [], [] => true
  | a :: as, b :: bs => D.eqb a b && D.eqbs as bs
  | _, _ => false
end
mutual
theorem D.eqb_iff : ∀ a b : D, D.eqb a b = true ↔ a = b
  | .non, b => by cases b <;> simp [D.eqb]
  | .bl a, b => by cases b <;> simp [D.eqb]
  | .int a, b => by cases b <;> simp [D.eqb]
  | .str a, b => by cases b <;> simp [D.eqb]
  | .ref a, b => by cases b <;> simp [D.eqb]
  | .tup a, b => by
    cases b with
    | tup b => simp only [D.eqb, D.tup.injEq]; exact D.eqbs_iff a b
    | _ => simp [D.eqb]
  | .frz a, b => by
    cases b with
    | frz b => simp only [D.eqb, D.frz.injEq]; exact D.eqbs_iff a b
    | _ => simp [D.eqb]
theorem D.eqbs_iff : ∀ a b : List D, D.eqbs a b = true ↔ a = b
  | [], b => by cases b <;> simp [D.eqbs]
  | a :: as, b => by
    cases b with
    | nil => simp [D.eqbs]
    | cons b bs => simp only [D.eqbs, Bool.and_eq_true, List.cons.injEq]; rw [D.eqb_iff a b, D.eqbs_iff as bs]
end
instance : DecidableEq D := fun a b => decidable_of_iff _ (D.eqb_iff a b)

/-- a dict's key: an int or a text -/
abbrev Kk := Sum Int Str
def kD : Kk → D
  | .inl i => .int i
  | .inr x => .str x
def keyD : D → Option Kk
  | .int i => some (.inl i)
  | .str x => some (.inr x)
  | _ => none
def keysD : List D → Option (List Kk)
  | [] => some []
  | d :: ds => match keyD d, keysD ds with
    | some k, some ks => some (k :: ks)
    | _, _ => none

/-- what stands in the store -/
inductive Ob where
  | lst (xs : List D)
  | dk (kvs : List (Kk × D))
  | dt (kvs : List (List Kk × D))
  deriving DecidableEq
abbrev Store := List Ob
abbrev Env := List (Option D)

inductive Res (α : Type) where
  | ok (a : α) (S : Store)
  | ex (c : String) (w : D) (S : Store)
  | bad
def Res.bind {α β : Type} (r : Res α) (f : α → Store → Res β) : Res β := match r with
  | .ok a S => f a S
  | .ex c w S => .ex c w S
  | .bad => .bad
@[simp] theorem Res.bind_ok {α β : Type} (a : α) (S : Store) (f : α → Store → Res β) : (Res.ok a S).bind f = f a S := rfl
@[simp] theorem Res.bind_ex {α β : Type} (c : String) (w : D) (S : Store) (f : α → Store → Res β) : (Res.ex c w S).bind f = .ex c w S := rfl
@[simp] theorem Res.bind_bad {α β : Type} (f : α → Store → Res β) : (Res.bad : Res α).bind f = .bad := rfl

inductive Rs where
  | nx (s : Env) (S : Store)
  | rt (d : D) (S : Store)
  | bk (s : Env) (S : Store)
  | ct (s : Env) (S : Store)
  | ex (c : String) (w : D) (s : Env) (S : Store)
  | bad
def ofE {α : Type} (r : Res α) (s : Env) (f : α → Store → Rs) : Rs := match r with
  | .ok a S => f a S
  | .ex c w S => .ex c w s S
  | .bad => .bad
@[simp] theorem ofE_ok {α : Type} (a : α) (S : Store) (s : Env) (f : α → Store → Rs) : ofE (.ok a S) s f = f a S := rfl
@[simp] theorem ofE_ex {α : Type} (c : String) (w : D) (S : Store) (s : Env) (f : α → Store → Rs) : ofE (.ex c w S) s f = .ex c w s S := rfl
@[simp] theorem ofE_bad {α : Type} (s : Env) (f : α → Store → Rs) : ofE .bad s f = .bad := rfl

abbrev FE := Env → Store → Res D
abbrev FT := Env → Store → Res Bool
abbrev FA := Env → Store → Res (List D)
abbrev FS := Env → Store → Rs
/-- a def: arguments, store -/
abbrev Fn := List D → Store → Res D
/-- what two values come to -/
abbrev Op := D → D → Store → Res D

/-! ### expressions -/
def eV (i : Nat) : FE := fun s S => match s[i]? with
  | some (some d) => .ok d S
  | _ => .bad
def eC (d : D) : FE := fun _ S => .ok d S
def eOp (o : Op) (a b : FE) : FE := fun s S => (a s S).bind fun x S1 => (b s S1).bind fun y S2 => o x y S2
def eUn (o : D → Store → Res D) (a : FE) : FE := fun s S => (a s S).bind o
def aNil : FA := fun _ S => .ok [] S
def aCons (a : FE) (r : FA) : FA := fun s S => (a s S).bind fun x S1 => (r s S1).bind fun xs S2 => .ok (x :: xs) S2
/-- the longest list -/
def LIM : Nat := 16777216
def eTup (a : FA) : FE := fun s S => (a s S).bind fun xs S1 => if xs.length ≤ LIM then .ok (.tup xs) S1 else .bad
def eLst (a : FA) : FE := fun s S => (a s S).bind fun xs S1 => if xs.length ≤ LIM then .ok (.ref S1.length) (S1 ++ [.lst xs]) else .bad
def eDictK : FE := fun _ S => .ok (.ref S.length) (S ++ [.dk []])
def eDictT : FE := fun _ S => .ok (.ref S.length) (S ++ [.dt []])
def eCall (F : Fn) (a : FA) : FE := fun s S => (a s S).bind F
/-- a test that is an expression whose value is a truth -/
def tE (a : FE) : FT := fun s S => (a s S).bind fun x S1 => match x with
  | .bl b => .ok b S1
  | _ => .bad
def tAnd (t u : FT) : FT := fun s S => (t s S).bind fun b S1 => if b = true then u s S1 else .ok false S1
def tOr (t u : FT) : FT := fun s S => (t s S).bind fun b S1 => if b = true then .ok true S1 else u s S1
def tNot (t : FT) : FT := fun s S => (t s S).bind fun b S1 => .ok (!b) S1
def eNot (a : FE) : FE := fun s S => (tE a s S).bind fun b S1 => .ok (.bl (!b)) S1
def eAnd (a b : FE) : FE := fun s S => (tE a s S).bind fun c S1 => if c = true then b s S1 else .ok (.bl false) S1
def eOr (a b : FE) : FE := fun s S => (tE a s S).bind fun c S1 => if c = true then .ok (.bl true) S1 else b s S1
def eIf (t : FT) (a b : FE) : FE := fun s S => (t s S).bind fun c S1 => if c = true then a s S1 else b s S1
/-- a op b op' c -/
def eChain (o o' : Op) (a b c : FE) : FE := fun s S => (a s S).bind fun x S1 => (b s S1).bind fun y S2 => (o x y S2).bind fun z S3 => match z with
  | .bl true => (c s S3).bind fun w S4 => o' y w S4
  | .bl false => .ok (.bl false) S3
  | _ => .bad

/-! ### targets -/
inductive Tg where
  | nm (i : Nat) | tp (ts : List Tg)
mutual
def gF : Tg → D → Env → Option Env
  | .nm i, d, s => some (s.set i (some d))
  | .tp ts, .tup ds, s => gFs ts ds s
  | .tp _, _, _ => none
def gFs : List Tg → List D → Env → Option Env
  | [], [], s => some s
  | t :: ts, d :: ds, s => match gF t d s with
    | some s' => gFs ts ds s'
    | none => none
  | _, _, _ => none
end

/-! ### what is walked: the items, and what has to stay as it is meanwhile -/
abbrev Chk := List (Nat × Ob)
def okC (c : Chk) (S : Store) : Bool := c.all fun p => decide (S[p.1]? = some p.2)
structure Its where
  items : List D
  chk : Chk
abbrev FI := Env → Store → Res Its
@[simp] theorem okC_nil (S : Store) : okC [] S = true := rfl

/-! ### comprehensions -/
def wipeE (s : Env) : List Nat → Env
  | [] => s
  | v :: vs => (wipeE s vs).set v none
/-- the elements, one behind the other; sw: the slots with the block's own forgotten -/
def compL (c : Chk) (g : Tg) (t : FT) (e : FE) (sw : Env) : List D → Store → Res (List D)
  | [], S => if okC c S then .ok [] S else .bad
  | d :: ds, S => if okC c S then (match gF g d sw with
    | none => .bad
    | some s1 => (t s1 S).bind fun b S1 => if b = true then (e s1 S1).bind fun y S2 => (compL c g t e sw ds S2).bind fun ys S3 => .ok (y :: ys) S3 else compL c g t e sw ds S1) else .bad
def noEx {α : Type} : Res α → Res α
  | .ok a S => .ok a S
  | _ => .bad
@[simp] theorem noEx_ok {α : Type} (a : α) (S : Store) : noEx (.ok a S) = .ok a S := rfl
def eComp (it : FI) (g : Tg) (t : FT) (e : FE) (vs : List Nat) : FE := fun s S => (it s S).bind fun I S1 =>
  (noEx (compL I.chk g t e (wipeE s vs) I.items S1)).bind fun ys S2 => .ok (.ref S2.length) (S2 ++ [.lst ys])
def tTrue : FT := fun _ S => .ok true S
/-- the entries of a dict comprehension, one behind the other -/
def compD (c : Chk) (g : Tg) (t : FT) (k e : FE) (sw : Env) : List D → Store → Res (List (Kk × D))
  | [], S => if okC c S then .ok [] S else .bad
  | d :: ds, S => if okC c S then (match gF g d sw with
    | none => .bad
    | some s1 => (t s1 S).bind fun b S1 => if b = true then (k s1 S1).bind fun x S2 => (e s1 S2).bind fun y S3 => match keyD x with
      | some kk => (compD c g t k e sw ds S3).bind fun ys S4 => .ok ((kk, y) :: ys) S4
      | none => .bad else compD c g t k e sw ds S1) else .bad

/-! ### dicts -/
def valD {κ : Type} [DecidableEq κ] (kvs : List (κ × D)) (k : κ) : Option D := (kvs.find? fun kv => decide (kv.1 = k)).map (·.2)
def putD {κ : Type} [DecidableEq κ] (kvs : List (κ × D)) (k : κ) (v : D) : List (κ × D) :=
  if (kvs.any fun kv => decide (kv.1 = k)) = true then kvs.map fun kv => if kv.1 = k then (kv.1, v) else kv else kvs ++ [(k, v)]
def mergeD (kvs more : List (Kk × D)) : List (Kk × D) := more.foldl (fun acc kv => putD acc kv.1 kv.2) kvs
def eDComp (it : FI) (g : Tg) (t : FT) (k e : FE) (vs : List Nat) : FE := fun s S => (it s S).bind fun I S1 =>
  (noEx (compD I.chk g t k e (wipeE s vs) I.items S1)).bind fun ys S2 => .ok (.ref S2.length) (S2 ++ [.dk (mergeD [] ys)])

/-! ### statements -/
def sSkip : FS := fun s S => .nx s S
def sSeq (f g : FS) : FS := fun s S => match f s S with
  | .nx s' S' => g s' S'
  | r => r
def sSet (i : Nat) (e : FE) : FS := fun s S => ofE (e s S) s fun d S1 => .nx (s.set i (some d)) S1
def sAsg (g : Tg) (e : FE) : FS := fun s S => ofE (e s S) s fun d S1 => match gF g d s with
  | some s' => .nx s' S1
  | none => .bad
def sPar (i j : Nat) (a b : FE) : FS := fun s S => ofE (a s S) s fun x S1 => ofE (b s S1) s fun y S2 => .nx ((s.set i (some x)).set j (some y)) S2
def sPar3 (i j k : Nat) (a b c : FE) : FS := fun s S => ofE (a s S) s fun x S1 => ofE (b s S1) s fun y S2 => ofE (c s S2) s fun z S3 => .nx (((s.set i (some x)).set j (some y)).set k (some z)) S3
def sExpr (e : FE) : FS := fun s S => ofE (e s S) s fun _ S1 => .nx s S1
def sRet (e : FE) : FS := fun s S => ofE (e s S) s fun d S1 => .rt d S1
def sRetN : FS := fun _ S => .rt .non S
def sIf (t : FT) (f g : FS) : FS := fun s S => ofE (t s S) s fun b S1 => if b = true then f s S1 else g s S1
def sBreak : FS := fun s S => .bk s S
def sCont : FS := fun s S => .ct s S
def sRaise (c : String) (e : FE) : FS := fun s S => ofE (e s S) s fun d S1 => .ex c d s S1
/-- o[i] = v -/
abbrev Up := D → D → D → Store → Option Store
def sSub (u : Up) (o i v : FE) : FS := fun s S => ofE (v s S) s fun x S1 => ofE (o s S1) s fun y S2 => ofE (i s S2) s fun z S3 => match u y z x S3 with
  | some S4 => .nx s S4
  | none => .bad
def whileL (t : FT) (b : FS) : Nat → FS
  | 0, _, _ => .bad
  | n + 1, s, S => ofE (t s S) s fun c S1 => if c = true then (match b s S1 with
    | .nx s2 S2 => whileL t b n s2 S2
    | .ct s2 S2 => whileL t b n s2 S2
    | .bk s2 S2 => .nx s2 S2
    | r => r) else .nx s S1
/-- the fuel of a while -/
def FUEL : Nat := 1000000000
def sWhile (t : FT) (b : FS) : FS := whileL t b FUEL
def forL (c : Chk) (g : Tg) (b : FS) : List D → FS
  | [], s, S => if okC c S then .nx s S else .bad
  | d :: ds, s, S => if okC c S then (match gF g d s with
    | none => .bad
    | some s1 => match b s1 S with
      | .nx s2 S2 => forL c g b ds s2 S2
      | .ct s2 S2 => forL c g b ds s2 S2
      | .bk s2 S2 => .nx s2 S2
      | r => r) else .bad
def sFor (it : FI) (g : Tg) (b : FS) : FS := fun s S => ofE (it s S) s fun I S1 => forL I.chk g b I.items s S1

/-! ### defs -/
def startE (n : Nat) (ds : List D) : Env := ds.map some ++ List.replicate (n - ds.length) none
/-- a def of k parameters and n names -/
def mkF (k n : Nat) (b : FS) : Fn := fun ds S => if ds.length = k then (match b (startE n ds) S with
  | .nx _ S' => .ok .non S'
  | .rt d S' => .ok d S'
  | .ex c w _ S' => .ex c w S'
  | _ => .bad) else .bad

/-! ### operations -/
def oAdd : Op := fun x y S => match x, y with
  | .int i, .int j => .ok (.int (i + j)) S
  | .str a, .str b => if a.length + b.length ≤ LIM then .ok (.str (a ++ b)) S else .bad
  | .tup a, .tup b => if a.length + b.length ≤ LIM then .ok (.tup (a ++ b)) S else .bad
  | .ref l, .ref m => match S[l]?, S[m]? with
    | some (.lst a), some (.lst b) => if a.length + b.length ≤ LIM then .ok (.ref S.length) (S ++ [.lst (a ++ b)]) else .bad
    | _, _ => .bad
  | _, _ => .bad
def oSub : Op := fun x y S => match x, y with
  | .int i, .int j => .ok (.int (i - j)) S
  | _, _ => .bad
/-- factors below 2 ^ 400000 -/
def bigOk (i : Int) : Bool := decide (i.natAbs.log2 < 400000)
def oMul : Op := fun x y S => match x, y with
  | .int i, .int j => if bigOk i && bigOk j then .ok (.int (i * j)) S else .bad
  | .ref l, .int k => match S[l]? with
    | some (.lst a) => if 0 ≤ k ∧ k ≤ 1000000 ∧ a.length * k.toNat ≤ LIM then .ok (.ref S.length) (S ++ [.lst (List.replicate k.toNat a).flatten]) else .bad
    | _ => .bad
  | _, _ => .bad
def oFdiv : Op := fun x y S => match x, y with
  | .int i, .int j => if 0 < j ∧ j.natAbs.log2 < 9000 then .ok (.int (i / j)) S else .bad
  | _, _ => .bad
def oMod : Op := fun x y S => match x, y with
  | .int i, .int j => if 0 < j then .ok (.int (i % j)) S else .bad
  | _, _ => .bad
def oPow : Op := fun x y S => match x, y with
  | .int i, .int j => if 0 ≤ j ∧ j ≤ 1000000 ∧ i.natAbs < 2 ^ 64 then .ok (.int (i ^ j.toNat)) S else .bad
  | _, _ => .bad
def oCmp (p : Int → Int → Bool) : Op := fun x y S => match x, y with
  | .int i, .int j => .ok (.bl (p i j)) S
  | _, _ => .bad
def oLt : Op := oCmp fun i j => decide (i < j)
def oLe : Op := oCmp fun i j => decide (i ≤ j)
def oGt : Op := oCmp fun i j => decide (j < i)
def oGe : Op := oCmp fun i j => decide (j ≤ i)
def uNeg : D → Store → Res D := fun x S => match x with
  | .int i => .ok (.int (-i)) S
  | _ => .bad
def isNon : D → Bool
  | .non => true
  | _ => false
def oIsN : Op := fun x y S => match y with
  | .non => .ok (.bl (isNon x)) S
  | _ => .bad
def oNotN : Op := fun x y S => match y with
  | .non => .ok (.bl (!isNon x)) S
  | _ => .bad
def oIsB : Op := fun x y S => match x, y with
  | .bl a, .bl b => .ok (.bl (decide (a = b))) S
  | _, _ => .bad
/-- data as == sees it -/
inductive P where
  | non | bl (b : Bool) | int (i : Int) | str (x : Str) | lst (xs : List P) | tup (xs : List P)
mutual
def P.eqv : P → P → Bool
  | .non, .non => true
  | .bl a, .bl b => a == b
  | .bl a, .int j => (if a then 1 else 0) == j
  | .int i, .bl b => i == (if b then 1 else 0)
  | .int i, .int j => i == j
  | .str x, .str y => x == y
  | .lst xs, .lst ys => P.eqvs xs ys
  | .tup xs, .tup ys => P.eqvs xs ys
  | _, _ => false
def P.eqvs : List P → List P → Bool
  | [], [] => true
  | x :: xs, y :: ys => P.eqv x y && P.eqvs xs ys
  | _, _ => false
end
/-- the data of a value, lists by the store, to a depth -/
def toP (S : Store) : Nat → D → Option P
  | _, .non => some .non
  | _, .bl b => some (.bl b)
  | _, .int i => some (.int i)
  | _, .str x => if x.cps.all (· < 0x110000) then some (.str x) else none
  | 0, _ => none
  | n + 1, .tup ds => match ds.mapM (toP S n) with
    | some ps => some (.tup ps)
    | none => none
  | n + 1, .frz ds => match ds.mapM (toP S n) with
    | some ps => some (.lst ps)
    | none => none
  | n + 1, .ref l => match S[l]? with
    | some (.lst ds) => match ds.mapM (toP S n) with
      | some ps => some (.lst ps)
      | none => none
    | _ => none
def oEqG : Op := fun x y S => match toP S 60 x, toP S 60 y with
  | some p, some q => .ok (.bl (P.eqv p q)) S
  | _, _ => .bad
def oEq : Op := fun x y S => match x, y with
  | .int i, .int j => .ok (.bl (i == j)) S
  | .str a, .str b => .ok (.bl (a == b)) S
  | .bl a, .bl b => .ok (.bl (a == b)) S
  | .non, .non => .ok (.bl true) S
  | .int _, .str _ => .ok (.bl false) S
  | .str _, .int _ => .ok (.bl false) S
  | .non, .int _ => .ok (.bl false) S
  | .int _, .non => .ok (.bl false) S
  | .non, .str _ => .ok (.bl false) S
  | .str _, .non => .ok (.bl false) S
  | .non, .bl _ => .ok (.bl false) S
  | .bl _, .non => .ok (.bl false) S
  | .bl _, .str _ => .ok (.bl false) S
  | .str _, .bl _ => .ok (.bl false) S
  | x, y => oEqG x y S
def notR (r : Res D) : Res D := r.bind fun x S => match x with
  | .bl b => .ok (.bl (!b)) S
  | _ => .bad
def oNe : Op := fun x y S => notR (oEq x y S)
/-- flat values and their == -/
def flatD : D → Bool
  | .non => true
  | .bl _ => true
  | .int _ => true
  | .str _ => true
  | _ => false
def eqF : D → D → Bool
  | .non, .non => true
  | .bl a, .bl b => a == b
  | .bl a, .int b => (if a then 1 else 0) == b
  | .int a, .bl b => a == (if b then 1 else 0)
  | .int a, .int b => a == b
  | .str a, .str b => a == b
  | _, _ => false
def inF (x : D) (xs : List D) : Bool := xs.any fun y => eqF y x
/-- what a dict has for a key -/
def getD (S : Store) (l : Nat) (x : D) : Option (Option D) := match S[l]? with
  | some (.dk kvs) => match keyD x with
    | some k => some (valD kvs k)
    | none => none
  | _ => none
def oInL (xs : List D) (x : D) (S : Store) : Res D := if flatD x && xs.all flatD then .ok (.bl (inF x xs)) S else .bad
/-- x in a list or a tuple of flat things -/
def oInS : Op := fun x y S => match y with
  | .tup xs => oInL xs x S
  | .ref l => match S[l]? with
    | some (.lst xs) => oInL xs x S
    | _ => .bad
  | _ => .bad
/-- x in a dict -/
def oInD : Op := fun x y S => match y with
  | .ref l => match getD S l x with
    | some o => .ok (.bl o.isSome) S
    | none => .bad
  | _ => .bad
def oNinS : Op := fun x y S => notR (oInS x y S)
def oNinD : Op := fun x y S => notR (oInD x y S)
def ixN (n : Nat) (i : Int) : Option Nat := if 0 ≤ i then (if i < n then some i.toNat else none) else if -(n : Int) ≤ i then some (i + n).toNat else none
def atI {α : Type} (xs : List α) (i : Int) : Option α := (ixN xs.length i).bind fun j => xs[j]?
/-- xs[i] of a tuple or a list -/
def oIx : Op := fun x y S => match y with
  | .int i => match x with
    | .tup ds => match atI ds i with
      | some d => .ok d S
      | none => .bad
    | .frz ds => match atI ds i with
      | some d => .ok d S
      | none => .bad
    | .ref l => match S[l]? with
      | some (.lst ds) => match atI ds i with
        | some d => .ok d S
        | none => .bad
      | _ => .bad
    | _ => .bad
  | _ => .bad
/-- d[k] of a dict -/
def oIxD : Op := fun x y S => match x with
  | .ref l => match getD S l y with
    | some (some d) => .ok d S
    | _ => .bad
  | _ => .bad
def uSetL : Up := fun o i v S => match o, i with
  | .ref l, .int k => match S[l]? with
    | some (.lst ds) => match ixN ds.length k with
      | some j => some (S.set l (.lst (ds.set j v)))
      | none => none
    | _ => none
  | _, _ => none
def uSetD : Up := fun o i v S => match o with
  | .ref l => match S[l]? with
    | some (.dk kvs) => match keyD i with
      | some k => if kvs.length < LIM then some (S.set l (.dk (putD kvs k v))) else none
      | none => none
    | _ => none
  | _ => none

/-! ### built-ins -/
/-- the type's name of a value -/
def tyD (S : Store) : D → Option String
  | .non => some "NoneType"
  | .bl _ => some "bool"
  | .int _ => some "int"
  | .str _ => some "str"
  | .tup _ => some "tuple"
  | .frz _ => some "list"
  | .ref l => match S[l]? with
    | some (.lst _) => some "list"
    | some (.dk _) => some "dict"
    | some (.dt _) => some "dict"
    | none => none
/-- a type's name and what isinstance says of int, bool, tuple, list, str, dict -/
def isTy (t n : String) : Bool := t == n || (t == "bool" && n == "int")
def fIsInst (n : String) : D → Store → Res D := fun x S => match tyD S x with
  | some t => .ok (.bl (isTy t n)) S
  | none => .bad
def seqD (S : Store) : D → Option (List D)
  | .tup ds => some ds
  | .frz ds => some ds
  | .ref l => match S[l]? with
    | some (.lst ds) => some ds
    | _ => none
  | _ => none
def fLen : D → Store → Res D := fun x S => match x with
  | .str a => if a.length ≤ LIM then .ok (.int a.length) S else .bad
  | .ref l => match S[l]? with
    | some (.dk kvs) => .ok (.int kvs.length) S
    | _ => match seqD S x with
      | some ds => .ok (.int ds.length) S
      | none => .bad
  | _ => match seqD S x with
    | some ds => .ok (.int ds.length) S
    | none => .bad
def fList : D → Store → Res D := fun x S => match seqD S x with
  | some ds => .ok (.ref S.length) (S ++ [.lst ds])
  | none => .bad
def fTuple : D → Store → Res D := fun x S => match seqD S x with
  | some ds => .ok (.tup ds) S
  | none => .bad
def rngD (a b : Int) : List D := (List.range (b - a).toNat).map fun i => .int (a + (i : Nat))
def rgOk (a b : Int) : Bool := decide (-(2 ^ 62) ≤ a ∧ a < 2 ^ 62 ∧ -(2 ^ 62) ≤ b ∧ b < 2 ^ 62 ∧ (b - a).toNat ≤ LIM)
def oListRg : Op := fun x y S => match x, y with
  | .int a, .int b => if rgOk a b then .ok (.ref S.length) (S ++ [.lst (rngD a b)]) else .bad
  | _, _ => .bad
def oMax : Op := fun x y S => match x, y with
  | .int i, .int j => .ok (.int (if j > i then j else i)) S
  | _, _ => .bad
def oMin : Op := fun x y S => match x, y with
  | .int i, .int j => .ok (.int (if j < i then j else i)) S
  | _, _ => .bad
def intsD : List D → Option (List Int)
  | [] => some []
  | .int i :: ds => match intsD ds with
    | some is => some (i :: is)
    | none => none
  | _ => none
def insI (a : Int) : List Int → List Int
  | [] => [a]
  | b :: bs => if a ≤ b then a :: b :: bs else b :: insI a bs
def sortI : List Int → List Int
  | [] => []
  | a :: as => insI a (sortI as)
def fSorted : D → Store → Res D := fun x S => match x with
  | .ref l => match S[l]? with
    | some (.lst ds) => match intsD ds with
      | some is => .ok (.ref S.length) (S ++ [.lst ((sortI is).map D.int)])
      | none => .bad
    | some (.dk kvs) => match intsD (kvs.map fun kv => kD kv.1) with
      | some is => if is.length ≤ LIM then .ok (.ref S.length) (S ++ [.lst ((sortI is).map D.int)]) else .bad
      | none => .bad
    | _ => .bad
  | _ => .bad
def minI : List Int → Option Int
  | [] => none
  | [a] => some a
  | a :: as => match minI as with
    | some m => some (if m < a then m else a)
    | none => some a
def fMin : D → Store → Res D := fun x S => match x with
  | .ref l => match S[l]? with
    | some (.lst ds) => match intsD ds with
      | some is => match minI is with
        | some m => .ok (.int m) S
        | none => .bad
      | none => .bad
    | _ => .bad
  | _ => .bad
/-- dict(a list of pairs) -/
def pairsD : List D → Option (List (Kk × D))
  | [] => some []
  | .tup [k, v] :: ds => match keyD k, pairsD ds with
    | some k', some r => some ((k', v) :: r)
    | _, _ => none
  | _ => none
def fDict : D → Store → Res D := fun x S => match x with
  | .ref l => match S[l]? with
    | some (.lst ds) => match pairsD ds with
      | some r => .ok (.ref S.length) (S ++ [.dk (mergeD [] r)])
      | none => .bad
    | _ => .bad
  | _ => .bad
def fBool : D → Store → Res D := fun x S => match x with
  | .int i => .ok (.bl (i != 0)) S
  | .bl b => .ok (.bl b) S
  | _ => .bad
def fRev : D → Store → Res D := fun x S => match x with
  | .ref l => match S[l]? with
    | some (.lst ds) => .ok (.ref S.length) (S ++ [.lst ds.reverse])
    | _ => .bad
  | .tup ds => .ok (.tup ds.reverse) S
  | _ => .bad

def fListRg : D → Store → Res D := fun x S => match x with
  | .int b => if -(2 ^ 62) ≤ b ∧ b ≤ 16777216 then .ok (.ref S.length) (S ++ [.lst (rngD 0 b)]) else .bad
  | _ => .bad
/-- a list is there -/
def isLst (x : D) (S : Store) : Bool := match x with
  | .frz _ => true
  | .ref l => match S[l]? with
    | some (.lst _) => true
    | _ => false
  | _ => false
def isDk (x : D) (S : Store) : Bool := match x with
  | .ref l => match S[l]? with
    | some (.dk _) => true
    | _ => false
  | _ => false
/-- xs.m(e) of a list -/
def eBM (o : Op) (a b : FE) : FE := fun s S => (a s S).bind fun x S1 => if isLst x S1 then (b s S1).bind fun y S2 => o x y S2 else .bad

/-! ### methods of lists and dicts -/
def oAppend : Op := fun x y S => match x with
  | .ref l => match S[l]? with
    | some (.lst ds) => if ds.length < LIM then .ok .non (S.set l (.lst (ds ++ [y]))) else .bad
    | _ => .bad
  | _ => .bad
def oExtend : Op := fun x y S => match x, y with
  | .ref l, .ref m => match S[l]?, S[m]? with
    | some (.lst ds), some (.lst es) => if ds.length + es.length ≤ LIM then .ok .non (S.set l (.lst (ds ++ es))) else .bad
    | _, _ => .bad
  | _, _ => .bad
def uPop : D → Store → Res D := fun x S => match x with
  | .ref l => match S[l]? with
    | some (.lst ds) => match ds[ds.length - 1]? with
      | some d => .ok d (S.set l (.lst ds.dropLast))
      | none => .bad
    | _ => .bad
  | _ => .bad
def oPopAt : Op := fun x y S => match x, y with
  | .ref l, .int i => match S[l]? with
    | some (.lst ds) => match ixN ds.length i with
      | some j => match ds[j]? with
        | some d => .ok d (S.set l (.lst (ds.eraseIdx j)))
        | none => .bad
      | none => .bad
    | _ => .bad
  | _, _ => .bad
/-- d.get(k, x) -/
def eGet2 (d k x : FE) : FE := fun s S => (d s S).bind fun l S1 => if isDk l S1 then (k s S1).bind fun y S2 => (x s S2).bind fun z S3 => match l with
  | .ref n => match getD S3 n y with
    | some o => .ok (o.getD z) S3
    | none => .bad
  | _ => .bad else .bad

/-! ### what is walked -/
def iSeq (e : FE) : FI := fun s S => (e s S).bind fun x S1 => match x with
  | .tup ds => .ok ⟨ds, []⟩ S1
  | .frz ds => .ok ⟨ds, []⟩ S1
  | .ref l => match S1[l]? with
    | some (.lst ds) => .ok ⟨ds, [(l, .lst ds)]⟩ S1
    | _ => .bad
  | _ => .bad
def iRng (e : FE) : FI := fun s S => (e s S).bind fun x S1 => match x with
  | .int j => if -(2 ^ 62) ≤ j ∧ j ≤ 16777216 then .ok ⟨rngD 0 j, []⟩ S1 else .bad
  | _ => .bad
def iRng2 (e f : FE) : FI := fun s S => (e s S).bind fun x S1 => (f s S1).bind fun y S2 => match x, y with
  | .int i, .int j => if -1000000 ≤ i ∧ i < 2 ^ 62 ∧ -(2 ^ 62) ≤ j ∧ j ≤ 1000000 then .ok ⟨rngD i j, []⟩ S2 else .bad
  | _, _ => .bad
def enumD (ds : List D) : List D := ds.mapIdx fun i d => .tup [.int i, d]
def iEnum (e : FE) : FI := fun s S => (e s S).bind fun x S1 => match x with
  | .tup ds => .ok ⟨enumD ds, []⟩ S1
  | .ref l => match S1[l]? with
    | some (.lst ds) => .ok ⟨enumD ds, [(l, .lst ds)]⟩ S1
    | _ => .bad
  | _ => .bad

/-! ### a thing heard: try: return ("told", deed()) except X as r: return ("X", r.what) .. -/
def heardR (cs : List String) (r : Res D) : Res D := match r with
  | .ok d S => .ok (.tup [.str "told", d]) S
  | .ex c w S => if cs.contains c then .ok (.tup [.str (Str.ofString c), w]) S else .bad
  | .bad => .bad
def eHeard (cs : List String) (f : FE) : FE := fun s S => heardR cs (f s S)
def eBad : FE := fun _ _ => .bad
def tBad : FT := fun _ _ => .bad
def sBad : FS := fun _ _ => .bad
def fRevL : D → Store → Res D := fun x S => match x with
  | .ref l => match S[l]? with
    | some (.lst ds) => .ok (.ref S.length) (S ++ [.lst ds.reverse])
    | _ => .bad
  | _ => .bad
/-! ### slices -/
/-- a slice's part, of a sequence of n: d where it is left out -/
def slIx (n d : Nat) : Option Int → Nat
  | none => d
  | some v => if 0 ≤ v then min v.toNat n else (v + n).toNat
def cutD (xs : List D) (lo hi : Option Int) : List D := (xs.drop (slIx xs.length 0 lo)).take (slIx xs.length xs.length hi - slIx xs.length 0 lo)
abbrev FO := Env → Store → Res (Option Int)
def oNone : FO := fun _ S => .ok none S
def oSome (f : FE) : FO := fun s S => (f s S).bind fun x S1 => match x with
  | .int i => .ok (some i) S1
  | _ => .bad
def slD (x : D) (lo hi : Option Int) (S : Store) : Res D := match x with
  | .tup ds => .ok (.tup (cutD ds lo hi)) S
  | .ref l => match S[l]? with
    | some (.lst ds) => .ok (.ref S.length) (S ++ [.lst (cutD ds lo hi)])
    | _ => .bad
  | _ => .bad
def eSlice (a : FE) (lo hi : FO) : FE := fun s S => (a s S).bind fun x S1 => (lo s S1).bind fun l S2 => (hi s S2).bind fun u S3 => slD x l u S3
/-- xs[::-1] of a list or a tuple -/
def fRevA : D → Store → Res D := fun x S => match x with
  | .tup ds => .ok (.tup ds.reverse) S
  | _ => fRevL x S
def oNotB : Op := fun x y S => match x, y with
  | .bl a, .bl b => .ok (.bl (!decide (a = b))) S
  | _, _ => .bad
/-- str(i) -/
def fStrI : D → Store → Res D := fun x S => match x with
  | .int i => if i.natAbs.log2 < 1920 then .ok (.str (Str.ofString (toString i))) S else .bad
  | .str a => .ok (.str a) S
  | _ => .bad
end Wk


set_option Elab.async false
set_option linter.all false
set_option maxRecDepth 100000
set_option maxHeartbeats 4000000
set_option autoImplicit false
/-! WkRel: how the functional reading stands to the machine's abstract heap, and what it is for a piece of syntax to have a functional reading. -/
namespace Wk
open PySem PySem.Spec PyProof.Rows L2

theorem lim_eq : LIM = sizeLine := by rw [sizeLine_eq]; rfl

/-! ### lists in pairs -/
section
variable {α β : Type} {R : α → β → Prop}
theorem Paired.get1 : ∀ {xs : List α} {ys : List β} {i : Nat} {x : α}, Paired R xs ys → xs[i]? = some x → ∃ y, ys[i]? = some y ∧ R x y
  | _, _, _, _, .nil, e => by simp at e
  | _, _, 0, _, .cons r _, e => by simp at e; subst e; exact ⟨_, rfl, r⟩
  | _, _, i + 1, x, .cons _ t, e => by
    obtain ⟨u, h1, h2⟩ := Paired.get1 (i := i) (x := x) t (by simpa using e)
    exact ⟨u, by simpa using h1, h2⟩
theorem Paired.get2 : ∀ {xs : List α} {ys : List β} {i : Nat} {y : β}, Paired R xs ys → ys[i]? = some y → ∃ x, xs[i]? = some x ∧ R x y
  | _, _, _, _, .nil, e => by simp at e
  | _, _, 0, _, .cons r _, e => by simp at e; subst e; exact ⟨_, rfl, r⟩
  | _, _, i + 1, x, .cons _ t, e => by
    obtain ⟨u, h1, h2⟩ := Paired.get2 (i := i) (y := x) t (by simpa using e)
    exact ⟨u, by simpa using h1, h2⟩
theorem Paired.set1 {x : α} {y : β} (r : R x y) : ∀ {xs : List α} {ys : List β} (i : Nat), Paired R xs ys → Paired R (xs.set i x) (ys.set i y)
  | _, _, _, .nil => .nil
  | _, _, 0, .cons _ t => .cons r t
  | _, _, i + 1, .cons q t => .cons q (Paired.set1 r i t)
theorem Paired.app : ∀ {xs xs' : List α} {ys ys' : List β}, Paired R xs ys → Paired R xs' ys' → Paired R (xs ++ xs') (ys ++ ys')
  | _, _, _, _, .nil, s => s
  | _, _, _, _, .cons r t, s => .cons r (Paired.app t s)
theorem Paired.erase1 : ∀ {xs : List α} {ys : List β} (i : Nat), Paired R xs ys → Paired R (xs.eraseIdx i) (ys.eraseIdx i)
  | _, _, _, .nil => .nil
  | _, _, 0, .cons _ t => t
  | _, _, i + 1, .cons q t => .cons q (Paired.erase1 i t)
theorem Paired.dropL : ∀ {xs : List α} {ys : List β}, Paired R xs ys → Paired R xs.dropLast ys.dropLast
  | _, _, .nil => .nil
  | _, _, .cons _ .nil => .nil
  | _, _, .cons q (.cons r t) => .cons q (Paired.dropL (.cons r t))
theorem Paired.rev {xs : List α} {ys : List β} (h : Paired R xs ys) : Paired R xs.reverse ys.reverse := by
  induction h with
  | nil => exact .nil
  | cons r t ih => rw [List.reverse_cons, List.reverse_cons]; exact Paired.app ih (.cons r .nil)
theorem Paired.takeN : ∀ {xs : List α} {ys : List β} (i : Nat), Paired R xs ys → Paired R (xs.take i) (ys.take i)
  | _, _, 0, _ => .nil
  | _, _, _ + 1, .nil => .nil
  | _, _, i + 1, .cons q t => .cons q (Paired.takeN i t)
theorem Paired.dropN : ∀ {xs : List α} {ys : List β} (i : Nat), Paired R xs ys → Paired R (xs.drop i) (ys.drop i)
  | _, _, 0, r => r
  | _, _, _ + 1, .nil => .nil
  | _, _, i + 1, .cons _ t => Paired.dropN i t
theorem Paired.flat {xs : List α} {ys : List β} (h : Paired R xs ys) : ∀ k : Nat, Paired R (List.replicate k xs).flatten (List.replicate k ys).flatten
  | 0 => .nil
  | k + 1 => by
    rw [List.replicate_succ, List.replicate_succ, List.flatten_cons, List.flatten_cons]
    exact Paired.app h (Paired.flat h k)
theorem Paired.ofGet : ∀ {xs : List α} {ys : List β}, xs.length = ys.length → (∀ (i : Nat) (x : α) (y : β), xs[i]? = some x → ys[i]? = some y → R x y) → Paired R xs ys
  | [], [], _, _ => .nil
  | [], _ :: _, e, _ => by simp at e
  | _ :: _, [], e, _ => by simp at e
  | x :: xs, y :: ys, e, h => .cons (h 0 x y rfl rfl) (Paired.ofGet (by simpa using e) fun i a b p q => h (i + 1) a b (by simpa using p) (by simpa using q))
end

/-! ### values -/
def KTup (K : PySem.W.Frag) (a : Addr) (vs : List V) : Prop := ∃ (o : Obj) (its : Array Value) (n : Nat), K.lookup a = some o ∧ o.cls = .type "tuple" ∧ o.data = .seq its n ∧ its.size ≤ sizeLine ∧ Vals vs its.toList
def KLst (K : PySem.W.Frag) (a : Addr) (vs : List V) : Prop := ∃ (o : Obj) (its : Array Value) (n : Nat), K.lookup a = some o ∧ o.cls = .type "list" ∧ o.dict = none ∧ o.data = .seq its n ∧ its.size ≤ sizeLine ∧ Vals vs its.toList
def TupAt (K : PySem.W.Frag) (H : Hp) (a : Addr) (vs : List V) : Prop := vs.length ≤ sizeLine ∧ (H a = some (.tup vs) ∨ KTup K a vs)
def FrzAt (K : PySem.W.Frag) (H : Hp) (a : Addr) (vs : List V) : Prop := vs.length ≤ sizeLine ∧ ((∃ o, H a = some (.frz o (.lst vs))) ∨ KLst K a vs)
theorem TupAt.sq {K : PySem.W.Frag} {H : Hp} {a : Addr} {vs : List V} (h : TupAt K H a vs) : SqT K H a vs := h.2.elim (fun z => .inl (.inl z)) .inr
theorem FrzAt.sq {K : PySem.W.Frag} {H : Hp} {a : Addr} {vs : List V} (h : FrzAt K H a vs) : SqL K H a vs := h.2.elim (fun z => .inl (.inr z)) .inr

mutual
def RD (K : PySem.W.Frag) (ρ : List Addr) (H : Hp) : D → V → Prop
  | .non, v => v = .non
  | .bl b, v => v = .bl b
  | .int i, v => v = .int i
  | .str x, v => v = .str x
  | .tup ds, v => ∃ a vs, v = .ref a ∧ TupAt K H a vs ∧ RDs K ρ H ds vs
  | .frz ds, v => ∃ a vs, v = .ref a ∧ FrzAt K H a vs ∧ RDs K ρ H ds vs
  | .ref n, v => ∃ a, v = .ref a ∧ ρ[n]? = some a
def RDs (K : PySem.W.Frag) (ρ : List Addr) (H : Hp) : List D → List V → Prop
  | [], vs => vs = []
  | d :: ds, vs => ∃ v r, vs = v :: r ∧ RD K ρ H d v ∧ RDs K ρ H ds r
end
section
variable {K : PySem.W.Frag} {ρ : List Addr} {H : Hp}
theorem RDs.pair : ∀ {ds : List D} {vs : List V}, RDs K ρ H ds vs → Paired (RD K ρ H) ds vs
  | [], vs, h => by unfold RDs at h; subst h; exact .nil
  | d :: ds, vs, h => by
    unfold RDs at h
    obtain ⟨v, r, rfl, h1, h2⟩ := h
    exact .cons h1 (RDs.pair h2)
theorem RDs.of : ∀ {ds : List D} {vs : List V}, Paired (RD K ρ H) ds vs → RDs K ρ H ds vs
  | _, _, .nil => by unfold RDs; rfl
  | _, _, .cons r t => by unfold RDs; exact ⟨_, _, rfl, r, RDs.of t⟩
theorem RDs.len {ds : List D} {vs : List V} (h : RDs K ρ H ds vs) : ds.length = vs.length := h.pair.length
theorem rd_non : RD K ρ H .non .non := by unfold RD; rfl
theorem rd_bl {b : Bool} : RD K ρ H (.bl b) (.bl b) := by unfold RD; rfl
theorem rd_int {i : Int} : RD K ρ H (.int i) (.int i) := by unfold RD; rfl
theorem rd_str {x : Str} : RD K ρ H (.str x) (.str x) := by unfold RD; rfl
theorem rd_ref {n : Nat} {a : Addr} (h : ρ[n]? = some a) : RD K ρ H (.ref n) (.ref a) := by unfold RD; exact ⟨a, rfl, h⟩
theorem rd_tup {ds : List D} {vs : List V} {a : Addr} (h : TupAt K H a vs) (r : RDs K ρ H ds vs) : RD K ρ H (.tup ds) (.ref a) := by unfold RD; exact ⟨a, vs, rfl, h, r⟩
theorem RD.non {v : V} (h : RD K ρ H .non v) : v = .non := by unfold RD at h; exact h
theorem RD.bl {b : Bool} {v : V} (h : RD K ρ H (.bl b) v) : v = .bl b := by unfold RD at h; exact h
theorem RD.int {i : Int} {v : V} (h : RD K ρ H (.int i) v) : v = .int i := by unfold RD at h; exact h
theorem RD.str {x : Str} {v : V} (h : RD K ρ H (.str x) v) : v = .str x := by unfold RD at h; exact h
theorem RD.ref {n : Nat} {v : V} (h : RD K ρ H (.ref n) v) : ∃ a, v = .ref a ∧ ρ[n]? = some a := by unfold RD at h; exact h
theorem RD.tup {ds : List D} {v : V} (h : RD K ρ H (.tup ds) v) : ∃ a vs, v = .ref a ∧ TupAt K H a vs ∧ RDs K ρ H ds vs := by unfold RD at h; exact h
theorem RD.frz {ds : List D} {v : V} (h : RD K ρ H (.frz ds) v) : ∃ a vs, v = .ref a ∧ FrzAt K H a vs ∧ RDs K ρ H ds vs := by unfold RD at h; exact h
end
/-- later worlds -/
structure Le (ρ : List Addr) (H : Hp) (ρ' : List Addr) (H' : Hp) : Prop where
  pre : ∃ e, ρ' = ρ ++ e
  tup : ∀ a vs, H a = some (.tup vs) → H' a = some (.tup vs)
  frz : ∀ a o u, H a = some (.frz o u) → a ∉ ρ → H' a = some (.frz o u)
  keep : ∀ b o, H b = some o → b ∉ ρ → (∀ ps, o ≠ .tbl ps) → H' b = some o
  new : ∀ b o, H b = some o → (∀ ps, o ≠ .tbl ps) → b ∉ ρ → b ∉ ρ'
theorem Le.refl (ρ : List Addr) (H : Hp) : Le ρ H ρ H := ⟨⟨[], by simp⟩, fun _ _ h => h, fun _ _ _ h _ => h, fun _ _ h _ _ => h, fun _ _ _ _ n => n⟩
theorem Le.nin {ρ ρ1 : List Addr} {H H1 : Hp} (a : Le ρ H ρ1 H1) {b : Addr} {o : HO} (h : H b = some o) (n : b ∉ ρ) (t : ∀ ps, o ≠ .tbl ps := by intro ps z; cases z) : b ∉ ρ1 := a.new b o h t n
theorem Le.trans {ρ ρ1 ρ2 : List Addr} {H H1 H2 : Hp} (a : Le ρ H ρ1 H1) (b : Le ρ1 H1 ρ2 H2) : Le ρ H ρ2 H2 where
  pre := by
    obtain ⟨e, rfl⟩ := a.pre
    obtain ⟨f, rfl⟩ := b.pre
    exact ⟨e ++ f, by simp⟩
  tup := fun x vs h => b.tup x vs (a.tup x vs h)
  frz := fun x o u h n => b.frz x o u (a.frz x o u h n) (a.nin h n (fun _ z => nomatch z))
  keep := fun x o h n t => b.keep x o (a.keep x o h n t) (a.nin h n t) t
  new := fun x o h t n => b.new x o (a.keep x o h n t) t (a.new x o h t n)
section
variable {K : PySem.W.Frag} {ρ ρ' : List Addr} {H H' : Hp}
theorem Le.get (l : Le ρ H ρ' H') {n : Nat} {a : Addr} (h : ρ[n]? = some a) : ρ'[n]? = some a := by
  obtain ⟨e, rfl⟩ := l.pre
  have hn := (List.getElem?_eq_some_iff.mp h).1
  rw [List.getElem?_append_left hn]; exact h
theorem TupAt.mono (l : Le ρ H ρ' H') {a : Addr} {vs : List V} (h : TupAt K H a vs) : TupAt K H' a vs := ⟨h.1, h.2.elim (fun z => .inl (l.tup _ _ z)) .inr⟩
end
/-- frozen things are not in the store -/
def NoFz (ρ : List Addr) (H : Hp) : Prop := ∀ a o u, H a = some (.frz o u) → a ∉ ρ
/-- what a value's reading leans on -/
structure Lw (ρ : List Addr) (H : Hp) (ρ' : List Addr) (H' : Hp) : Prop where
  pre : ∃ e, ρ' = ρ ++ e
  tup : ∀ a vs, H a = some (.tup vs) → H' a = some (.tup vs)
  frz : ∀ a o u, H a = some (.frz o u) → H' a = some (.frz o u)
theorem Le.lw {ρ ρ' : List Addr} {H H' : Hp} (l : Le ρ H ρ' H') (nf : NoFz ρ H) : Lw ρ H ρ' H' := ⟨l.pre, l.tup, fun a o u h => l.frz a o u h (nf a o u h)⟩
theorem Lw.get {ρ ρ' : List Addr} {H H' : Hp} (l : Lw ρ H ρ' H') {n : Nat} {a : Addr} (h : ρ[n]? = some a) : ρ'[n]? = some a := by
  obtain ⟨e, rfl⟩ := l.pre
  have hn := (List.getElem?_eq_some_iff.mp h).1
  rw [List.getElem?_append_left hn]; exact h
theorem TupAt.lw {K : PySem.W.Frag} {ρ ρ' : List Addr} {H H' : Hp} (l : Lw ρ H ρ' H') {a : Addr} {vs : List V} (h : TupAt K H a vs) : TupAt K H' a vs := ⟨h.1, h.2.elim (fun z => .inl (l.tup _ _ z)) .inr⟩
theorem FrzAt.lw {K : PySem.W.Frag} {ρ ρ' : List Addr} {H H' : Hp} (l : Lw ρ H ρ' H') {a : Addr} {vs : List V} (h : FrzAt K H a vs) : FrzAt K H' a vs :=
  ⟨h.1, h.2.elim (fun ⟨o, z⟩ => .inl ⟨o, l.frz _ _ _ z⟩) .inr⟩
theorem FrzAt.mono {K : PySem.W.Frag} {ρ ρ' : List Addr} {H H' : Hp} (l : Le ρ H ρ' H') (nf : NoFz ρ H) {a : Addr} {vs : List V} (h : FrzAt K H a vs) : FrzAt K H' a vs := h.lw (l.lw nf)
mutual
theorem RD.lw {K : PySem.W.Frag} {ρ ρ' : List Addr} {H H' : Hp} (l : Lw ρ H ρ' H') : ∀ (d : D) (v : V), RD K ρ H d v → RD K ρ' H' d v
  | .non, v, h => by unfold RD at h ⊢; exact h
  | .bl b, v, h => by unfold RD at h ⊢; exact h
  | .int i, v, h => by unfold RD at h ⊢; exact h
  | .str x, v, h => by unfold RD at h ⊢; exact h
  | .tup ds, v, h => by
    unfold RD at h ⊢
    obtain ⟨a, vs, e, t, r⟩ := h
    exact ⟨a, vs, e, t.lw l, RDs.lw l ds vs r⟩
  | .frz ds, v, h => by
    unfold RD at h ⊢
    obtain ⟨a, vs, e, t, r⟩ := h
    exact ⟨a, vs, e, t.lw l, RDs.lw l ds vs r⟩
  | .ref n, v, h => by
    unfold RD at h ⊢
    obtain ⟨a, e, q⟩ := h
    exact ⟨a, e, l.get q⟩
theorem RDs.lw {K : PySem.W.Frag} {ρ ρ' : List Addr} {H H' : Hp} (l : Lw ρ H ρ' H') : ∀ (ds : List D) (vs : List V), RDs K ρ H ds vs → RDs K ρ' H' ds vs
  | [], vs, h => by unfold RDs at h ⊢; exact h
  | d :: ds, vs, h => by
    unfold RDs at h ⊢
    obtain ⟨v, r, e, h1, h2⟩ := h
    exact ⟨v, r, e, RD.lw l d v h1, RDs.lw l ds r h2⟩
end
theorem RD.mono {K : PySem.W.Frag} {ρ ρ' : List Addr} {H H' : Hp} (l : Le ρ H ρ' H') (nf : NoFz ρ H) (d : D) (v : V) (h : RD K ρ H d v) : RD K ρ' H' d v := RD.lw (l.lw nf) d v h
theorem RDs.mono {K : PySem.W.Frag} {ρ ρ' : List Addr} {H H' : Hp} (l : Le ρ H ρ' H') (nf : NoFz ρ H) (d : List D) (v : List V) (h : RDs K ρ H d v) : RDs K ρ' H' d v := RDs.lw (l.lw nf) d v h

/-! ### the store -/
abbrev RKs (K : PySem.W.Frag) (ρ : List Addr) (H : Hp) {κ : Type} (kvs : List (κ × D)) (kws : List (κ × V)) : Prop := Paired (fun p q => p.1 = q.1 ∧ RD K ρ H p.2 q.2) kvs kws
def ROb (K : PySem.W.Frag) (ρ : List Addr) (H : Hp) (a : Addr) : Ob → Prop
  | .lst ds => ∃ vs, H a = some (.lst vs) ∧ RDs K ρ H ds vs ∧ vs.length ≤ sizeLine
  | .dk kvs => ∃ kws, H a = some (.dK kws) ∧ RKs K ρ H kvs kws ∧ kws.length ≤ sizeLine
  | .dt kvs => ∃ kws, H a = some (.dT kws) ∧ RKs K ρ H kvs kws ∧ kws.length ≤ sizeLine
theorem ROb.there {K : PySem.W.Frag} {ρ : List Addr} {H : Hp} {a : Addr} {o : Ob} (h : ROb K ρ H a o) : ∃ u, H a = some u ∧ (∀ xs, u ≠ .tup xs) ∧ (∀ o' w, u ≠ .frz o' w) ∧ ∀ ps, u ≠ .tbl ps := by
  cases o with
  | lst ds => obtain ⟨vs, h, _⟩ := h; exact ⟨_, h, (fun _ z => nomatch z), (fun _ _ z => nomatch z), (fun _ z => nomatch z)⟩
  | dk ds => obtain ⟨vs, h, _⟩ := h; exact ⟨_, h, (fun _ z => nomatch z), (fun _ _ z => nomatch z), (fun _ z => nomatch z)⟩
  | dt ds => obtain ⟨vs, h, _⟩ := h; exact ⟨_, h, (fun _ z => nomatch z), (fun _ _ z => nomatch z), (fun _ z => nomatch z)⟩
theorem RKs.mono {K : PySem.W.Frag} {ρ ρ' : List Addr} {H H' : Hp} {κ : Type} {kvs : List (κ × D)} {kws : List (κ × V)} (l : Le ρ H ρ' H') (nf : NoFz ρ H) (h : RKs K ρ H kvs kws) : RKs K ρ' H' kvs kws :=
  Paired.mapP h fun _ _ z => ⟨z.1, RD.mono l nf _ _ z.2⟩
/-- an object that stands as it did, in a later world -/
theorem ROb.mono {K : PySem.W.Frag} {ρ ρ' : List Addr} {H H' : Hp} {a : Addr} {o : Ob} (l : Le ρ H ρ' H') (nf : NoFz ρ H) (e : H' a = H a) (h : ROb K ρ H a o) : ROb K ρ' H' a o := by
  cases o with
  | lst ds => obtain ⟨vs, h1, h2, h3⟩ := h; exact ⟨vs, e.trans h1, RDs.mono l nf _ _ h2, h3⟩
  | dk ds => obtain ⟨vs, h1, h2, h3⟩ := h; exact ⟨vs, e.trans h1, RKs.mono l nf h2, h3⟩
  | dt ds => obtain ⟨vs, h1, h2, h3⟩ := h; exact ⟨vs, e.trans h1, RKs.mono l nf h2, h3⟩
abbrev Tbs := List (Addr × Str)
structure RS (K : PySem.W.Frag) (T : Tbs) (ρ : List Addr) (S : Store) (H : Hp) : Prop where
  len : ρ.length = S.length
  nd : ρ.Nodup
  ob : ∀ (i : Nat) (a : Addr) (o : Ob), ρ[i]? = some a → S[i]? = some o → ROb K ρ H a o
  tabs : LamX.Tabs T H
section
variable {K : PySem.W.Frag} {T : Tbs} {ρ ρ' : List Addr} {S S' : Store} {H H' : Hp}
theorem RS.at (r : RS K T ρ S H) {a : Addr} (h : a ∈ ρ) : ∃ (i : Nat) (o : Ob), ρ[i]? = some a ∧ S[i]? = some o ∧ ROb K ρ H a o := by
  obtain ⟨i, hi, e⟩ := List.getElem_of_mem h
  have h1 : ρ[i]? = some a := by rw [List.getElem?_eq_getElem hi, e]
  have h2 : S[i]? = some (S[i]'(by rw [← r.len]; exact hi)) := List.getElem?_eq_getElem _
  exact ⟨i, _, h1, h2, r.ob i a _ h1 h2⟩
theorem RS.nofz (r : RS K T ρ S H) : NoFz ρ H := fun a o u h z => by
  obtain ⟨i, ob, _, _, q⟩ := r.at z
  obtain ⟨w, e, _, n, _⟩ := q.there
  rw [h] at e; cases e
  exact n _ _ rfl
theorem RS.addr (r : RS K T ρ S H) {i : Nat} {o : Ob} (h : S[i]? = some o) : ∃ a, ρ[i]? = some a ∧ ROb K ρ H a o := by
  have hi : i < ρ.length := by rw [r.len]; exact (List.getElem?_eq_some_iff.mp h).1
  exact ⟨ρ[i], List.getElem?_eq_getElem hi, r.ob i _ o (List.getElem?_eq_getElem hi) h⟩
theorem RS.fresh (r : RS K T ρ S H) {p : Addr} (h : H p = none) : p ∉ ρ := fun z => by
  obtain ⟨i, o, _, _, q⟩ := r.at z
  obtain ⟨u, e, _⟩ := q.there
  rw [h] at e; cases e
theorem RD.le {d : D} {v : V} (h : RD K ρ H d v) (r : RS K T ρ S H) (l : Le ρ H ρ' H') : RD K ρ' H' d v := RD.mono l r.nofz d v h
theorem RDs.le {ds : List D} {vs : List V} (h : RDs K ρ H ds vs) (r : RS K T ρ S H) (l : Le ρ H ρ' H') : RDs K ρ' H' ds vs := RDs.mono l r.nofz ds vs h
/-- a new thing that is not of the store -/
theorem Le.fresh (r : RS K T ρ S H) {p : Addr} {o : HO} (h : H p = none) : Le ρ H ρ (upd H p o) where
  pre := ⟨[], by simp⟩
  tup := fun a vs e => by rw [upd_ne (ne_of_none e h)]; exact e
  frz := fun a _ _ e _ => by rw [upd_ne (ne_of_none e h)]; exact e
  keep := fun a _ e _ _ => by rw [upd_ne (ne_of_none e h)]; exact e
  new := fun _ _ _ _ n => n
theorem Tabs.fresh {p : Addr} {o : HO} (t : LamX.Tabs T H) (h : H p = none) : LamX.Tabs T (upd H p o) := t.ext fun b u e => by rw [upd_ne (ne_of_none e h)]; exact e
theorem RS.freshP (r : RS K T ρ S H) {p : Addr} {o : HO} (h : H p = none) : RS K T ρ S (upd H p o) where
  len := r.len
  nd := r.nd
  ob := fun i a ob h1 h2 => by
    have q := r.ob i a ob h1 h2
    obtain ⟨u, e, _⟩ := q.there
    exact q.mono (Le.fresh r h) r.nofz (upd_ne (ne_of_none e h))
  tabs := Tabs.fresh r.tabs h
/-- a new tuple -/
theorem tup_new (r : RS K T ρ S H) {p : Addr} {ds : List D} {vs : List V} (h : H p = none) (hv : RDs K ρ H ds vs) (hz : vs.length ≤ sizeLine) : Le ρ H ρ (upd H p (.tup vs)) ∧ RS K T ρ S (upd H p (.tup vs)) ∧ RD K ρ (upd H p (.tup vs)) (.tup ds) (.ref p) :=
  ⟨Le.fresh r h, r.freshP h, rd_tup ⟨hz, .inl upd_same⟩ (hv.le r (Le.fresh r h))⟩
/-- a new thing of the store -/
theorem Le.laid (r : RS K T ρ S H) {p : Addr} {o : HO} (h : H p = none) : Le ρ H (ρ ++ [p]) (upd H p o) := by
  have l := Le.fresh (o := o) r h
  exact ⟨⟨[p], rfl⟩, l.tup, l.frz, l.keep, fun b o e _ n z => by
    rcases List.mem_append.mp z with z | z
    · exact n z
    · have : b = p := by simpa using z
      subst this; rw [h] at e; cases e⟩
theorem RS.laid (r : RS K T ρ S H) {p : Addr} {o : HO} {ob : Ob} (h : H p = none) (hob : ROb K (ρ ++ [p]) (upd H p o) p ob) : RS K T (ρ ++ [p]) (S ++ [ob]) (upd H p o) where
  len := by simp [r.len]
  nd := by
    rw [List.nodup_append]
    exact ⟨r.nd, by simp, fun a ha b hb e => by
      have : b = p := by simpa using hb
      subst this; subst e; exact r.fresh h ha⟩
  ob := fun i a o' h1 h2 => by
    by_cases hi : i < ρ.length
    · rw [List.getElem?_append_left hi] at h1
      rw [List.getElem?_append_left (by rw [← r.len]; exact hi)] at h2
      have q := r.ob i a o' h1 h2
      obtain ⟨u, e, _⟩ := q.there
      exact q.mono (Le.laid r h) r.nofz (upd_ne (ne_of_none e h))
    · have e1 : i = ρ.length := by
        have := (List.getElem?_eq_some_iff.mp h1).1
        rw [List.length_append, List.length_singleton] at this
        omega
      subst e1
      rw [List.getElem?_append_right (Nat.le_refl _), Nat.sub_self] at h1
      rw [List.getElem?_append_right (by rw [r.len]; exact Nat.le_refl _), r.len, Nat.sub_self] at h2
      simp at h1 h2
      subst h1 h2
      exact hob
  tabs := Tabs.fresh r.tabs h
theorem RS.lastAt (r : RS K T ρ S H) {p : Addr} : (ρ ++ [p])[S.length]? = some p := by rw [← r.len, List.getElem?_append_right (Nat.le_refl _), Nat.sub_self]; rfl
theorem lst_new (r : RS K T ρ S H) {p : Addr} {ds : List D} {vs : List V} (h : H p = none) (hv : RDs K ρ H ds vs) (hz : vs.length ≤ sizeLine) :
    Le ρ H (ρ ++ [p]) (upd H p (.lst vs)) ∧ RS K T (ρ ++ [p]) (S ++ [.lst ds]) (upd H p (.lst vs)) ∧ RD K (ρ ++ [p]) (upd H p (.lst vs)) (.ref S.length) (.ref p) :=
  ⟨Le.laid r h, r.laid h ⟨vs, upd_same, hv.le r (Le.laid r h), hz⟩, rd_ref r.lastAt⟩
theorem dk_new (r : RS K T ρ S H) {p : Addr} {ds : List (Kk × D)} {vs : List (Kk × V)} (h : H p = none) (hv : RKs K ρ H ds vs) (hz : vs.length ≤ sizeLine) :
    Le ρ H (ρ ++ [p]) (upd H p (.dK vs)) ∧ RS K T (ρ ++ [p]) (S ++ [.dk ds]) (upd H p (.dK vs)) ∧ RD K (ρ ++ [p]) (upd H p (.dK vs)) (.ref S.length) (.ref p) :=
  ⟨Le.laid r h, r.laid h ⟨vs, upd_same, RKs.mono (Le.laid r h) r.nofz hv, hz⟩, rd_ref r.lastAt⟩
theorem dt_new (r : RS K T ρ S H) {p : Addr} {ds : List (List Kk × D)} {vs : List (List Kk × V)} (h : H p = none) (hv : RKs K ρ H ds vs) (hz : vs.length ≤ sizeLine) :
    Le ρ H (ρ ++ [p]) (upd H p (.dT vs)) ∧ RS K T (ρ ++ [p]) (S ++ [.dt ds]) (upd H p (.dT vs)) ∧ RD K (ρ ++ [p]) (upd H p (.dT vs)) (.ref S.length) (.ref p) :=
  ⟨Le.laid r h, r.laid h ⟨vs, upd_same, RKs.mono (Le.laid r h) r.nofz hv, hz⟩, rd_ref r.lastAt⟩
/-- a thing of the store is changed -/
theorem Le.write (r : RS K T ρ S H) {i : Nat} {a : Addr} {ob : Ob} {o : HO} (ha : ρ[i]? = some a) (hs : S[i]? = some ob) : Le ρ H ρ (upd H a o) := by
  obtain ⟨u, e, n1, n2, n3⟩ := (r.ob i a ob ha hs).there
  have hm : a ∈ ρ := List.mem_of_getElem? ha
  have ne : ∀ {b : Addr} {w : HO}, H b = some w → (w ≠ u) → b ≠ a := fun {b w} h q z => by
    subst z; rw [e] at h; exact q (Option.some.inj h).symm
  exact ⟨⟨[], by simp⟩, fun b vs h => by rw [upd_ne (ne h (fun z => n1 _ z.symm))]; exact h, fun b _ _ h _ => by rw [upd_ne (ne h (fun z => n2 _ _ z.symm))]; exact h,
    fun b w h nb _ => by rw [upd_ne (fun z => nb (by rw [z]; exact hm))]; exact h, fun _ _ _ _ n => n⟩
theorem RS.write (r : RS K T ρ S H) {i : Nat} {a : Addr} {ob ob' : Ob} {o : HO} (ha : ρ[i]? = some a) (hs : S[i]? = some ob) (hob : ROb K ρ (upd H a o) a ob') : RS K T ρ (S.set i ob') (upd H a o) where
  len := by rw [List.length_set]; exact r.len
  nd := r.nd
  ob := fun j b o' h1 h2 => by
    by_cases hj : j = i
    · subst hj
      rw [ha] at h1; cases h1
      rw [List.getElem?_set_self (by rw [← r.len]; exact (List.getElem?_eq_some_iff.mp ha).1)] at h2
      cases h2
      exact hob
    · rw [List.getElem?_set_ne (Ne.symm hj)] at h2
      have q := r.ob j b o' h1 h2
      have nb : b ≠ a := fun z => by
        subst z
        exact hj ((List.getElem?_inj (List.getElem?_eq_some_iff.mp h1).1 r.nd).mp (h1.trans ha.symm))
      exact q.mono (Le.write r ha hs) r.nofz (upd_ne nb)
  tabs := by
    obtain ⟨u, e, n1, n2, n3⟩ := (r.ob i a ob ha hs).there
    intro p hp
    obtain ⟨ps, h1, h2, h3⟩ := r.tabs p hp
    have nP : p.1 ≠ a := fun z => by rw [z, e] at h1; exact n3 _ (Option.some.inj h1)
    refine ⟨ps, by rw [upd_ne nP]; exact h1, h2, fun pos cv hc => ?_⟩
    obtain ⟨c, e1, e2⟩ := h3 pos cv hc
    refine ⟨c, e1, ?_⟩
    have nc : c ≠ a := fun z => by
      rw [z] at e2
      cases ob with
      | lst ds => obtain ⟨vs, q, _⟩ := r.ob i a _ ha hs; rw [q] at e2; cases e2
      | dk ds => obtain ⟨vs, q, _⟩ := r.ob i a _ ha hs; rw [q] at e2; cases e2
      | dt ds => obtain ⟨vs, q, _⟩ := r.ob i a _ ha hs; rw [q] at e2; cases e2
    rw [upd_ne nc]; exact e2
theorem lst_write (r : RS K T ρ S H) {i : Nat} {a : Addr} {ob : Ob} {ds : List D} {vs : List V} (ha : ρ[i]? = some a) (hs : S[i]? = some ob) (hv : RDs K ρ H ds vs) (hz : vs.length ≤ sizeLine) :
    Le ρ H ρ (upd H a (.lst vs)) ∧ RS K T ρ (S.set i (.lst ds)) (upd H a (.lst vs)) :=
  ⟨Le.write r ha hs, r.write ha hs ⟨vs, upd_same, hv.le r (Le.write r ha hs), hz⟩⟩
theorem dk_write (r : RS K T ρ S H) {i : Nat} {a : Addr} {ob : Ob} {ds : List (Kk × D)} {vs : List (Kk × V)} (ha : ρ[i]? = some a) (hs : S[i]? = some ob) (hv : RKs K ρ H ds vs) (hz : vs.length ≤ sizeLine) :
    Le ρ H ρ (upd H a (.dK vs)) ∧ RS K T ρ (S.set i (.dk ds)) (upd H a (.dK vs)) :=
  ⟨Le.write r ha hs, r.write ha hs ⟨vs, upd_same, RKs.mono (Le.write r ha hs) r.nofz hv, hz⟩⟩
theorem dt_write (r : RS K T ρ S H) {i : Nat} {a : Addr} {ob : Ob} {ds : List (List Kk × D)} {vs : List (List Kk × V)} (ha : ρ[i]? = some a) (hs : S[i]? = some ob) (hv : RKs K ρ H ds vs) (hz : vs.length ≤ sizeLine) :
    Le ρ H ρ (upd H a (.dT vs)) ∧ RS K T ρ (S.set i (.dt ds)) (upd H a (.dT vs)) :=
  ⟨Le.write r ha hs, r.write ha hs ⟨vs, upd_same, RKs.mono (Le.write r ha hs) r.nofz hv, hz⟩⟩
end

theorem RKs.lw {K : PySem.W.Frag} {ρ ρ' : List Addr} {H H' : Hp} {κ : Type} {kvs : List (κ × D)} {kws : List (κ × V)} (l : Lw ρ H ρ' H') (h : RKs K ρ H kvs kws) : RKs K ρ' H' kvs kws :=
  Paired.mapP h fun _ _ z => ⟨z.1, RD.lw l _ _ z.2⟩
theorem ROb.lw {K : PySem.W.Frag} {ρ ρ' : List Addr} {H H' : Hp} {a : Addr} {o : Ob} (l : Lw ρ H ρ' H') (e : H' a = H a) (h : ROb K ρ H a o) : ROb K ρ' H' a o := by
  cases o with
  | lst ds => obtain ⟨vs, h1, h2, h3⟩ := h; exact ⟨vs, e.trans h1, RDs.lw l _ _ h2, h3⟩
  | dk ds => obtain ⟨vs, h1, h2, h3⟩ := h; exact ⟨vs, e.trans h1, RKs.lw l h2, h3⟩
  | dt ds => obtain ⟨vs, h1, h2, h3⟩ := h; exact ⟨vs, e.trans h1, RKs.lw l h2, h3⟩
section
variable {K : PySem.W.Frag} {T : Tbs} {ρ ρ' : List Addr} {S S' : Store} {H H' : Hp}
/-- a thing that stands beside the store comes into it -/
theorem RS.adopt (r : RS K T ρ S H) {p : Addr} {ob : Ob} (n : p ∉ ρ) (hob : ROb K ρ H p ob) : RS K T (ρ ++ [p]) (S ++ [ob]) H where
  len := by simp [r.len]
  nd := by
    rw [List.nodup_append]
    exact ⟨r.nd, by simp, fun a ha b hb e => by
      have : b = p := by simpa using hb
      subst this; subst e; exact n ha⟩
  ob := fun i a o' h1 h2 => by
    have lw : Lw ρ H (ρ ++ [p]) H := ⟨⟨_, rfl⟩, fun _ _ h => h, fun _ _ _ h => h⟩
    by_cases hi : i < ρ.length
    · rw [List.getElem?_append_left hi] at h1
      rw [List.getElem?_append_left (by rw [← r.len]; exact hi)] at h2
      exact (r.ob i a o' h1 h2).lw lw rfl
    · have e1 : i = ρ.length := by
        have := (List.getElem?_eq_some_iff.mp h1).1
        rw [List.length_append, List.length_singleton] at this
        omega
      subst e1
      rw [List.getElem?_append_right (Nat.le_refl _), Nat.sub_self] at h1
      rw [List.getElem?_append_right (by rw [r.len]; exact Nat.le_refl _), r.len, Nat.sub_self] at h2
      simp at h1 h2
      subst h1 h2
      exact hob.lw lw rfl
  tabs := r.tabs
/-- a list (a dict) beside the store is changed -/
theorem RS.side (r : RS K T ρ S H) {p : Addr} {u o : HO} (h : H p = some u) (n : p ∉ ρ) (n1 : ∀ vs, u ≠ .tup vs) (n2 : ∀ o w, u ≠ .frz o w) (n3 : ∀ ps, u ≠ .tbl ps) (n4 : ∀ φ, u ≠ .ext φ) :
    Lw ρ H ρ (upd H p o) ∧ RS K T ρ S (upd H p o) := by
  have ne : ∀ {b : Addr} {w : HO}, H b = some w → w ≠ u → b ≠ p := fun {b w} e q z => by
    subst z; rw [h] at e; exact q (Option.some.inj e).symm
  have lw : Lw ρ H ρ (upd H p o) := ⟨⟨[], by simp⟩, fun a vs e => by rw [upd_ne (ne e fun z => n1 _ z.symm)]; exact e, fun a _ _ e => by rw [upd_ne (ne e fun z => n2 _ _ z.symm)]; exact e⟩
  refine ⟨lw, ⟨r.len, r.nd, fun i a ob h1 h2 => ?_, fun q hq => ?_⟩⟩
  · exact (r.ob i a ob h1 h2).lw lw (upd_ne fun z => n (by rw [← z]; exact List.mem_of_getElem? h1))
  · obtain ⟨ps, h1, h2, h3⟩ := r.tabs q hq
    refine ⟨ps, by rw [upd_ne (ne h1 fun z => n3 _ z.symm)]; exact h1, h2, fun pos cv hc => ?_⟩
    obtain ⟨c, e1, e2⟩ := h3 pos cv hc
    exact ⟨c, e1, by rw [upd_ne (ne e2 fun z => n4 _ z.symm)]; exact e2⟩
/-- .. that was not there at first -/
theorem Le.side {p : Addr} {o : HO} (l : Le ρ H ρ' H') (h : H p = none) : Le ρ H ρ' (upd H' p o) where
  pre := l.pre
  tup := fun a vs e => by rw [upd_ne (ne_of_none e h)]; exact l.tup a vs e
  frz := fun a _ _ e n => by rw [upd_ne (ne_of_none e h)]; exact l.frz a _ _ e n
  keep := fun a _ e n t => by rw [upd_ne (ne_of_none e h)]; exact l.keep a _ e n t
  new := l.new
theorem Le.adopt {p : Addr} (l : Le ρ H ρ' H') (h : H p = none) : Le ρ H (ρ' ++ [p]) H' where
  pre := by obtain ⟨e, rfl⟩ := l.pre; exact ⟨e ++ [p], by simp⟩
  tup := l.tup
  frz := l.frz
  keep := l.keep
  new := fun b o e t n z => by
    rcases List.mem_append.mp z with z | z
    · exact l.new b o e t n z
    · have : b = p := by simpa using z
      subst this; rw [h] at e; cases e
end

/-! ### slots -/
def RO (K : PySem.W.Frag) (ρ : List Addr) (H : Hp) : Option D → Option V → Prop
  | none, _ => True
  | some d, some v => RD K ρ H d v
  | some _, none => False
abbrev RE (K : PySem.W.Frag) (ρ : List Addr) (H : Hp) (s : Env) (σ : L2.St) : Prop := Paired (RO K ρ H) s σ
theorem RO.le {K : PySem.W.Frag} {T : Tbs} {ρ ρ' : List Addr} {S : Store} {H H' : Hp} {x : Option D} {y : Option V} (h : RO K ρ H x y) (r : RS K T ρ S H) (l : Le ρ H ρ' H') : RO K ρ' H' x y := by
  cases x with
  | none => trivial
  | some d =>
    cases y with
    | none => exact h
    | some v => exact RD.le (show RD K ρ H d v from h) r l
theorem RE.le {K : PySem.W.Frag} {T : Tbs} {ρ ρ' : List Addr} {S : Store} {H H' : Hp} {s : Env} {σ : L2.St} (h : RE K ρ H s σ) (r : RS K T ρ S H) (l : Le ρ H ρ' H') : RE K ρ' H' s σ := Paired.mapP h fun _ _ z => RO.le z r l
theorem RE.set {K : PySem.W.Frag} {ρ : List Addr} {H : Hp} {s : Env} {σ : L2.St} {d : D} {v : V} (h : RE K ρ H s σ) (i : Nat) (r : RD K ρ H d v) : RE K ρ H (s.set i (some d)) (σ.set i (some v)) :=
  Paired.set1 (R := RO K ρ H) (x := some d) (y := some v) r i h
theorem RE.setN {K : PySem.W.Frag} {ρ : List Addr} {H : Hp} {s : Env} {σ : L2.St} {y : Option V} (h : RE K ρ H s σ) (i : Nat) : RE K ρ H (s.set i none) (σ.set i y) :=
  Paired.set1 (R := RO K ρ H) (x := none) (y := y) trivial i h
theorem RE.wipe {K : PySem.W.Frag} {ρ : List Addr} {H : Hp} {s : Env} {σ : L2.St} (h : RE K ρ H s σ) : ∀ vs : List Nat, RE K ρ H (wipeE s vs) (L2.wipe σ vs)
  | [] => h
  | v :: vs => RE.setN (RE.wipe h vs) v

/-! ### what a result is to bring -/
section
variable (K : PySem.W.Frag) (mg : Str → Option Value) (T : Tbs)
def Post (E : XK) (ρ : List Addr) (H : Hp) {α β : Type} (R : List Addr → Hp → α → β → Prop) (Q : β → Hp → Prop) : Res α → Prop
  | .ok a S' => ∀ ρ' H' b, Le ρ H ρ' H' → RS K T ρ' S' H' → R ρ' H' a b → Q b H'
  | .ex c w S' => ∀ ρ' H' v dd C, Le ρ H ρ' H' → RS K T ρ' S' H' → RD K ρ' H' w v → H' dd = some (.xd [(("what" : Str), v)]) → mg (Str.ofString c) = some (.ref C) → E (.ref C) (some dd) H'
  | .bad => False
def PostS (W : WX) (D : Ends) (ρ : List Addr) (H : Hp) : Rs → Prop
  | .nx s' S' => ∀ ρ' H' σ', Le ρ H ρ' H' → RS K T ρ' S' H' → RE K ρ' H' s' σ' → D.nx σ' H'
  | .rt d S' => ∀ ρ' H' v, Le ρ H ρ' H' → RS K T ρ' S' H' → RD K ρ' H' d v → D.rt v H'
  | .bk s' S' => ∀ ρ' H' σ', Le ρ H ρ' H' → RS K T ρ' S' H' → RE K ρ' H' s' σ' → D.bk σ' H'
  | .ct s' S' => ∀ ρ' H' σ', Le ρ H ρ' H' → RS K T ρ' S' H' → RE K ρ' H' s' σ' → D.ct σ' H'
  | .ex c w s' S' => ∀ ρ' H' σ' v dd C, Le ρ H ρ' H' → RS K T ρ' S' H' → RE K ρ' H' s' σ' → RD K ρ' H' w v → H' dd = some (.xd [(("what" : Str), v)]) → mg (Str.ofString c) = some (.ref C) → W (.ref C) (some dd) σ' H'
  | .bad => False
end
abbrev RB : List Addr → Hp → Bool → Bool → Prop := fun _ _ a b => a = b
section
variable {K : PySem.W.Frag} {mg : Str → Option Value} {T : Tbs} {E : XK} {W : WX} {Dd : Ends} {ρ ρ' : List Addr} {H H' : Hp} {α β α' β' : Type} {R : List Addr → Hp → α → β → Prop} {R' : List Addr → Hp → α' → β' → Prop} {Q Q' : β → Hp → Prop} {Q2 : β' → Hp → Prop}
theorem Post.le {r : Res α} (h : Post K mg T E ρ H R Q r) (l : Le ρ H ρ' H') : Post K mg T E ρ' H' R Q r := by
  cases r with
  | ok a S => exact fun ρ2 H2 b l2 => h ρ2 H2 b (l.trans l2)
  | ex c w S => exact fun ρ2 H2 v dd C l2 => h ρ2 H2 v dd C (l.trans l2)
  | bad => exact h
theorem Post.imp {r : Res α} (h : Post K mg T E ρ H R Q r) (q : ∀ b H', Q b H' → Q' b H') : Post K mg T E ρ H R Q' r := by
  cases r with
  | ok a S => exact fun ρ2 H2 b l2 h1 h2 => q _ _ (h ρ2 H2 b l2 h1 h2)
  | ex c w S => exact h
  | bad => exact h
theorem Post.bind {r : Res α} {f : α → Store → Res α'} (h : Post K mg T E ρ H R' Q2 (r.bind f)) :
    Post K mg T E ρ H R (fun b H1 => ∃ ρ1 S1 a, Le ρ H ρ1 H1 ∧ RS K T ρ1 S1 H1 ∧ R ρ1 H1 a b ∧ Post K mg T E ρ1 H1 R' Q2 (f a S1)) r := by
  cases r with
  | ok a S => exact fun ρ1 H1 b l h1 h2 => ⟨ρ1, S, a, l, h1, h2, Post.le (show Post K mg T E ρ H R' Q2 (f a S) from h) l⟩
  | ex c w S => exact h
  | bad => exact h
theorem PostS.le {r : Rs} (h : PostS K mg T W Dd ρ H r) (l : Le ρ H ρ' H') : PostS K mg T W Dd ρ' H' r := by
  cases r with
  | nx s S => exact fun ρ2 H2 b l2 => h ρ2 H2 b (l.trans l2)
  | rt s S => exact fun ρ2 H2 b l2 => h ρ2 H2 b (l.trans l2)
  | bk s S => exact fun ρ2 H2 b l2 => h ρ2 H2 b (l.trans l2)
  | ct s S => exact fun ρ2 H2 b l2 => h ρ2 H2 b (l.trans l2)
  | ex c w s S => exact fun ρ2 H2 σ v dd C l2 => h ρ2 H2 σ v dd C (l.trans l2)
  | bad => exact h
theorem PostS.ofE {S : Store} {s : Env} {σ : L2.St} {r : Res α} {k : α → Store → Rs} (rs : RS K T ρ S H) (re : RE K ρ H s σ) (h : PostS K mg T W Dd ρ H (ofE r s k)) :
    Post K mg T (WE W σ) ρ H R (fun b H1 => ∃ ρ1 S1 a, Le ρ H ρ1 H1 ∧ RS K T ρ1 S1 H1 ∧ RE K ρ1 H1 s σ ∧ R ρ1 H1 a b ∧ PostS K mg T W Dd ρ1 H1 (k a S1)) r := by
  cases r with
  | ok a S => exact fun ρ1 H1 b l h1 h2 => ⟨ρ1, S, a, l, h1, re.le rs l, h2, PostS.le (show PostS K mg T W Dd ρ H (k a S) from h) l⟩
  | ex c w S => exact fun ρ1 H1 v dd C l h1 h2 h3 h4 => h ρ1 H1 σ v dd C l h1 (re.le rs l) h2 h3 h4
  | bad => exact h
end

/-! ### functional readings of syntax -/
section
variable (X : Cx) (T : Tbs) (W : WX)
def TEf (f : FE) : TE := fun σ H Q => ∃ ρ S s, RS X.K T ρ S H ∧ RE X.K ρ H s σ ∧ Post X.K X.mg T (WE W σ) ρ H (RD X.K) Q (f s S)
def TTf (f : FT) : TT := fun σ H Q => ∃ ρ S s, RS X.K T ρ S H ∧ RE X.K ρ H s σ ∧ Post X.K X.mg T (WE W σ) ρ H RB Q (f s S)
def TAf (f : FA) : TA := fun σ H Q => ∃ ρ S s, RS X.K T ρ S H ∧ RE X.K ρ H s σ ∧ Post X.K X.mg T (WE W σ) ρ H (RDs X.K) Q (f s S)
def TSf (f : FS) : TS := fun D σ H => ∃ ρ S s, RS X.K T ρ S H ∧ RE X.K ρ H s σ ∧ PostS X.K X.mg T W D ρ H (f s S)
abbrev EV (e : Expr) (f : FE) : Prop := PE X e (TEf X T W f)
abbrev ET (e : Expr) (f : FT) : Prop := PT X e (TTf X T W f)
abbrev EW (e : Expr) (f : FT) : Prop := PW X e (TTf X T W f)
abbrev EA (es : List Expr) (f : FA) : Prop := PA X es (TAf X T W f)
abbrev ES (st : Stmt) (f : FS) : Prop := PS X st (TSf X T W f)
abbrev ESs (st : List Stmt) (f : FS) : Prop := PSs X st (TSf X T W f)
end
theorem PE.imp {X : Cx} {e : Expr} {t t' : TE} (h : PE X e t) (i : ∀ σ H Q, t' σ H Q → t σ H Q) : PE X e t' := ⟨fun pins s σ H Q I q => h.run pins s σ H Q I (i σ H Q q)⟩
theorem PT.imp {X : Cx} {e : Expr} {t t' : TT} (h : PT X e t) (i : ∀ σ H Q, t' σ H Q → t σ H Q) : PT X e t' := ⟨fun pins s σ H Q I q => h.run pins s σ H Q I (i σ H Q q)⟩
theorem PW.imp {X : Cx} {e : Expr} {t t' : TT} (h : PW X e t) (i : ∀ σ H Q, t' σ H Q → t σ H Q) : PW X e t' := ⟨fun wh pins s σ H Q I q => h.run wh pins s σ H Q I (i σ H Q q)⟩
theorem PA.imp {X : Cx} {e : List Expr} {t t' : TA} (h : PA X e t) (i : ∀ σ H Q, t' σ H Q → t σ H Q) : PA X e t' := ⟨fun pos pins s σ H Q I q => h.run pos pins s σ H Q I (i σ H Q q)⟩
theorem PS.imp {X : Cx} {e : Stmt} {t t' : TS} (h : PS X e t) (i : ∀ D σ H, t' D σ H → t D σ H) : PS X e t' := ⟨fun pins s σ H D I q => h.run pins s σ H D I (i D σ H q)⟩
theorem PSs.imp {X : Cx} {e : List Stmt} {t t' : TS} (h : PSs X e t) (i : ∀ D σ H, t' D σ H → t D σ H) : PSs X e t' := ⟨fun pins s σ H D I q => h.run pins s σ H D I (i D σ H q)⟩
end Wk


set_option Elab.async false
set_option linter.all false
set_option maxRecDepth 100000
set_option maxHeartbeats 4000000
set_option autoImplicit false
/-! WkRules: the functional reading of each construct. -/
namespace Wk
open PySem PySem.Spec PyProof.Rows L2

section
variable {K : PySem.W.Frag} {T : Tbs} {ρ : List Addr} {S : Store} {H : Hp}
theorem RS.lstAt (r : RS K T ρ S H) {l : Nat} {v : V} {ds : List D} (h : RD K ρ H (.ref l) v) (hs : S[l]? = some (.lst ds)) : ∃ a vs, v = .ref a ∧ ρ[l]? = some a ∧ H a = some (.lst vs) ∧ RDs K ρ H ds vs ∧ vs.length ≤ sizeLine := by
  obtain ⟨a, rfl, ha⟩ := h.ref
  obtain ⟨vs, h1, h2, h3⟩ := r.ob l a _ ha hs
  exact ⟨a, vs, rfl, ha, h1, h2, h3⟩
theorem RS.dkAt (r : RS K T ρ S H) {l : Nat} {v : V} {ds : List (Kk × D)} (h : RD K ρ H (.ref l) v) (hs : S[l]? = some (.dk ds)) : ∃ a vs, v = .ref a ∧ ρ[l]? = some a ∧ H a = some (.dK vs) ∧ RKs K ρ H ds vs ∧ vs.length ≤ sizeLine := by
  obtain ⟨a, rfl, ha⟩ := h.ref
  obtain ⟨vs, h1, h2, h3⟩ := r.ob l a _ ha hs
  exact ⟨a, vs, rfl, ha, h1, h2, h3⟩
theorem RS.dtAt (r : RS K T ρ S H) {l : Nat} {v : V} {ds : List (List Kk × D)} (h : RD K ρ H (.ref l) v) (hs : S[l]? = some (.dt ds)) : ∃ a vs, v = .ref a ∧ ρ[l]? = some a ∧ H a = some (.dT vs) ∧ RKs K ρ H ds vs ∧ vs.length ≤ sizeLine := by
  obtain ⟨a, rfl, ha⟩ := h.ref
  obtain ⟨vs, h1, h2, h3⟩ := r.ob l a _ ha hs
  exact ⟨a, vs, rfl, ha, h1, h2, h3⟩
end

section
variable {X : Cx} {T : Tbs} {W : WX} {pos : Pos}
/-! ### names, constants -/
theorem ev_v (i : Nat) {x : Str} (hN : X.N[i]? = some x := by rfl) (hv : Vis X.env.scope x := by first | exact Or.inl rfl | exact Or.inr (Or.inl rfl) | exact Or.inr (Or.inr rfl)) (hd : (x == ("__debug__" : Str)) = false := by decide) (hcd : (x == ("__classdict__" : Str)) = false := by decide) :
    EV X T W (.Name x pos) (eV i) := by
  refine PE.imp (pe_var hN hv hd hcd) ?_
  rintro σ H Q ⟨ρ, S, s, rs, re, h⟩
  unfold eV at h
  cases e : s[i]? with
  | none => rw [e] at h; exact h.elim
  | some o =>
    rw [e] at h
    cases o with
    | none => exact h.elim
    | some d =>
      obtain ⟨y, hy, r⟩ := Paired.get1 re e
      cases y with
      | none => exact (show False from r).elim
      | some v => exact ⟨v, hy, h ρ H v (Le.refl _ _) rs r⟩
theorem ev_int {i : Int} {j : Nat} : EV X T W (.Constant (.int i) j pos) (eC (.int i)) := by
  refine PE.imp pe_int ?_
  rintro σ H Q ⟨ρ, S, s, rs, re, h⟩
  exact h ρ H _ (Le.refl _ _) rs rd_int
theorem ev_bl {b : Bool} {j : Nat} : EV X T W (.Constant (.bool b) j pos) (eC (.bl b)) := by
  refine PE.imp pe_bl ?_
  rintro σ H Q ⟨ρ, S, s, rs, re, h⟩
  exact h ρ H _ (Le.refl _ _) rs rd_bl
theorem ev_non {j : Nat} : EV X T W (.Constant .none j pos) (eC .non) := by
  refine PE.imp pe_non ?_
  rintro σ H Q ⟨ρ, S, s, rs, re, h⟩
  exact h ρ H _ (Le.refl _ _) rs rd_non
theorem ev_str {x : Str} {j : Nat} : EV X T W (.Constant (.str x) j pos) (eC (.str x)) := by
  refine PE.imp pe_str ?_
  rintro σ H Q ⟨ρ, S, s, rs, re, h⟩
  exact h ρ H _ (Le.refl _ _) rs rd_str
/-- a module's constant -/
theorem ev_globI {x : Str} {i : Int} {t : Tok} (hm : X.mg x = some (.int i t)) (hg : Gl X x := by rfl) (hd : (x == ("__debug__" : Str)) = false := by decide) : EV X T W (.Name x pos) (eC (.int i)) := by
  refine PE.imp (pe_glob (v := .int i) hg hm ⟨_, rfl⟩ hd) ?_
  rintro σ H Q ⟨ρ, S, s, rs, re, h⟩
  exact h ρ H _ (Le.refl _ _) rs rd_int

/-! ### arguments, displays -/
theorem ea_nil : EA X T W [] aNil := by
  refine PA.imp pa_nil ?_
  rintro σ H Q ⟨ρ, S, s, rs, re, h⟩
  exact h ρ H _ (Le.refl _ _) rs (by unfold RDs; rfl)
theorem ea_cons {e : Expr} {es : List Expr} {f : FE} {g : FA} (ha : EV X T W e f) (hr : EA X T W es g) (hs : starEach (e :: es) X.env = (false, eval e X.env) :: starEach es X.env := by rfl) : EA X T W (e :: es) (aCons f g) := by
  refine PA.imp (pa_cons ha hr hs) ?_
  rintro σ H Q ⟨ρ, S, s, rs, re, h⟩
  refine ⟨ρ, S, s, rs, re, (Post.bind (R := RD X.K) h).imp ?_⟩
  rintro x H1 ⟨ρ1, S1, d, l1, rs1, rd1, h1⟩
  refine ⟨ρ1, S1, s, rs1, re.le rs l1, (Post.bind (R := RDs X.K) h1).imp ?_⟩
  rintro xs H2 ⟨ρ2, S2, ds, l2, rs2, rd2, h2⟩
  exact h2 ρ2 H2 (x :: xs) (Le.refl _ _) rs2 (by unfold RDs; exact ⟨x, xs, rfl, rd1.le rs1 l2, rd2⟩)
theorem ev_tup {es : List Expr} {f : FA} {x1} (h : EA X T W es f) : EV X T W (.Tuple es x1 pos) (eTup f) := by
  refine PE.imp (pe_tup h) ?_
  rintro σ H Q ⟨ρ, S, s, rs, re, h⟩
  refine ⟨ρ, S, s, rs, re, (Post.bind (R := RDs X.K) h).imp ?_⟩
  rintro xs H1 ⟨ρ1, S1, ds, l1, rs1, rd1, h1⟩
  have hl := rd1.len
  by_cases hz : ds.length ≤ LIM
  · rw [if_pos hz] at h1
    rw [lim_eq, hl] at hz
    refine ⟨hz, fun p hp => ?_⟩
    obtain ⟨a, b, c⟩ := tup_new rs1 hp rd1 hz
    exact h1 _ _ _ a b c
  · rw [if_neg hz] at h1; exact h1.elim
theorem ev_lst {es : List Expr} {f : FA} (h : EA X T W es f) : EV X T W (.List es pos) (eLst f) := by
  refine PE.imp (pe_lst h) ?_
  rintro σ H Q ⟨ρ, S, s, rs, re, h⟩
  refine ⟨ρ, S, s, rs, re, (Post.bind (R := RDs X.K) h).imp ?_⟩
  rintro xs H1 ⟨ρ1, S1, ds, l1, rs1, rd1, h1⟩
  have hl := rd1.len
  by_cases hz : ds.length ≤ LIM
  · rw [if_pos hz] at h1
    rw [lim_eq, hl] at hz
    refine ⟨hz, fun p hp => ?_⟩
    obtain ⟨a, b, c⟩ := lst_new rs1 hp rd1 hz
    exact h1 _ _ _ a b c
  · rw [if_neg hz] at h1; exact h1.elim
theorem ev_dictK : EV X T W (.Dict [] [] pos) eDictK := by
  refine PE.imp pe_dnewK ?_
  rintro σ H Q ⟨ρ, S, s, rs, re, h⟩
  intro p hp
  obtain ⟨a, b, c⟩ := dk_new (ds := []) (vs := []) rs hp .nil (Nat.zero_le _)
  exact h _ _ _ a b c
theorem ev_dictT : EV X T W (.Dict [] [] pos) eDictT := by
  refine PE.imp pe_dnewT ?_
  rintro σ H Q ⟨ρ, S, s, rs, re, h⟩
  intro p hp
  obtain ⟨a, b, c⟩ := dt_new (ds := []) (vs := []) rs hp .nil (Nat.zero_le _)
  exact h _ _ _ a b c

/-! ### operators by values -/
variable (X T) in
/-- a two-place rule and its function -/
def OpS (r : R2) (o : Op) : Prop := ∀ (E : XK) (ρ : List Addr) (S : Store) (H : Hp) (x y : D) (v w : V) (Q : VK), RS X.K T ρ S H → RD X.K ρ H x v → RD X.K ρ H y w → Post X.K X.mg T E ρ H (RD X.K) Q (o x y S) → r v w H Q
variable (X T) in
def UnS (r : V → Hp → VK → Prop) (o : D → Store → Res D) : Prop := ∀ (E : XK) (ρ : List Addr) (S : Store) (H : Hp) (x : D) (v : V) (Q : VK), RS X.K T ρ S H → RD X.K ρ H x v → Post X.K X.mg T E ρ H (RD X.K) Q (o x S) → r v H Q
variable {a b c : Expr} {fa fb fc : FE}
theorem tef_op {r : R2} {o : Op} (hs : OpS X T r o) : ∀ σ H Q, TEf X T W (eOp o fa fb) σ H Q → tOp r (TEf X T W fa) (TEf X T W fb) σ H Q := by
  rintro σ H Q ⟨ρ, S, s, rs, re, h⟩
  refine ⟨ρ, S, s, rs, re, (Post.bind (R := RD X.K) h).imp ?_⟩
  rintro v H1 ⟨ρ1, S1, x, l1, rs1, rd1, h1⟩
  refine ⟨ρ1, S1, s, rs1, re.le rs l1, (Post.bind (R := RD X.K) h1).imp ?_⟩
  rintro w H2 ⟨ρ2, S2, y, l2, rs2, rd2, h2⟩
  exact hs _ ρ2 S2 H2 x y v w Q rs2 (rd1.le rs1 l2) rd2 h2
theorem tef_un {r : V → Hp → VK → Prop} {o : D → Store → Res D} (hs : UnS X T r o) : ∀ σ H Q, TEf X T W (eUn o fa) σ H Q → tUn r (TEf X T W fa) σ H Q := by
  rintro σ H Q ⟨ρ, S, s, rs, re, h⟩
  refine ⟨ρ, S, s, rs, re, (Post.bind (R := RD X.K) h).imp ?_⟩
  rintro v H1 ⟨ρ1, S1, x, l1, rs1, rd1, h1⟩
  exact hs _ ρ1 S1 H1 x v Q rs1 rd1 h1
theorem ev_op {op : Operator} {r : R2} {o : Op} (hs : OpR X (binaryOp op) r ∧ OpS X T r o) (ha : EV X T W a fa) (hb : EV X T W b fb) : EV X T W (.BinOp a op b pos) (eOp o fa fb) := PE.imp (pe_op hs.1 ha hb) (tef_op hs.2)
theorem ev_un {op : UnaryOp} {r : V → Hp → VK → Prop} {o : D → Store → Res D} (hs : UnR X (unaryOp op) r ∧ UnS X T r o) (ha : EV X T W a fa) : EV X T W (.UnaryOp op a pos) (eUn o fa) := PE.imp (pe_un hs.1 ha) (tef_un hs.2)
theorem ev_cmp {op : CmpOp} {r : R2} {o : Op} (hs : OpR X (compareOp op) r ∧ OpS X T r o) (ha : EV X T W a fa) (hb : EV X T W b fb) (hm : behindInMarks op b = false := by first | exact nomark _ | rfl) : EV X T W (.Compare a [op] [b] pos) (eOp o fa fb) := PE.imp (pe_cmpR hs.1 ha hb hm) (tef_op hs.2)
theorem ev_ix {r : R2} {o : Op} (hs : IxR X r ∧ OpS X T r o) (ha : EV X T W a fa) (hb : EV X T W b fb) (hp : PlainIx b := by exact fun _ _ => rfl) : EV X T W (.Subscript a b pos) (eOp o fa fb) := PE.imp (pe_ix hs.1 ha hb hp) (tef_op hs.2)
theorem ev_chain {op op' : CmpOp} {r r' : R2} {o o' : Op} (hs : OpR X (compareOp op) r ∧ OpS X T r o) (hs' : OpR X (compareOp op') r' ∧ OpS X T r' o') (ha : EV X T W a fa) (hb : EV X T W b fb) (hc : EV X T W c fc) (hm : lastMarks [op, op'] [b, c] = false := by with_unfolding_all rfl) :
    EV X T W (.Compare a [op, op'] [b, c] pos) (eChain o o' fa fb fc) := by
  refine PE.imp (pe_chain hs.1 hs'.1 ha hb hc hm) ?_
  rintro σ H Q ⟨ρ, S, s, rs, re, h⟩
  refine ⟨ρ, S, s, rs, re, (Post.bind (R := RD X.K) h).imp ?_⟩
  rintro v H1 ⟨ρ1, S1, x, l1, rs1, rd1, h1⟩
  refine ⟨ρ1, S1, s, rs1, re.le rs l1, (Post.bind (R := RD X.K) h1).imp ?_⟩
  rintro w H2 ⟨ρ2, S2, y, l2, rs2, rd2, h2⟩
  refine hs.2 _ ρ2 S2 H2 x y v w _ rs2 (rd1.le rs1 l2) rd2 ((Post.bind (R := RD X.K) h2).imp ?_)
  rintro z H3 ⟨ρ3, S3, dz, l3, rs3, rd3, h3⟩
  cases dz with
  | bl k =>
    refine ⟨k, rd3.bl, ?_⟩
    cases k with
    | true =>
      rw [if_pos rfl]
      refine ⟨ρ3, S3, s, rs3, ((re.le rs l1).le rs1 l2).le rs2 l3, (Post.bind (R := RD X.K) h3).imp ?_⟩
      rintro w' H4 ⟨ρ4, S4, d4, l4, rs4, rd4, h4⟩
      exact hs'.2 _ ρ4 S4 H4 y d4 w w' Q rs4 ((rd2.le rs2 l3).le rs3 l4) rd4 h4
    | false =>
      rw [if_neg (by decide)]
      exact h3 ρ3 H3 _ (Le.refl _ _) rs3 rd_bl
  | _ => exact (show False from h3).elim

/-! ### tests -/
theorem ttf_e {f : FE} : ∀ σ H Q, TTf X T W (tE f) σ H Q → tB (TEf X T W f) σ H Q := by
  rintro σ H Q ⟨ρ, S, s, rs, re, h⟩
  refine ⟨ρ, S, s, rs, re, (Post.bind (R := RD X.K) h).imp ?_⟩
  rintro v H1 ⟨ρ1, S1, x, l1, rs1, rd1, h1⟩
  cases x with
  | bl k => exact ⟨k, rd1.bl, h1 ρ1 H1 k (Le.refl _ _) rs1 rfl⟩
  | _ => exact (show False from h1).elim
/-- an expression whose value is a truth -/
theorem et_e {f : FE} (h : EV X T W a f) (he : ∀ whole, isTrue a X.env whole = (do let v ← whole; standAt a.pos; holding [v] (truthy v)) := by intro _; rfl) : ET X T W a (tE f) := PT.imp (pt_val h he) ttf_e
theorem et_cmp {op : CmpOp} {r : R2} {o : Op} (hs : OpR X (compareOp op) r ∧ OpS X T r o) (ha : EV X T W a fa) (hb : EV X T W b fb) (hm : behindInMarks op b = false := by first | exact nomark _ | rfl) : ET X T W (.Compare a [op] [b] pos) (tE (eOp o fa fb)) := by
  refine PT.imp (pt_cmpR hs.1 ha hb hm) ?_
  intro σ H Q h
  obtain ⟨ρ, S, s, rs, re, h⟩ := ttf_e _ _ _ h
  exact tef_op hs.2 _ _ _ ⟨ρ, S, s, rs, re, h⟩
theorem et_chain {op op' : CmpOp} {r r' : R2} {o o' : Op} (hs : OpR X (compareOp op) r ∧ OpS X T r o) (hs' : OpR X (compareOp op') r' ∧ OpS X T r' o') (ha : EV X T W a fa) (hb : EV X T W b fb) (hc : EV X T W c fc) (hm : lastMarks [op, op'] [b, c] = false := by with_unfolding_all rfl) :
    ET X T W (.Compare a [op, op'] [b, c] pos) (tE (eChain o o' fa fb fc)) := by
  refine PT.imp (pt_chain hs.1 hs'.1 ha hb hc hm) ?_
  intro σ H Q h
  obtain ⟨ρ, S, s, rs, re, h⟩ := ttf_e _ _ _ h
  refine ⟨ρ, S, s, rs, re, (Post.bind (R := RD X.K) h).imp ?_⟩
  rintro v H1 ⟨ρ1, S1, x, l1, rs1, rd1, h1⟩
  refine ⟨ρ1, S1, s, rs1, re.le rs l1, (Post.bind (R := RD X.K) h1).imp ?_⟩
  rintro w H2 ⟨ρ2, S2, y, l2, rs2, rd2, h2⟩
  refine hs.2 _ ρ2 S2 H2 x y v w _ rs2 (rd1.le rs1 l2) rd2 ((Post.bind (R := RD X.K) h2).imp ?_)
  rintro z H3 ⟨ρ3, S3, dz, l3, rs3, rd3, h3⟩
  cases dz with
  | bl k =>
    refine ⟨k, rd3.bl, ?_⟩
    cases k with
    | true =>
      rw [if_pos rfl]
      refine ⟨ρ3, S3, s, rs3, ((re.le rs l1).le rs1 l2).le rs2 l3, (Post.bind (R := RD X.K) h3).imp ?_⟩
      rintro w' H4 ⟨ρ4, S4, d4, l4, rs4, rd4, h4⟩
      exact hs'.2 _ ρ4 S4 H4 y d4 w w' _ rs4 ((rd2.le rs2 l3).le rs3 l4) rd4 h4
    | false =>
      rw [if_neg (by decide)]
      exact h3 ρ3 H3 _ (Le.refl _ _) rs3 rd_bl
  | _ => exact (show False from h3).elim
variable {t u : FT} {rest : List Expr}
theorem ew_and1 (ha : ET X T W a t) : EW X T W (.BoolOp .And [a] pos) t := pw_and1 ha
theorem ew_or1 (ha : ET X T W a t) : EW X T W (.BoolOp .Or [a] pos) t := pw_or1 ha
theorem ew_and (ha : ET X T W a t) (hb : EW X T W (.BoolOp .And (b :: rest) pos) u) : EW X T W (.BoolOp .And (a :: b :: rest) pos) (tAnd t u) := by
  refine PW.imp (pw_and ha hb) ?_
  rintro σ H Q ⟨ρ, S, s, rs, re, h⟩
  refine ⟨ρ, S, s, rs, re, (Post.bind (R := RB) h).imp ?_⟩
  rintro k H1 ⟨ρ1, S1, k', l1, rs1, rfl, h1⟩
  cases k' with
  | true =>
    rw [if_pos rfl] at h1 ⊢
    exact ⟨ρ1, S1, s, rs1, re.le rs l1, h1⟩
  | false =>
    rw [if_neg (by decide)] at h1 ⊢
    exact h1 ρ1 H1 false (Le.refl _ _) rs1 rfl
theorem ew_or (ha : ET X T W a t) (hb : EW X T W (.BoolOp .Or (b :: rest) pos) u) : EW X T W (.BoolOp .Or (a :: b :: rest) pos) (tOr t u) := by
  refine PW.imp (pw_or ha hb) ?_
  rintro σ H Q ⟨ρ, S, s, rs, re, h⟩
  refine ⟨ρ, S, s, rs, re, (Post.bind (R := RB) h).imp ?_⟩
  rintro k H1 ⟨ρ1, S1, k', l1, rs1, rfl, h1⟩
  cases k' with
  | true =>
    rw [if_pos rfl] at h1 ⊢
    exact h1 ρ1 H1 true (Le.refl _ _) rs1 rfl
  | false =>
    rw [if_neg (by decide)] at h1 ⊢
    exact ⟨ρ1, S1, s, rs1, re.le rs l1, h1⟩
theorem et_w (h : EW X T W a t) : ET X T W a t := PW.pt h
theorem et_not (ha : ET X T W a t) : ET X T W (.UnaryOp .Not a pos) (Wk.tNot t) := by
  refine PT.imp (pt_not ha) ?_
  rintro σ H Q ⟨ρ, S, s, rs, re, h⟩
  refine ⟨ρ, S, s, rs, re, (Post.bind (R := RB) h).imp ?_⟩
  rintro k H1 ⟨ρ1, S1, k', l1, rs1, rfl, h1⟩
  exact h1 ρ1 H1 _ (Le.refl _ _) rs1 rfl
theorem ev_one {op : BoolOp} {f : FE} (h : EV X T W a f) : EV X T W (.BoolOp op [a] pos) f := pe_one h
theorem ev_and (ha : EV X T W a fa) (hb : EV X T W (.BoolOp .And (b :: rest) pos) fb) : EV X T W (.BoolOp .And (a :: b :: rest) pos) (eAnd fa fb) := by
  refine PE.imp (pe_and ha hb) ?_
  rintro σ H Q ⟨ρ, S, s, rs, re, h⟩
  obtain ⟨ρ, S, s, rs, re, h⟩ := ttf_e σ H (fun k H1 => if k = true then TEf X T W fb σ H1 Q else Q (.bl false) H1) (by
    refine ⟨ρ, S, s, rs, re, (Post.bind (R := RB) h).imp ?_⟩
    rintro k H1 ⟨ρ1, S1, k', l1, rs1, rfl, h1⟩
    cases k' with
    | true => rw [if_pos rfl] at h1 ⊢; exact ⟨ρ1, S1, s, rs1, re.le rs l1, h1⟩
    | false => rw [if_neg (by decide)] at h1 ⊢; exact h1 ρ1 H1 _ (Le.refl _ _) rs1 rd_bl)
  exact ⟨ρ, S, s, rs, re, h⟩
theorem ev_or (ha : EV X T W a fa) (hb : EV X T W (.BoolOp .Or (b :: rest) pos) fb) : EV X T W (.BoolOp .Or (a :: b :: rest) pos) (eOr fa fb) := by
  refine PE.imp (pe_or ha hb) ?_
  rintro σ H Q ⟨ρ, S, s, rs, re, h⟩
  obtain ⟨ρ, S, s, rs, re, h⟩ := ttf_e σ H (fun k H1 => if k = true then Q (.bl true) H1 else TEf X T W fb σ H1 Q) (by
    refine ⟨ρ, S, s, rs, re, (Post.bind (R := RB) h).imp ?_⟩
    rintro k H1 ⟨ρ1, S1, k', l1, rs1, rfl, h1⟩
    cases k' with
    | true => rw [if_pos rfl] at h1 ⊢; exact h1 ρ1 H1 _ (Le.refl _ _) rs1 rd_bl
    | false => rw [if_neg (by decide)] at h1 ⊢; exact ⟨ρ1, S1, s, rs1, re.le rs l1, h1⟩)
  exact ⟨ρ, S, s, rs, re, h⟩
theorem ev_not (ha : EV X T W a fa) : EV X T W (.UnaryOp .Not a pos) (eNot fa) := by
  refine PE.imp (pe_not ha) ?_
  rintro σ H Q ⟨ρ, S, s, rs, re, h⟩
  obtain ⟨ρ, S, s, rs, re, h⟩ := ttf_e σ H (fun k H1 => Q (.bl (!k)) H1) (by
    refine ⟨ρ, S, s, rs, re, (Post.bind (R := RB) h).imp ?_⟩
    rintro k H1 ⟨ρ1, S1, k', l1, rs1, rfl, h1⟩
    exact h1 ρ1 H1 _ (Le.refl _ _) rs1 rd_bl)
  exact ⟨ρ, S, s, rs, re, h⟩
theorem ev_if (hc : ET X T W c t) (ha : EV X T W a fa) (hb : EV X T W b fb) : EV X T W (.IfExp c a b pos) (eIf t fa fb) := by
  refine PE.imp (pe_ifExp hc ha hb) ?_
  rintro σ H Q ⟨ρ, S, s, rs, re, h⟩
  refine ⟨ρ, S, s, rs, re, (Post.bind (R := RB) h).imp ?_⟩
  rintro k H1 ⟨ρ1, S1, k', l1, rs1, rfl, h1⟩
  cases k' with
  | true => rw [if_pos rfl] at h1 ⊢; exact ⟨ρ1, S1, s, rs1, re.le rs l1, h1⟩
  | false => rw [if_neg (by decide)] at h1 ⊢; exact ⟨ρ1, S1, s, rs1, re.le rs l1, h1⟩
end
end Wk


set_option Elab.async false
set_option linter.all false
set_option maxRecDepth 100000
set_option maxHeartbeats 4000000
set_option autoImplicit false
/-! WkOps: the functional reading of operators by values. -/
namespace Wk
open PySem PySem.Spec PyProof.Rows L2
section
variable {X : Cx} {T : Tbs}
theorem noFl {α : Prop} (h : False) : α := h.elim

/-! ### + -/
abbrev rAddA (K : PySem.W.Frag) : R2 := fun x y H Q => (fun x y H Q => (rI0 fun i j => .int (i + j)) x y H Q ∨ (fun x y H Q => ∃ i j, x = .str i ∧ y = .str j ∧ i.length + j.length ≤ sizeLine ∧ Q (.str (i ++ j)) H) x y H Q) x y H Q ∨ (fun x y H Q => rCatA K x y H Q ∨ rCat x y H Q) x y H Q
theorem os_add : OpR X (binaryOp .Add) (rAddA X.K) ∧ OpS X T (rAddA X.K) oAdd := by
  refine ⟨OpR.or (OpR.or op_add op_add_str) (OpR.or op_catA op_cat), ?_⟩
  intro E ρ S H x y v w Q rs rx ry h
  cases x with
  | int i =>
    cases y with
    | int j =>
      rw [rx.int, ry.int]
      exact .inl (.inl ⟨i, j, rfl, rfl, h ρ H _ (Le.refl _ _) rs rd_int⟩)
    | _ => exact (show False from h).elim
  | str i =>
    cases y with
    | str j =>
      rw [rx.str, ry.str]
      by_cases hz : i.length + j.length ≤ LIM
      · rw [show oAdd (.str i) (.str j) S = .ok (.str (i ++ j)) S from if_pos hz] at h
        exact .inl (.inr ⟨i, j, rfl, rfl, by rw [← lim_eq]; exact hz, h ρ H _ (Le.refl _ _) rs rd_str⟩)
      · rw [show oAdd (.str i) (.str j) S = .bad from if_neg hz] at h
        exact (show False from h).elim
    | _ => exact (show False from h).elim
  | tup i =>
    cases y with
    | tup j =>
      obtain ⟨a, vs, rfl, ta, ra⟩ := rx.tup
      obtain ⟨b, ws, rfl, tb, rb⟩ := ry.tup
      by_cases hz : i.length + j.length ≤ LIM
      · rw [show oAdd (.tup i) (.tup j) S = .ok (.tup (i ++ j)) S from if_pos hz] at h
        rw [lim_eq, ra.len, rb.len] at hz
        refine .inr (.inl ⟨a, b, vs, ws, rfl, rfl, ta.sq, tb.sq, hz, fun e => ?_, fun _ e => ?_, fun _ _ p hp => ?_⟩)
        · have e1 : i = [] := List.length_eq_zero_iff.mp (by rw [ra.len, e]; rfl)
          subst e1
          exact h ρ H _ (Le.refl _ _) rs (rd_tup tb rb)
        · have e1 : j = [] := List.length_eq_zero_iff.mp (by rw [rb.len, e]; rfl)
          subst e1
          rw [List.append_nil] at h
          exact h ρ H _ (Le.refl _ _) rs (rd_tup ta ra)
        · obtain ⟨q1, q2, q3⟩ := tup_new rs hp (RDs.of (Paired.app ra.pair rb.pair)) (by rw [List.length_append]; exact hz)
          exact h _ _ _ q1 q2 q3
      · rw [show oAdd (.tup i) (.tup j) S = .bad from if_neg hz] at h
        exact (show False from h).elim
    | _ => exact (show False from h).elim
  | ref l =>
    cases y with
    | ref m =>
      unfold oAdd at h
      dsimp only at h
      split at h
      · rename_i a b e1 e2
        obtain ⟨p, vs, rfl, hp, hv, ra, za⟩ := rs.lstAt rx e1
        obtain ⟨q, ws, rfl, hq, hw, rb, zb⟩ := rs.lstAt ry e2
        by_cases hz : a.length + b.length ≤ LIM
        · rw [if_pos hz] at h
          rw [lim_eq, ra.len, rb.len] at hz
          refine .inr (.inr ⟨p, q, vs, ws, rfl, rfl, hv, hw, hz, fun p hp => ?_⟩)
          obtain ⟨q1, q2, q3⟩ := lst_new rs hp (RDs.of (Paired.app ra.pair rb.pair)) (by rw [List.length_append]; exact hz)
          exact h _ _ _ q1 q2 q3
        · rw [if_neg hz] at h; exact (show False from h).elim
      · exact (show False from h).elim
    | _ => exact (show False from h).elim
  | _ => cases y <;> exact (show False from h).elim

/-! ### ints -/
theorem os_I {f : Value → Value → Sem Value} {C : Int → Int → Prop} {g : Int → Int → V} {o : Op} {gd : Int → Int → D} (ho : OpR X f (rI C g)) (hg : ∀ i j K ρ H, RD K ρ H (gd i j) (g i j))
    (h1 : ∀ i j S, (C i j ∧ o (.int i) (.int j) S = .ok (gd i j) S) ∨ o (.int i) (.int j) S = .bad) (h2 : ∀ x y S, (∃ i j, x = .int i ∧ y = .int j) ∨ o x y S = .bad) : OpR X f (rI C g) ∧ OpS X T (rI C g) o := by
  refine ⟨ho, ?_⟩
  intro E ρ S H x y v w Q rs rx ry h
  rcases h2 x y S with ⟨i, j, rfl, rfl⟩ | e
  · rcases h1 i j S with ⟨hc, e⟩ | e
    · rw [e] at h
      exact ⟨i, j, rx.int, ry.int, hc, h ρ H _ (Le.refl _ _) rs (hg ..)⟩
    · rw [e] at h; exact (show False from h).elim
  · rw [e] at h; exact (show False from h).elim
theorem os_I0 {f : Value → Value → Sem Value} {g : Int → Int → V} {o : Op} {gd : Int → Int → D} (ho : OpR X f (rI0 g)) (hg : ∀ i j K ρ H, RD K ρ H (gd i j) (g i j))
    (h1 : ∀ i j S, o (.int i) (.int j) S = .ok (gd i j) S) (h2 : ∀ x y S, (∃ i j, x = .int i ∧ y = .int j) ∨ o x y S = .bad) : OpR X f (rI0 g) ∧ OpS X T (rI0 g) o := by
  refine ⟨ho, ?_⟩
  intro E ρ S H x y v w Q rs rx ry h
  rcases h2 x y S with ⟨i, j, rfl, rfl⟩ | e
  · rw [h1 i j S] at h
    exact ⟨i, j, rx.int, ry.int, h ρ H _ (Le.refl _ _) rs (hg ..)⟩
  · rw [e] at h; exact (show False from h).elim
theorem os_sub : OpR X (binaryOp .Sub) (rI0 fun i j => .int (i - j)) ∧ OpS X T (rI0 fun i j => .int (i - j)) oSub :=
  os_I0 (gd := fun i j => .int (i - j)) op_sub (fun _ _ _ _ _ => rd_int) (fun _ _ _ => rfl) (fun x y S => by cases x <;> first | exact .inr rfl | (cases y <;> first | exact .inr rfl | exact .inl ⟨_, _, rfl, rfl⟩))
theorem os_fdiv : OpR X (binaryOp .FloorDiv) (rI CDivW fun i j => .int (i / j)) ∧ OpS X T (rI CDivW fun i j => .int (i / j)) oFdiv :=
  os_I (gd := fun i j => .int (i / j)) op_fdivW (fun _ _ _ _ _ => rd_int) (fun i j S => by
    by_cases h : 0 < j ∧ j.natAbs.log2 < 9000
    · exact .inl ⟨h, if_pos h⟩
    · exact .inr (if_neg h)) (fun x y S => by cases x <;> first | exact .inr rfl | (cases y <;> first | exact .inr rfl | exact .inl ⟨_, _, rfl, rfl⟩))
theorem os_mod : OpR X (binaryOp .Mod) (rI (fun _ j => 0 < j) fun i j => .int (i % j)) ∧ OpS X T (rI (fun _ j => 0 < j) fun i j => .int (i % j)) oMod :=
  os_I (gd := fun i j => .int (i % j)) op_mod (fun _ _ _ _ _ => rd_int) (fun i j S => by
    by_cases h : 0 < j
    · exact .inl ⟨h, if_pos h⟩
    · exact .inr (if_neg h)) (fun x y S => by cases x <;> first | exact .inr rfl | (cases y <;> first | exact .inr rfl | exact .inl ⟨_, _, rfl, rfl⟩))
theorem os_pow : OpR X (binaryOp .Pow) (rI CPow fun i j => .int (i ^ j.toNat)) ∧ OpS X T (rI CPow fun i j => .int (i ^ j.toNat)) oPow :=
  os_I (gd := fun i j => .int (i ^ j.toNat)) op_pow (fun _ _ _ _ _ => rd_int) (fun i j S => by
    by_cases h : 0 ≤ j ∧ j ≤ 1000000 ∧ i.natAbs < 2 ^ 64
    · exact .inl ⟨h, if_pos h⟩
    · exact .inr (if_neg h)) (fun x y S => by cases x <;> first | exact .inr rfl | (cases y <;> first | exact .inr rfl | exact .inl ⟨_, _, rfl, rfl⟩))
abbrev rMulA : R2 := fun x y H Q => (rI CMulW fun i j => .int (i * j)) x y H Q ∨ rRep x y H Q
theorem os_mul : OpR X (binaryOp .Mult) rMulA ∧ OpS X T rMulA oMul := by
  refine ⟨OpR.or op_mulW op_rep, ?_⟩
  intro E ρ S H x y v w Q rs rx ry h
  cases x with
  | int i =>
    cases y with
    | int j =>
      rw [rx.int, ry.int]
      by_cases hc : (bigOk i && bigOk j) = true
      · rw [show oMul (.int i) (.int j) S = .ok (.int (i * j)) S from if_pos hc] at h
        have hc2 := hc
        unfold bigOk at hc2
        simp only [Bool.and_eq_true, decide_eq_true_eq] at hc2
        exact .inl ⟨i, j, rfl, rfl, (by unfold CMulW; omega), h ρ H _ (Le.refl _ _) rs rd_int⟩
      · rw [show oMul (.int i) (.int j) S = .bad from if_neg hc] at h
        exact (show False from h).elim
    | _ => exact (show False from h).elim
  | ref l =>
    cases y with
    | int k =>
      rw [ry.int]
      unfold oMul at h
      dsimp only at h
      split at h
      · rename_i a e1
        obtain ⟨p, vs, rfl, hp, hv, ra, za⟩ := rs.lstAt rx e1
        by_cases hc : 0 ≤ k ∧ k ≤ 1000000 ∧ a.length * k.toNat ≤ LIM
        · rw [if_pos hc] at h
          obtain ⟨c1, c2, c3⟩ := hc
          rw [lim_eq, ra.len] at c3
          refine .inr ⟨p, k, vs, rfl, rfl, hv, by omega, by omega, c3, fun q hq => ?_⟩
          obtain ⟨q1, q2, q3⟩ := lst_new rs hq (RDs.of (Paired.flat ra.pair k.toNat)) (by
            rw [List.length_flatten, List.map_replicate, List.sum_replicate_nat]
            rw [Nat.mul_comm]; exact c3)
          exact h _ _ _ q1 q2 q3
        · rw [if_neg hc] at h; exact (show False from h).elim
      · exact (show False from h).elim
    | _ => exact (show False from h).elim
  | _ => cases y <;> exact (show False from h).elim
theorem os_cmpI {op : CmpOp} {p : Int → Int → Bool} (ho : OpR X (compareOp op) (rI0 fun i j => .bl (p i j))) : OpR X (compareOp op) (rI0 fun i j => .bl (p i j)) ∧ OpS X T (rI0 fun i j => .bl (p i j)) (oCmp p) :=
  os_I0 (gd := fun i j => .bl (p i j)) ho (fun _ _ _ _ _ => rd_bl) (fun _ _ _ => rfl) (fun x y S => by cases x <;> first | exact .inr rfl | (cases y <;> first | exact .inr rfl | exact .inl ⟨_, _, rfl, rfl⟩))
theorem os_lt : OpR X (compareOp .Lt) (rI0 fun i j => .bl (decide (i < j))) ∧ OpS X T (rI0 fun i j => .bl (decide (i < j))) oLt := os_cmpI op_lt
theorem os_le : OpR X (compareOp .LtE) (rI0 fun i j => .bl (decide (i ≤ j))) ∧ OpS X T (rI0 fun i j => .bl (decide (i ≤ j))) oLe := os_cmpI op_le
theorem os_gt : OpR X (compareOp .Gt) (rI0 fun i j => .bl (decide (j < i))) ∧ OpS X T (rI0 fun i j => .bl (decide (j < i))) oGt := os_cmpI op_gt
theorem os_ge : OpR X (compareOp .GtE) (rI0 fun i j => .bl (decide (j ≤ i))) ∧ OpS X T (rI0 fun i j => .bl (decide (j ≤ i))) oGe := os_cmpI op_ge
theorem os_neg : UnR X (unaryOp .USub) (rU fun i => .int (-i)) ∧ UnS X T (rU fun i => .int (-i)) uNeg := by
  refine ⟨un_neg, ?_⟩
  intro E ρ S H x v Q rs rx h
  cases x with
  | int i => exact ⟨i, rx.int, h ρ H _ (Le.refl _ _) rs rd_int⟩
  | _ => exact (show False from h).elim
theorem isNon_v {K : PySem.W.Frag} {ρ : List Addr} {H : Hp} {x : D} {v : V} (r : RD K ρ H x v) : decide (v = .non) = isNon x := by
  cases x with
  | non => rw [r.non]; rfl
  | bl b => rw [r.bl]; rfl
  | int b => rw [r.int]; rfl
  | str b => rw [r.str]; rfl
  | tup b => obtain ⟨a, vs, rfl, _⟩ := r.tup; rfl
  | frz b => obtain ⟨a, vs, rfl, _⟩ := r.frz; rfl
  | ref b => obtain ⟨a, rfl, _⟩ := r.ref; rfl
theorem os_isN : OpR X (compareOp .Is) (fun x y H Q => y = .non ∧ Q (.bl (decide (x = .non))) H) ∧ OpS X T (fun x y H Q => y = .non ∧ Q (.bl (decide (x = .non))) H) oIsN := by
  refine ⟨op_isN, ?_⟩
  intro E ρ S H x y v w Q rs rx ry h
  cases y with
  | non => exact ⟨ry.non, by rw [isNon_v rx]; exact h ρ H _ (Le.refl _ _) rs rd_bl⟩
  | _ => exact (show False from h).elim
theorem os_notN : OpR X (compareOp .IsNot) (fun x y H Q => y = .non ∧ Q (.bl (!decide (x = .non))) H) ∧ OpS X T (fun x y H Q => y = .non ∧ Q (.bl (!decide (x = .non))) H) oNotN := by
  refine ⟨op_notN, ?_⟩
  intro E ρ S H x y v w Q rs rx ry h
  cases y with
  | non => exact ⟨ry.non, by rw [isNon_v rx]; exact h ρ H _ (Le.refl _ _) rs rd_bl⟩
  | _ => exact (show False from h).elim
theorem os_isB : OpR X (compareOp .Is) rIsB ∧ OpS X T rIsB oIsB := by
  refine ⟨op_isBl, ?_⟩
  intro E ρ S H x y v w Q rs rx ry h
  cases x with
  | bl a =>
    cases y with
    | bl b => exact ⟨a, b, rx.bl, ry.bl, h ρ H _ (Le.refl _ _) rs rd_bl⟩
    | _ => exact (show False from h).elim
  | _ => cases y <;> exact (show False from h).elim

/-! ### == and != -/
mutual
def pyP : P → PyData
  | .non => .none
  | .bl b => .bool b
  | .int i => .int i
  | .str x => .str x
  | .lst xs => .list (pyPs xs)
  | .tup xs => .tuple (pyPs xs)
def pyPs : List P → List PyData
  | [] => []
  | x :: xs => pyP x :: pyPs xs
end
mutual
theorem eqv_py : ∀ p q : P, PyData.eqv (pyP p) (pyP q) = P.eqv p q
  | .non, q => by cases q <;> simp [pyP, PyData.eqv, P.eqv]
  | .bl b, q => by cases q <;> simp [pyP, PyData.eqv, P.eqv]
  | .int b, q => by cases q <;> simp [pyP, PyData.eqv, P.eqv]
  | .str b, q => by cases q <;> simp [pyP, PyData.eqv, P.eqv]
  | .lst xs, q => by
    cases q with
    | lst ys => simp only [pyP, PyData.eqv, P.eqv]; exact eqvs_py xs ys
    | _ => simp [pyP, PyData.eqv, P.eqv]
  | .tup xs, q => by
    cases q with
    | tup ys => simp only [pyP, PyData.eqv, P.eqv]; exact eqvs_py xs ys
    | _ => simp [pyP, PyData.eqv, P.eqv]
theorem eqvs_py : ∀ p q : List P, PyData.eqvAll (pyPs p) (pyPs q) = P.eqvs p q
  | [], q => by cases q <;> simp [pyPs, PyData.eqvAll, P.eqvs]
  | x :: xs, q => by
    cases q with
    | nil => simp [pyPs, PyData.eqvAll, P.eqvs]
    | cons y ys => simp only [pyPs, PyData.eqvAll, P.eqvs]; rw [eqv_py x y, eqvs_py xs ys]
end
/-- what toP tells: the data that the heap has there, well shaped -/
theorem toP_dp {ρ : List Addr} {S : Store} {H : Hp} (rs : RS X.K T ρ S H) : ∀ (n : Nat) (d : D) (p : P) (v : V), toP S n d = some p → RD X.K ρ H d v → Dp X.K H v (pyP p) ∧ (pyP p).canLay0 = true ∧ (pyP p).depth ≤ n := by
  intro n
  induction n with
  | zero =>
    intro d p v h r
    cases d with
    | non => unfold toP at h; cases h; rw [r.non]; exact ⟨by unfold pyP; exact .non, by simp [pyP, PyData.canLay0], by simp [pyP, PyData.depth]⟩
    | bl b => unfold toP at h; cases h; rw [r.bl]; exact ⟨by unfold pyP; exact .bl b, by simp [pyP, PyData.canLay0], by simp [pyP, PyData.depth]⟩
    | int i => unfold toP at h; cases h; rw [r.int]; exact ⟨by unfold pyP; exact .int i, by simp [pyP, PyData.canLay0], by simp [pyP, PyData.depth]⟩
    | str x =>
      unfold toP at h
      split at h
      · rename_i hx
        cases h; rw [r.str]; exact ⟨by unfold pyP; exact .str x, by simp only [pyP, PyData.canLay0]; exact hx, by simp [pyP, PyData.depth]⟩
      · cases h
    | tup ds => simp [toP] at h
    | frz ds => simp [toP] at h
    | ref l => simp [toP] at h
  | succ n ih =>
    have all : ∀ (ds : List D) (ps : List P) (vs : List V), ds.mapM (toP S n) = some ps → RDs X.K ρ H ds vs → DpAll X.K H vs (pyPs ps) ∧ PyData.canLayAll0 (pyPs ps) = true ∧ PyData.depthAll (pyPs ps) ≤ n := by
      intro ds
      induction ds with
      | nil =>
        intro ps vs h r
        simp at h
        subst h
        have : vs = [] := by unfold RDs at r; exact r
        subst this
        exact ⟨by unfold pyPs; exact .nil, by simp [pyPs, PyData.canLayAll0], by simp [pyPs, PyData.depthAll]⟩
      | cons d ds ih2 =>
        intro ps vs h r
        rw [List.mapM_cons] at h
        unfold RDs at r
        obtain ⟨v, w, rfl, r1, r2⟩ := r
        cases e1 : toP S n d with
        | none => rw [e1] at h; simp at h
        | some p =>
          cases e2 : ds.mapM (toP S n) with
          | none => rw [e1, e2] at h; simp at h
          | some qs =>
            rw [e1, e2] at h
            simp at h
            subst h
            obtain ⟨a1, a2, a3⟩ := ih d p v e1 r1
            obtain ⟨b1, b2, b3⟩ := ih2 qs w e2 r2
            refine ⟨by unfold pyPs; exact .cons a1 b1, by simp only [pyPs, PyData.canLayAll0, a2, b2]; rfl, ?_⟩
            simp only [pyPs, PyData.depthAll]
            omega
    intro d p v h r
    cases d with
    | non => unfold toP at h; cases h; rw [r.non]; exact ⟨by unfold pyP; exact .non, by simp [pyP, PyData.canLay0], by simp [pyP, PyData.depth]⟩
    | bl b => unfold toP at h; cases h; rw [r.bl]; exact ⟨by unfold pyP; exact .bl b, by simp [pyP, PyData.canLay0], by simp [pyP, PyData.depth]⟩
    | int i => unfold toP at h; cases h; rw [r.int]; exact ⟨by unfold pyP; exact .int i, by simp [pyP, PyData.canLay0], by simp [pyP, PyData.depth]⟩
    | str x =>
      unfold toP at h
      split at h
      · rename_i hx
        cases h; rw [r.str]; exact ⟨by unfold pyP; exact .str x, by simp only [pyP, PyData.canLay0]; exact hx, by simp [pyP, PyData.depth]⟩
      · cases h
    | tup ds =>
      unfold toP at h
      split at h
      · rename_i ps e
        cases h
        obtain ⟨a, vs, rfl, ta, ra⟩ := r.tup
        obtain ⟨b1, b2, b3⟩ := all ds ps vs e ra
        exact ⟨by unfold pyP; exact .tup ta.sq b1, by simp only [pyP, PyData.canLay0]; exact b2, by simp only [pyP, PyData.depth]; omega⟩
      · cases h
    | frz ds =>
      unfold toP at h
      split at h
      · rename_i ps e
        cases h
        obtain ⟨a, vs, rfl, ta, ra⟩ := r.frz
        obtain ⟨b1, b2, b3⟩ := all ds ps vs e ra
        exact ⟨by unfold pyP; exact .lst ta.sq b1, by simp only [pyP, PyData.canLay0]; exact b2, by simp only [pyP, PyData.depth]; omega⟩
      · cases h
    | ref l =>
      unfold toP at h
      split at h
      · rename_i ds e0
        split at h
        · rename_i ps e
          cases h
          obtain ⟨a, vs, rfl, ha, hv, ra, _⟩ := rs.lstAt r e0
          obtain ⟨b1, b2, b3⟩ := all ds ps vs e ra
          exact ⟨by unfold pyP; exact .lst (SqL.of hv) b1, by simp only [pyP, PyData.canLay0]; exact b2, by simp only [pyP, PyData.depth]; omega⟩
        · cases h
      · cases h
abbrev rEqA (K : PySem.W.Frag) : R2 := fun x y H Q => rEq x y H Q ∨ rEqD K x y H Q
abbrev rNeA (K : PySem.W.Frag) : R2 := fun x y H Q => rNe x y H Q ∨ rNeD K x y H Q
theorem eqG {ρ : List Addr} {S : Store} {H : Hp} (rs : RS X.K T ρ S H) {x y : D} {v w : V} (rx : RD X.K ρ H x v) (ry : RD X.K ρ H y w) : oEqG x y S = .bad ∨ ∃ p q, oEqG x y S = .ok (.bl (P.eqv p q)) S ∧ Dp X.K H v (pyP p) ∧ Dp X.K H w (pyP q) ∧ SeqAt.shaped (pyP p) = true ∧ SeqAt.shaped (pyP q) = true := by
  unfold oEqG
  cases e1 : toP S 60 x with
  | none => exact .inl rfl
  | some p =>
    cases e2 : toP S 60 y with
    | none => exact .inl rfl
    | some q =>
      obtain ⟨a1, a2, a3⟩ := toP_dp rs 60 x p v e1 rx
      obtain ⟨b1, b2, b3⟩ := toP_dp rs 60 y q w e2 ry
      exact .inr ⟨p, q, rfl, a1, b1, by unfold SeqAt.shaped; rw [a2, decide_eq_true (by omega)]; rfl, by unfold SeqAt.shaped; rw [b2, decide_eq_true (by omega)]; rfl⟩
/-- what oEq tells of two values: scalars side by side, or data -/
theorem eqA {ρ : List Addr} {S : Store} {H : Hp} (rs : RS X.K T ρ S H) {x y : D} {v w : V} (rx : RD X.K ρ H x v) (ry : RD X.K ρ H y w) :
    oEq x y S = .bad ∨ (∃ k, oEq x y S = .ok (.bl k) S ∧ scal v w = true ∧ k = decide (v = w)) ∨ ∃ p q, oEq x y S = .ok (.bl (P.eqv p q)) S ∧ Dp X.K H v (pyP p) ∧ Dp X.K H w (pyP q) ∧ SeqAt.shaped (pyP p) = true ∧ SeqAt.shaped (pyP q) = true := by
  have g := eqG rs rx ry
  have gg : oEq x y S = oEqG x y S → _ := fun e => by
    rw [← e] at g
    exact (g.elim .inl fun z => .inr (.inr z) : oEq x y S = .bad ∨ (∃ k, oEq x y S = .ok (.bl k) S ∧ scal v w = true ∧ k = decide (v = w)) ∨ ∃ p q, oEq x y S = .ok (.bl (P.eqv p q)) S ∧ Dp X.K H v (pyP p) ∧ Dp X.K H w (pyP q) ∧ SeqAt.shaped (pyP p) = true ∧ SeqAt.shaped (pyP q) = true)
  cases x with
  | non =>
    have e1 := rx.non; subst e1
    cases y with
    | non => have e2 := ry.non; subst e2; exact .inr (.inl ⟨_, rfl, rfl, rfl⟩)
    | int j => have e2 := ry.int; subst e2; exact .inr (.inl ⟨_, rfl, rfl, rfl⟩)
    | bl j => have e2 := ry.bl; subst e2; exact .inr (.inl ⟨_, rfl, rfl, rfl⟩)
    | str j => have e2 := ry.str; subst e2; exact .inr (.inl ⟨_, rfl, rfl, rfl⟩)
    | _ => exact gg rfl
  | int i =>
    have e1 := rx.int; subst e1
    cases y with
    | non => have e2 := ry.non; subst e2; exact .inr (.inl ⟨_, rfl, rfl, rfl⟩)
    | int j => have e2 := ry.int; subst e2; exact .inr (.inl ⟨_, rfl, rfl, dec_int.symm⟩)
    | str j => have e2 := ry.str; subst e2; exact .inr (.inl ⟨_, rfl, rfl, rfl⟩)
    | _ => exact gg rfl
  | bl i =>
    have e1 := rx.bl; subst e1
    cases y with
    | non => have e2 := ry.non; subst e2; exact .inr (.inl ⟨_, rfl, rfl, rfl⟩)
    | bl j => have e2 := ry.bl; subst e2; exact .inr (.inl ⟨_, rfl, rfl, dec_bl.symm⟩)
    | str j => have e2 := ry.str; subst e2; exact .inr (.inl ⟨_, rfl, rfl, rfl⟩)
    | _ => exact gg rfl
  | str i =>
    have e1 := rx.str; subst e1
    cases y with
    | non => have e2 := ry.non; subst e2; exact .inr (.inl ⟨_, rfl, rfl, rfl⟩)
    | int j => have e2 := ry.int; subst e2; exact .inr (.inl ⟨_, rfl, rfl, rfl⟩)
    | bl j => have e2 := ry.bl; subst e2; exact .inr (.inl ⟨_, rfl, rfl, rfl⟩)
    | str j => have e2 := ry.str; subst e2; exact .inr (.inl ⟨_, rfl, rfl, dec_str.symm⟩)
    | _ => exact gg rfl
  | _ => cases y <;> exact gg rfl
theorem os_eq {k : Nat} (hr : Room k X.A) : OpR X (compareOp .Eq) (rEqA X.K) ∧ OpS X T (rEqA X.K) oEq := by
  refine ⟨OpR.or op_eq (op_eqD hr.units), ?_⟩
  intro E ρ S H x y v w Q rs rx ry h
  rcases eqA rs rx ry with e | ⟨k, e, hs, hk⟩ | ⟨p, q, e, d1, d2, s1, s2⟩
  · rw [e] at h; exact (show False from h).elim
  · rw [e] at h
    refine .inl ⟨hs, ?_⟩
    rw [← hk]
    exact h ρ H _ (Le.refl _ _) rs rd_bl
  · rw [e] at h
    refine .inr ⟨_, _, d1, d2, s1, s2, ?_⟩
    rw [eqv_py]
    exact h ρ H _ (Le.refl _ _) rs rd_bl
theorem os_ne {k : Nat} (hr : Room k X.A) : OpR X (compareOp .NotEq) (rNeA X.K) ∧ OpS X T (rNeA X.K) oNe := by
  refine ⟨OpR.or op_ne (op_neD hr.units), ?_⟩
  intro E ρ S H x y v w Q rs rx ry h
  unfold oNe notR at h
  rcases eqA rs rx ry with e | ⟨k, e, hs, hk⟩ | ⟨p, q, e, d1, d2, s1, s2⟩
  · rw [e] at h; exact (show False from h).elim
  · rw [e] at h
    refine .inl ⟨hs, ?_⟩
    rw [← hk]
    exact h ρ H _ (Le.refl _ _) rs rd_bl
  · rw [e] at h
    refine .inr ⟨_, _, d1, d2, s1, s2, ?_⟩
    rw [eqv_py]
    exact h ρ H _ (Le.refl _ _) rs rd_bl

/-! ### in -/
theorem flat_v {K : PySem.W.Frag} {ρ : List Addr} {H : Hp} {x : D} {v : V} (r : RD K ρ H x v) (f : flatD x = true) : flatV v = true := by
  cases x with
  | non => rw [r.non]; rfl
  | bl b => rw [r.bl]; rfl
  | int b => rw [r.int]; rfl
  | str b => rw [r.str]; rfl
  | _ => exact Bool.noConfusion (show false = true from f)
theorem eqF_v {K : PySem.W.Frag} {ρ : List Addr} {H : Hp} {x y : D} {v w : V} (r : RD K ρ H x v) (q : RD K ρ H y w) (f : flatD x = true) (g : flatD y = true) : eqV v w = eqF x y := by
  cases x with
  | non =>
    rw [r.non]
    cases y with
    | non => rw [q.non]; rfl
    | bl b => rw [q.bl]; rfl
    | int b => rw [q.int]; rfl
    | str b => rw [q.str]; rfl
    | _ => exact Bool.noConfusion (show false = true from g)
  | bl b =>
    rw [r.bl]
    cases y with
    | non => rw [q.non]; rfl
    | bl b => rw [q.bl]; rfl
    | int b => rw [q.int]; rfl
    | str b => rw [q.str]; rfl
    | _ => exact Bool.noConfusion (show false = true from g)
  | int b =>
    rw [r.int]
    cases y with
    | non => rw [q.non]; rfl
    | bl b => rw [q.bl]; rfl
    | int b => rw [q.int]; rfl
    | str b => rw [q.str]; rfl
    | _ => exact Bool.noConfusion (show false = true from g)
  | str b =>
    rw [r.str]
    cases y with
    | non => rw [q.non]; rfl
    | bl b => rw [q.bl]; rfl
    | int b => rw [q.int]; rfl
    | str b => rw [q.str]; rfl
    | _ => exact Bool.noConfusion (show false = true from g)
  | _ => exact Bool.noConfusion (show false = true from f)
theorem flat_all {K : PySem.W.Frag} {ρ : List Addr} {H : Hp} : ∀ {xs : List D} {vs : List V}, RDs K ρ H xs vs → xs.all flatD = true → vs.all flatV = true
  | [], vs, h, _ => by unfold RDs at h; subst h; rfl
  | d :: ds, vs, h, f => by
    unfold RDs at h
    obtain ⟨v, r, rfl, h1, h2⟩ := h
    rw [List.all_cons, Bool.and_eq_true] at f
    rw [List.all_cons, flat_v h1 f.1, flat_all h2 f.2]; rfl
theorem inF_v {K : PySem.W.Frag} {ρ : List Addr} {H : Hp} {x : D} {v : V} (r : RD K ρ H x v) (f : flatD x = true) : ∀ {xs : List D} {vs : List V}, RDs K ρ H xs vs → xs.all flatD = true → inV v vs = inF x xs
  | [], vs, h, _ => by unfold RDs at h; subst h; rfl
  | d :: ds, vs, h, g => by
    unfold RDs at h
    obtain ⟨w, q, rfl, h1, h2⟩ := h
    rw [List.all_cons, Bool.and_eq_true] at g
    have e := inF_v r f h2 g.2
    unfold inV inF at e ⊢
    rw [List.any_cons, List.any_cons, eqF_v h1 r g.1 f, e]
theorem inL_s {E : XK} {neg : Bool} {ρ : List Addr} {S : Store} {H : Hp} {x : D} {xs : List D} {v : V} {p : Addr} {vs : List V} {Q : VK} {o : Res D} (rs : RS X.K T ρ S H) (rx : RD X.K ρ H x v) (hs : SqL X.K H p vs ∨ SqT X.K H p vs) (ry : RDs X.K ρ H xs vs)
    (he : o = if neg then notR (oInL xs x S) else oInL xs x S) (h : Post X.K X.mg T E ρ H (RD X.K) Q o) : rIn X.K neg v (.ref p) H Q := by
  subst he
  unfold oInL at h
  by_cases c : (flatD x && xs.all flatD) = true
  · rw [if_pos c] at h
    rw [Bool.and_eq_true] at c
    refine ⟨p, vs, rfl, hs, flat_v rx c.1, flat_all ry c.2, ?_⟩
    rw [inF_v rx c.1 ry c.2]
    cases neg with
    | true => exact h ρ H _ (Le.refl _ _) rs rd_bl
    | false => exact h ρ H _ (Le.refl _ _) rs rd_bl
  · rw [if_neg c] at h
    cases neg <;> exact (show False from h).elim
theorem os_inS : OpR X (compareOp .In) (rIn X.K false) ∧ OpS X T (rIn X.K false) oInS := by
  refine ⟨op_in_seq, ?_⟩
  intro E ρ S H x y v w Q rs rx ry h
  cases y with
  | tup xs =>
    obtain ⟨a, vs, rfl, ta, ra⟩ := ry.tup
    exact inL_s (neg := false) rs rx (.inr ta.sq) ra rfl h
  | ref l =>
    unfold oInS at h
    dsimp only at h
    split at h
    · rename_i xs e
      obtain ⟨p, vs, rfl, hp, hv, ra, za⟩ := rs.lstAt ry e
      exact inL_s (neg := false) rs rx (.inl (SqL.of hv)) ra rfl h
    · exact (show False from h).elim
  | _ => exact (show False from h).elim
theorem os_ninS : OpR X (compareOp .NotIn) (rIn X.K true) ∧ OpS X T (rIn X.K true) oNinS := by
  refine ⟨op_notIn_seq, ?_⟩
  intro E ρ S H x y v w Q rs rx ry h
  cases y with
  | tup xs =>
    obtain ⟨a, vs, rfl, ta, ra⟩ := ry.tup
    exact inL_s (neg := true) rs rx (.inr ta.sq) ra rfl h
  | ref l =>
    unfold oNinS oInS at h
    dsimp only at h
    split at h
    · rename_i xs e
      obtain ⟨p, vs, rfl, hp, hv, ra, za⟩ := rs.lstAt ry e
      exact inL_s (neg := true) rs rx (.inl (SqL.of hv)) ra rfl h
    · exact (show False from h).elim
  | _ => exact (show False from h).elim

/-! ### places -/
theorem ixN_eq (n : Nat) (i : Int) : Wk.ixN n i = L2.ixN n i := rfl
theorem atI_d {K : PySem.W.Frag} {ρ : List Addr} {H : Hp} {ds : List D} {vs : List V} {i : Int} {d : D} (r : RDs K ρ H ds vs) (h : Wk.atI ds i = some d) : ∃ v, L2.atI vs i = some v ∧ RD K ρ H d v := by
  unfold Wk.atI at h
  unfold L2.atI
  rw [r.len] at h
  cases e : Wk.ixN vs.length i with
  | none => rw [e] at h; cases h
  | some j =>
    rw [e] at h
    rw [← ixN_eq, e]
    exact Paired.get1 r.pair h
theorem os_ix : IxR X (rIx X.K) ∧ OpS X T (rIx X.K) oIx := by
  refine ⟨ix_seq, ?_⟩
  intro E ρ S H x y v w Q rs rx ry h
  cases y with
  | int i =>
    have e2 := ry.int; subst e2
    cases x with
    | tup ds =>
      obtain ⟨a, vs, rfl, ta, ra⟩ := rx.tup
      unfold oIx at h
      dsimp only at h
      split at h
      · rename_i d e
        obtain ⟨u, hu, ru⟩ := atI_d ra e
        exact .inr (.inl ⟨a, vs, i, u, rfl, rfl, ta.sq, hu, h ρ H _ (Le.refl _ _) rs ru⟩)
      · exact (show False from h).elim
    | frz ds =>
      obtain ⟨a, vs, rfl, ta, ra⟩ := rx.frz
      unfold oIx at h
      dsimp only at h
      split at h
      · rename_i d e
        obtain ⟨u, hu, ru⟩ := atI_d ra e
        exact .inl ⟨a, vs, i, u, rfl, rfl, ta.sq, hu, h ρ H _ (Le.refl _ _) rs ru⟩
      · exact (show False from h).elim
    | ref l =>
      unfold oIx at h
      dsimp only at h
      split at h
      · rename_i ds e0
        obtain ⟨p, vs, rfl, hp, hv, ra, za⟩ := rs.lstAt rx e0
        split at h
        · rename_i d e
          obtain ⟨u, hu, ru⟩ := atI_d ra e
          exact .inl ⟨p, vs, i, u, rfl, rfl, SqL.of hv, hu, h ρ H _ (Le.refl _ _) rs ru⟩
        · exact (show False from h).elim
      · exact (show False from h).elim
    | _ => exact (show False from h).elim
  | _ => exact (show False from h).elim
end
end Wk


set_option Elab.async false
set_option linter.all false
set_option maxRecDepth 100000
set_option maxHeartbeats 4000000
set_option autoImplicit false
/-! WkIter: enumerate over a tuple, a list or a tuple walked; functional readings of what is walked. -/
namespace PySem
open Sem (wp)
theorem wk_meets_enum {v : Value} {o : Obj} {H : Heap → Prop} (B : Begins v o H) :
    Meets (Builtin.«enumerate.__new__» ⟨[.type "enumerate", v], []⟩) (fun _ R s => H s.heap ∧
      R (.ok (.ret (.ref (s.heap.push o).objs.size))) { s with heap := (s.heap.push o).push { cls := .type "enumerate", data := .fields #[.none, .bool false, .ref s.heap.objs.size, rawInt 0, .none, .none] } }) :=
  .of_wp fun prog w A R s h => by
    obtain ⟨hp, g, d, tk, os⟩ := s; obtain ⟨h1, h⟩ := h
    have hsub := sub_enumerate
    have q1 : ∀ {A' : Around} {E : Value → Shared → Prop} {Q : Value → Shared → Prop}, Q (.ref hp.objs.size) ⟨hp.push o, g, d, tk, os⟩ → wpAny (model prog w) A' (pyIter v) Q E ⟨hp, g, d, tk, os⟩ :=
      fun q => B.iter prog w _ _ ⟨hp, g, d, tk, os⟩ _ h1 q
    wp_walk using q1
    refine wpAny_stack_any fun st => wpAny_pure ?_
    split
    · rename_i c _ _ _ _ _
      cases (c == Value.type "enumerate")
      · wp_walk using q1
        exact ⟨_, rfl, h⟩
      · wp_walk using q1
        exact ⟨_, rfl, h⟩
    · wp_walk using q1
      exact ⟨_, rfl, h⟩
section
variable {prog : Program} {w : World} {A : Around} {E : Value → Shared → Prop} {s : Shared}
theorem wk_enum_begins {v : Value} {o : Obj} {H : Heap → Prop} {Q : Value → Shared → Prop} (B : Begins v o H) (h1 : H s.heap)
    (h : ∀ h', IsEnum h' (s.heap.objs.size + 1) s.heap.objs.size 0 .none → h'.get? s.heap.objs.size = some o → h'.objs.size = s.heap.objs.size + 2 →
      (∀ b o, s.heap.get? b = some o → h'.get? b = some o) → Q (.ref (s.heap.objs.size + 1)) { s with heap := h' }) :
    wpAny (model prog w) A (call (.type "enumerate") [v]) Q E s := by
  refine callType_new F.called_enumerate (by decide) (F.typeCall_enumerate_1 _) (F.newCall_enumerate_1 _) (fun obj => F.args_object_init_2 obj _) F.entry_enumerate_new
    (wk_meets_enum B) ⟨h1, ?_⟩
  have hz : (s.heap.push o).objs.size = s.heap.objs.size + 1 := Heap.size_push ..
  show _ ∧ _
  rw [hz]
  have he : IsEnum ((s.heap.push o).push { cls := .type "enumerate", data := .fields #[.none, .bool false, .ref s.heap.objs.size, rawInt 0, .none, .none] }) (s.heap.objs.size + 1) s.heap.objs.size 0 .none := by
    have := Heap.get?_push_size (s.heap.push o) (o := { cls := .type "enumerate", data := .fields #[.none, .bool false, .ref s.heap.objs.size, rawInt 0, .none, .none] }) rfl
    rw [hz] at this; exact this
  refine ⟨⟨_, he, rfl⟩, h _ he (Heap.get?_push_of_some _ (Heap.get?_push_size _ B.free)) (by rw [Heap.size_push, hz]) fun b o x => Heap.get?_push_of_some _ (Heap.get?_push_of_some _ x)⟩
end
end PySem

namespace L2
open PySem PySem.Spec PyProof.Rows
/-- the tuple at a, each item in a new pair -/
def IteT (K : PySem.W.Frag) (a : Addr) : It :=
  ⟨fun i H => ∃ (xs : List V) (x : V), SqT K H a xs ∧ xs[i]? = some x, fun i H v H' => ∃ T x, v = .ref T ∧ H T = none ∧ H' = upd H T (.tup [.int (i : Nat), x]) ∧ ∀ xs, SqT K H a xs → xs[i]? = some x, fun i H => ∃ xs : List V, SqT K H a xs ∧ xs.length ≤ i⟩
theorem turn_enumT {P : Program} {w : World} {K : PySem.W.Frag} {elts : List Expr} {kk : Nat} {tpos : Pos} (a e it : Addr) :
    Turn P w K (.Tuple elts kk tpos) (IteT K a) [e, it] e (fun i h => (∃ old, IsEnum h e it ((i : Nat) : Int) old) ∧ h.IsTupleIter it a i ∧ e ≠ it ∧ a ≠ it ∧ a ≠ e) where
  mem := by simp
  obj := fun i h st b hb => by
    obtain ⟨⟨old, he⟩, ⟨o, ho, hc, hd⟩, _⟩ := st
    have e' : b = e ∨ b = it := by simpa using hb
    rcases e' with z | z
    · rw [z]; exact ⟨_, he, fun v q => nomatch q⟩
    · rw [z]; exact ⟨o, ho, fun v q => by rw [hd] at q; cases q⟩
  keep := fun i h h' st k => let ⟨⟨old, he⟩, hi, hne⟩ := st; ⟨⟨old, k e (by simp) _ he⟩, hi.at fun o q => k it (by simp) o q, hne⟩
  item := by
    intro X hP hw hK hc i pins s σ H E I hf st hg
    subst hP hw hK
    obtain ⟨⟨old, he⟩, hit, hne, hai, hae⟩ := st
    obtain ⟨xs, x, hq, hx⟩ := hg
    obtain ⟨its, rv, p, hz⟩ := I.tuple hq
    obtain ⟨u, hu, ru⟩ := rv.get hx
    have hel : e < s.heap.objs.size := Heap.lt_size he
    have hil : it < s.heap.objs.size := by obtain ⟨_, q, _⟩ := hit; exact Heap.lt_size q
    have hlt : i < its.toArray.size := by
      have := (List.getElem?_eq_some_iff.mp hu).1
      simpa using this
    refine wpAny_pyNext_enum_itemC (Draws.tuple (A := X.A.in1) (I.ok.hd hc) it a hai its.toArray) he ⟨hit, (show s.heap.IsTuple a its.toArray from p)⟩ hlt hne (by simp; exact ⟨hne, Ne.symm hae⟩) fun x' h' tk hPx ho hst' hT hsz hk => ?_
    have ex : x' = u := by
      have h1 : its.toArray[i]? = some x' := hPx
      have h2 : its.toArray[i]? = some u := by simpa using hu
      rw [h1] at h2; exact Option.some.inj h2
    subst ex
    refine ⟨_, rfl, wpAny_letOwnedTupleGo_enum (s := { s with heap := h', toks := tk + 1 }) ho fun h'' he' sb => ?_⟩
    have hT2 : h''.get? s.heap.objs.size = some { cls := .type "tuple", data := .seq #[.int i tk, x'] } := (sb.2 _ (Nat.ne_of_gt hel)).trans hT
    have new : ObjOk X.prog X.w (upd H s.heap.objs.size (.tup [.int (i : Nat), x])) h'' s.heap.objs.size (.tup [.int (i : Nat), x]) :=
      ⟨by show 2 ≤ sizeLine; decide, [.int i tk, x'], .cons ⟨_, rfl⟩ (.cons ru .nil), ⟨_, hT2, rfl, _, rfl⟩⟩
    have I1 : Inv X pins σ (upd H s.heap.objs.size (.tup [.int (i : Nat), x])) { s with heap := h'', toks := tk + 1 } :=
      I.turnedNew (ch := [e, it]) (fun b ob hb q => (sb.2 b (fun z => hb (by simp [z]))).trans (hk b ob (fun z => hb (by simp [z])) (fun z => hb (by simp [z])) q)) hf (Nat.le_refl _) new
    refine ⟨.ref s.heap.objs.size, _, I1, rfl, ⟨_, x, rfl, I.hok.fresh (Nat.le_refl _), rfl, fun ys hy => by rw [I.tuple_inj hy hq]; exact hx⟩, ⟨⟨x', ?_⟩, hst'.1.at fun o q => (sb.2 it (Ne.symm hne)).trans q, hne, hai, hae⟩, fun b hb => ?_⟩
    · have e1 : ((i + 1 : Nat) : Int) = (i : Int) + 1 := by omega
      rw [e1]; exact he'
    · have hb' : b < s.heap.objs.size := by
        have e' : b = e ∨ b = it := by simpa using hb
        rcases e' with z | z
        · rw [z]; exact hel
        · rw [z]; exact hil
      rw [upd_ne (Nat.ne_of_lt hb')]
      exact (hf b hb).1
  done := by
    intro X hP hw hK hc i pins s σ H E I hf st hg
    subst hP hw hK
    obtain ⟨⟨old, he⟩, hit, hne, hai, hae⟩ := st
    obtain ⟨xs, hq, hx⟩ := hg
    obtain ⟨its, rv, p, hz⟩ := I.tuple hq
    obtain ⟨f0, f1, f2, f3, f4, f5⟩ := hf it (by simp)
    have hl := rv.length
    have hT : s.TypeIs (.ref e) "enumerate" := ⟨_, he, rfl⟩
    unfold pyNext
    refine wpAny_bind (wpAny_attempt (wpAny_callSpecial?_slot (name := Str.ofString "__next__") hT F.slot_enumerate_next
      (wpAny_call_entry F.slot_enumerate_next hT F.entry_enumerate_next ?_ (F.args_enumerate_next_1 _))))
    show wpAny _ _ (field (.ref e) 2 >>= _) _ _ _
    refine wpAny_bind (wpAny_field he rfl (x := .ref it) rfl ?_)
    refine wpAny_bind (wpAny_nextOf_tuple_end (I.ok.hd hc) hit (show s.heap.IsTuple a its.toArray from p) (by simp; omega) fun h' x he' hx' => ?_)
    obtain ⟨o, ho, hc'⟩ := hx'
    refine wpAny_bind (wpAny_isInstance (T := "StopIteration") (b := true) ⟨o, ho, hc'⟩ isSubtype_stop ?_)
    exact wpAny_pure ⟨rfl, I.turned (t' := s.toks) (fun b o hb q => he' b o hb q) f0 f1 f3 f4 f5⟩
  self := fun A i s Q E st h => let ⟨⟨_, he⟩, _⟩ := st; wpAny_pyIter_enum he h
/-- enumerate(x), x a list or a tuple -/
def iEnumA (K : PySem.W.Frag) (ta : TA) : TI := fun σ H R => ta σ H fun vs H1 => (∃ a xs, vs = [.ref a] ∧ SqL K H1 a xs ∧ R (Ite K a) H1) ∨ (∃ a xs, vs = [.ref a] ∧ SqT K H1 a xs ∧ R (IteT K a) H1)
theorem pi_enumA {X : Cx} {e : Expr} {ta : TA} {p pos tpos : Pos} {elts : List Expr} {kk : Nat} (hg : Gl X "enumerate") (hm : X.mg "enumerate" = none) (ha : PA X [e] ta) (hs : starEach [e] X.env = [(false, eval e X.env)] := by rfl) :
    PI X (.Tuple elts kk tpos) (.Call (.Name "enumerate" p) [e] [] pos) (iEnumA X.K ta) := by
  refine ⟨fun pins s σ H R I h => ?_⟩
  refine Call_ (ld_blt I hg hm boot_enumerate (PyProof.Rows.callWith_type1 (thn (ha.run pos pins s σ H _ I h) fun us s1 ⟨vs, H1, I1, r1, q1⟩ => ?_) hs rfl))
  rcases q1 with ⟨a, xs, ex, hq, q⟩ | ⟨a, xs, ex, hq, q⟩
  · subst ex
    cases r1 with
    | cons r rr =>
      cases rr
      cases r
      obtain ⟨its, rv, p', hz⟩ := I1.list hq
      refine call_enumerate_list p'.isList fun h' he hit hsz hk => wpAny_pyIter_enum he ?_
      have I2 : Inv X pins σ H1 { s1 with heap := h' } := I1.kept (t' := s1.toks) hk
      refine ⟨s1.heap.objs.size + 1, [s1.heap.objs.size + 1, s1.heap.objs.size], _, _, H1, rfl, I2, turn_enum a (s1.heap.objs.size + 1) s1.heap.objs.size, ⟨⟨.none, he⟩, hit, Nat.succ_ne_self _⟩, fun b hb => ?_, q⟩
      have e' : b = s1.heap.objs.size + 1 ∨ b = s1.heap.objs.size := by simpa using hb
      have hle : s1.heap.objs.size ≤ b := by
        rcases e' with z | z
        · rw [z]; exact Nat.le_add_right _ _
        · rw [z]; exact Nat.le_refl _
      exact I1.fpOk hle (I1.hok.fresh hle)
  · subst ex
    cases r1 with
    | cons r rr =>
      cases rr
      cases r
      obtain ⟨its, rv, p', hz⟩ := I1.tuple hq
      have hal : a < s1.heap.objs.size := p'.lt
      refine wk_enum_begins (begins_tuple a its.toArray) (show s1.heap.IsTuple a its.toArray from p') fun h' he hit hsz hk => wpAny_pyIter_enum he ?_
      have I2 : Inv X pins σ H1 { s1 with heap := h' } := I1.kept (t' := s1.toks) hk
      refine ⟨s1.heap.objs.size + 1, [s1.heap.objs.size + 1, s1.heap.objs.size], _, _, H1, rfl, I2, turn_enumT a (s1.heap.objs.size + 1) s1.heap.objs.size, ⟨⟨.none, he⟩, ⟨_, hit, rfl, rfl⟩, Nat.succ_ne_self _, Nat.ne_of_lt hal, Nat.ne_of_lt (Nat.lt_succ_of_lt hal)⟩, fun b hb => ?_, q⟩
      have e' : b = s1.heap.objs.size + 1 ∨ b = s1.heap.objs.size := by simpa using hb
      have hle : s1.heap.objs.size ≤ b := by
        rcases e' with z | z
        · rw [z]; exact Nat.le_add_right _ _
        · rw [z]; exact Nat.le_refl _
      exact I1.fpOk hle (I1.hok.fresh hle)
/-- a list or a tuple walked -/
def iSeqA (K : PySem.W.Frag) (tl : TE) : TI := fun σ H R => tl σ H fun x H1 => ∃ a, x = .ref a ∧ ((∃ xs, SqL K H1 a xs ∧ R (Itl K a) H1) ∨ (∃ xs, SqT K H1 a xs ∧ R (Itt K a) H1))
theorem pi_seqA {X : Cx} {tg l : Expr} {tl : TE} (hl : PE X l tl) : PI X tg l (iSeqA X.K tl) := by
  refine ⟨fun pins s σ H R I h => ?_⟩
  refine thn (hl.run pins s σ H _ I h) fun v s1 ⟨x, H1, I1, r1, q1⟩ => ?_
  obtain ⟨a, e, q1⟩ := q1
  subst e
  cases r1
  rcases q1 with ⟨xs, hq, q⟩ | ⟨xs, hq, q⟩
  · obtain ⟨its, rv, p, hz⟩ := I1.list hq
    refine wpAny_pyIter_list p.isList ?_
    refine ⟨s1.heap.objs.size, [s1.heap.objs.size], _, _, H1, rfl, I1.kept (t' := s1.toks) fun b o e => Heap.get?_push_of_some _ e, turn_list a _, ⟨_, Heap.get?_push_size _ rfl, rfl, rfl⟩, fun b hb => ?_, q⟩
    have e : b = s1.heap.objs.size := by simpa using hb
    subst e
    exact I1.fpOk (Nat.le_refl _) (I1.hok.fresh (Nat.le_refl _))
  · obtain ⟨its, rv, p, hz⟩ := I1.tuple hq
    refine wpAny_pyIter_tuple (show s1.heap.IsTuple a its.toArray from p) ?_
    refine ⟨s1.heap.objs.size, [s1.heap.objs.size], _, _, H1, rfl, I1.kept (t' := s1.toks) fun b o e => Heap.get?_push_of_some _ e, turn_tuple a _, ⟨_, Heap.get?_push_size _ rfl, rfl, rfl⟩, fun b hb => ?_, q⟩
    have e : b = s1.heap.objs.size := by simpa using hb
    subst e
    exact I1.fpOk (Nat.le_refl _) (I1.hok.fresh (Nat.le_refl _))
end L2

namespace Wk
open PySem PySem.Spec PyProof.Rows L2
/-- how the machine's walk stands to the items -/
def ItOk (K : PySem.W.Frag) (T : Tbs) (ρ : List Addr) (H : Hp) (I : Wk.Its) (J : L2.It) : Prop :=
  I.items.length ≤ sizeLine ∧ ∀ ρ' S' H', Le ρ H ρ' H' → RS K T ρ' S' H' → okC I.chk S' = true →
    (∀ (i : Nat) (d : D), I.items[i]? = some d → J.go i H' ∧ ∀ x H'', J.yld i H' x H'' → Le ρ' H' ρ' H'' ∧ RS K T ρ' S' H'' ∧ RD K ρ' H'' d x) ∧ J.stop I.items.length H'
section
variable (X : Cx) (T : Tbs) (W : WX)
def TIf (f : FI) : TI := fun σ H R => ∃ ρ S s, RS X.K T ρ S H ∧ RE X.K ρ H s σ ∧ Post X.K X.mg T (WE W σ) ρ H (ItOk X.K T) R (f s S)
abbrev EI (tg e : Expr) (f : FI) : Prop := PI X tg e (TIf X T W f)
end
theorem PI.imp {X : Cx} {tg e : Expr} {t t' : TI} (h : PI X tg e t) (i : ∀ σ H Q, t' σ H Q → t σ H Q) : PI X tg e t' := ⟨fun pins s σ H Q I q => h.run pins s σ H Q I (i σ H Q q)⟩
theorem okC_cons {c : Chk} {S : Store} {i : Nat} {o : Ob} (h : okC ((i, o) :: c) S = true) : S[i]? = some o ∧ okC c S = true := by
  unfold okC at h ⊢
  rw [List.all_cons, Bool.and_eq_true] at h
  exact ⟨of_decide_eq_true h.1, h.2⟩
section
variable {X : Cx} {T : Tbs} {W : WX} {pos : Pos} {tg : Expr} {e e2 : Expr} {f g : FE} {ρ : List Addr} {S : Store} {H : Hp}
/-- the list at l, kept, walked -/
theorem itok_list {l : Nat} {a : Addr} {ds : List D} (rs : RS X.K T ρ S H) (ha : ρ[l]? = some a) (hs : S[l]? = some (.lst ds)) : ItOk X.K T ρ H ⟨ds, [(l, .lst ds)]⟩ (Itl X.K a) := by
  refine ⟨?_, fun ρ' S' H' le rs' ok => ?_⟩
  · obtain ⟨_, vs, e, _, hv, ra, za⟩ := rs.lstAt (rd_ref ha) hs
    rw [show ds.length = vs.length from ra.len]; exact za
  obtain ⟨hs', _⟩ := okC_cons ok
  obtain ⟨b, vs, e, hb, hv, ra, za⟩ := rs'.lstAt (rd_ref (le.get ha)) hs'
  cases e
  refine ⟨fun i d hd => ?_, ⟨vs, SqL.of hv, by rw [ra.len]; exact Nat.le_refl _⟩⟩
  obtain ⟨v, hv', rv⟩ := Paired.get1 ra.pair hd
  refine ⟨⟨vs, v, SqL.of hv, hv'⟩, fun x H'' y => ?_⟩
  obtain ⟨e, y⟩ := y
  subst e
  have := y vs (SqL.of hv)
  rw [hv'] at this; cases this
  exact ⟨Le.refl _ _, rs', rv⟩
theorem itok_frz {a : Addr} {ds : List D} {vs : List V} (rs : RS X.K T ρ S H) (ha : FrzAt X.K H a vs) (ra : RDs X.K ρ H ds vs) : ItOk X.K T ρ H ⟨ds, []⟩ (Itl X.K a) := by
  refine ⟨by rw [show ds.length = vs.length from ra.len]; exact ha.1, fun ρ' S' H' le rs' ok => ?_⟩
  have ha' := ha.mono le rs.nofz
  have ra' := ra.le rs le
  refine ⟨fun i d hd => ?_, ⟨vs, ha'.sq, by rw [ra.len]; exact Nat.le_refl _⟩⟩
  obtain ⟨v, hv', rv⟩ := Paired.get1 ra'.pair hd
  refine ⟨⟨vs, v, ha'.sq, hv'⟩, fun x H'' y => ?_⟩
  obtain ⟨e, y⟩ := y
  subst e
  have := y vs ha'.sq
  rw [hv'] at this; cases this
  exact ⟨Le.refl _ _, rs', rv⟩
theorem itok_tup {a : Addr} {ds : List D} {vs : List V} (rs : RS X.K T ρ S H) (ha : TupAt X.K H a vs) (ra : RDs X.K ρ H ds vs) : ItOk X.K T ρ H ⟨ds, []⟩ (Itt X.K a) := by
  refine ⟨by rw [show ds.length = vs.length from ra.len]; exact ha.1, fun ρ' S' H' le rs' ok => ?_⟩
  have ha' := ha.mono le
  have ra' := ra.le rs le
  refine ⟨fun i d hd => ?_, ⟨vs, ha'.sq, by rw [ra.len]; exact Nat.le_refl _⟩⟩
  obtain ⟨v, hv', rv⟩ := Paired.get1 ra'.pair hd
  refine ⟨⟨vs, v, ha'.sq, hv'⟩, fun x H'' y => ?_⟩
  obtain ⟨e, y⟩ := y
  subst e
  have := y vs ha'.sq
  rw [hv'] at this; cases this
  exact ⟨Le.refl _ _, rs', rv⟩
theorem ei_seq (h : EV X T W e f) : EI X T W tg e (iSeq f) := by
  refine PI.imp (pi_seqA h) ?_
  rintro σ H R ⟨ρ, S, s, rs, re, h⟩
  refine ⟨ρ, S, s, rs, re, (Post.bind (R := RD X.K) h).imp ?_⟩
  rintro v H1 ⟨ρ1, S1, x, l1, rs1, rd1, h1⟩
  cases x with
  | tup ds =>
    obtain ⟨a, vs, rfl, ta, ra⟩ := rd1.tup
    exact ⟨a, rfl, .inr ⟨vs, ta.sq, h1 ρ1 H1 _ (Le.refl _ _) rs1 (itok_tup rs1 ta ra)⟩⟩
  | frz ds =>
    obtain ⟨a, vs, rfl, ta, ra⟩ := rd1.frz
    exact ⟨a, rfl, .inl ⟨vs, ta.sq, h1 ρ1 H1 _ (Le.refl _ _) rs1 (itok_frz rs1 ta ra)⟩⟩
  | ref l =>
    dsimp only at h1
    split at h1
    · rename_i ds e0
      obtain ⟨a, vs, rfl, ha, hv, ra, za⟩ := rs1.lstAt rd1 e0
      exact ⟨a, rfl, .inl ⟨vs, SqL.of hv, h1 ρ1 H1 _ (Le.refl _ _) rs1 (itok_list rs1 ha e0)⟩⟩
    · exact (show False from h1).elim
  | _ => exact (show False from h1).elim
/-- enumerate: new pairs -/
theorem itok_pair {a : Addr} {ds : List D} {v : V} {T' : Addr} {ρ' : List Addr} {S' : Store} {H' : Hp} {d : D} {i : Nat} (rs' : RS X.K T ρ' S' H') (hT : H' T' = none) (rv : RD X.K ρ' H' d v) :
    Le ρ' H' ρ' (upd H' T' (.tup [.int (i : Nat), v])) ∧ RS X.K T ρ' S' (upd H' T' (.tup [.int (i : Nat), v])) ∧ RD X.K ρ' (upd H' T' (.tup [.int (i : Nat), v])) (.tup [.int i, d]) (.ref T') :=
  tup_new rs' hT (RDs.of (.cons rd_int (.cons rv .nil))) (by show 2 ≤ sizeLine; decide)
theorem enumD_get {ds : List D} {i : Nat} {x : D} (h : (enumD ds)[i]? = some x) : ∃ d, ds[i]? = some d ∧ x = .tup [.int i, d] := by
  unfold enumD at h
  rw [List.getElem?_mapIdx] at h
  cases e : ds[i]? with
  | none => rw [e] at h; cases h
  | some d => rw [e] at h; cases h; exact ⟨d, rfl, rfl⟩
theorem enumD_len (ds : List D) : (enumD ds).length = ds.length := by unfold enumD; rw [List.length_mapIdx]
theorem ei_enum {elts : List Expr} {kk : Nat} {p tpos : Pos} (hm : X.mg "enumerate" = none) (h : EV X T W e f) (hg : Gl X "enumerate" := by rfl) (hs : starEach [e] X.env = [(false, eval e X.env)] := by rfl) :
    EI X T W (.Tuple elts kk tpos) (.Call (.Name "enumerate" p) [e] [] pos) (iEnum f) := by
  refine PI.imp (pi_enumA hg hm (ea_cons h ea_nil hs) hs) ?_
  rintro σ H R ⟨ρ, S, s, rs, re, h⟩
  refine ⟨ρ, S, s, rs, re, ?_⟩
  unfold aCons aNil
  have h' := Post.bind (R := RD X.K) h
  cases er : f s S with
  | bad => rw [er] at h'; exact h'
  | ex c w S' => rw [er] at h'; exact h'
  | ok x S1 =>
    rw [er] at h'
    rw [Res.bind_ok, Res.bind_ok]
    rintro ρ1 H1 vs l1 rs1 rd1
    unfold RDs RDs at rd1
    obtain ⟨v, r, rfl, rd1, rfl⟩ := rd1
    obtain ⟨ρ2, S2, x2, l2, rs2, rd2, h1⟩ : ∃ ρ2 S2 a, Le ρ H ρ2 H1 ∧ RS X.K T ρ2 S2 H1 ∧ RD X.K ρ2 H1 a v ∧ _ := h' ρ1 H1 v l1 rs1 rd1
    cases x2 with
    | tup ds =>
      obtain ⟨a, vs, rfl, ta, ra⟩ := rd2.tup
      refine .inr ⟨a, vs, rfl, ta.sq, h1 ρ2 H1 _ (Le.refl _ _) rs2 ⟨by rw [show (Wk.Its.mk (enumD ds) []).items.length = ds.length from enumD_len ds, ra.len]; exact ta.1, fun ρ' S' H' le rs' ok => ?_⟩⟩
      have ha' := ta.mono le
      have ra' := ra.le rs2 le
      refine ⟨fun i d hd => ?_, ⟨vs, ha'.sq, by show vs.length ≤ (enumD ds).length; rw [enumD_len, ra.len]; exact Nat.le_refl _⟩⟩
      obtain ⟨d', hd', rfl⟩ := enumD_get hd
      obtain ⟨v, hv', rv⟩ := Paired.get1 ra'.pair hd'
      refine ⟨⟨vs, v, ha'.sq, hv'⟩, fun x H'' y => ?_⟩
      obtain ⟨T', x', rfl, hT, rfl, y⟩ := y
      have := y vs ha'.sq
      rw [hv'] at this; cases this
      exact itok_pair (a := a) (ds := ds) rs' hT rv
    | ref l =>
      dsimp only at h1
      split at h1
      · rename_i ds e0
        obtain ⟨a, vs, rfl, ha, hv, ra, za⟩ := rs2.lstAt rd2 e0
        refine .inl ⟨a, vs, rfl, SqL.of hv, h1 ρ2 H1 _ (Le.refl _ _) rs2 ⟨by rw [show (Wk.Its.mk (enumD ds) [(l, .lst ds)]).items.length = ds.length from enumD_len ds, ra.len]; exact za, fun ρ' S' H' le rs' ok => ?_⟩⟩
        obtain ⟨hs', _⟩ := okC_cons ok
        obtain ⟨b, vs', e, hb, hv', ra', za'⟩ := rs'.lstAt (rd_ref (le.get ha)) hs'
        cases e
        refine ⟨fun i d hd => ?_, ⟨vs', SqL.of hv', by show vs'.length ≤ (enumD ds).length; rw [enumD_len, ra'.len]; exact Nat.le_refl _⟩⟩
        obtain ⟨d', hd', rfl⟩ := enumD_get hd
        obtain ⟨v, hw', rv⟩ := Paired.get1 ra'.pair hd'
        refine ⟨⟨vs', v, SqL.of hv', hw'⟩, fun x H'' y => ?_⟩
        obtain ⟨T', x', rfl, hT, rfl, y⟩ := y
        have := y vs' (SqL.of hv')
        rw [hw'] at this; cases this
        exact itok_pair (a := a) (ds := ds) rs' hT rv
      · exact (show False from h1).elim
    | _ => exact (show False from h1).elim
theorem rngD_get {a b : Int} {i : Nat} {d : D} (h : (rngD a b)[i]? = some d) : i < (b - a).toNat ∧ d = .int (a + i) := by
  unfold rngD at h
  rw [List.getElem?_map] at h
  cases e : (List.range (b - a).toNat)[i]? with
  | none => rw [e] at h; cases h
  | some j =>
    rw [e] at h
    obtain ⟨h1, h2⟩ := List.getElem?_eq_some_iff.mp e
    rw [List.getElem_range] at h2
    rw [List.length_range] at h1
    cases h
    exact ⟨h1, by rw [← h2]⟩
theorem rngD_len (a b : Int) : (rngD a b).length = (b - a).toNat := by unfold rngD; rw [List.length_map, List.length_range]
theorem itok_rng {a b : Int} {n : Nat} (hn : n = (b - a).toNat) (hz : n ≤ sizeLine) : ItOk X.K T ρ H ⟨rngD a b, []⟩ (Itr a n) := by
  subst hn
  refine ⟨by rw [show (Wk.Its.mk (rngD a b) []).items.length = _ from rngD_len a b]; exact hz, fun ρ' S' H' le rs' ok => ⟨fun i d hd => ?_, by show (b - a).toNat ≤ (rngD a b).length; rw [rngD_len]; exact Nat.le_refl _⟩⟩
  obtain ⟨h1, rfl⟩ := rngD_get hd
  refine ⟨h1, fun x H'' y => ?_⟩
  obtain ⟨rfl, rfl⟩ := y
  exact ⟨Le.refl _ _, rs', rd_int⟩
theorem ei_rng {p : Pos} (hm : X.mg "range" = none) (h : EV X T W e f) (hg : Gl X "range" := by rfl) (hs : starEach [e] X.env = [(false, eval e X.env)] := by rfl) : EI X T W tg (.Call (.Name "range" p) [e] [] pos) (iRng f) := by
  refine PI.imp (pi_range1 hg hm (pa_cons h pa_nil hs) hs) ?_
  rintro σ H R ⟨ρ, S, s, rs, re, h⟩
  refine ⟨ρ, S, s, rs, re, (Post.bind (R := RD X.K) h).imp ?_⟩
  rintro v H1 ⟨ρ1, S1, x, l1, rs1, rd1, h1⟩
  show ∃ j : Int, [v] = [V.int j] ∧ _
  cases x with
  | int j =>
    dsimp only at h1
    by_cases hc : -(2 ^ 62) ≤ j ∧ j ≤ 16777216
    · rw [if_pos hc] at h1
      have hs := sizeLine_eq
      refine ⟨j, by rw [rd1.int], hc.1, by omega, h1 ρ1 H1 _ (Le.refl _ _) rs1 (itok_rng (by rw [Int.sub_zero]) (by omega))⟩
    · rw [if_neg hc] at h1; exact (show False from h1).elim
  | _ => exact (show False from h1).elim
theorem ei_rng2 {p : Pos} (hm : X.mg "range" = none) (h : EV X T W e f) (h2 : EV X T W e2 g) (hg : Gl X "range" := by rfl) (hs : starEach [e, e2] X.env = [(false, eval e X.env), (false, eval e2 X.env)] := by rfl) (hs2 : starEach [e2] X.env = [(false, eval e2 X.env)] := by rfl) :
    EI X T W tg (.Call (.Name "range" p) [e, e2] [] pos) (iRng2 f g) := by
  refine PI.imp (pi_range2 hg hm (pa_cons h (pa_cons h2 pa_nil hs2) (by rw [hs, hs2])) hs hs2) ?_
  rintro σ H R ⟨ρ, S, s, rs, re, h⟩
  refine ⟨ρ, S, s, rs, re, (Post.bind (R := RD X.K) h).imp ?_⟩
  rintro v H1 ⟨ρ1, S1, x, l1, rs1, rd1, h1⟩
  refine ⟨ρ1, S1, s, rs1, re.le rs l1, (Post.bind (R := RD X.K) h1).imp ?_⟩
  rintro w H2 ⟨ρ2, S2, y, l2, rs2, rd2, h2⟩
  show ∃ i j : Int, [v, w] = [V.int i, V.int j] ∧ _
  cases x with
  | int i =>
    cases y with
    | int j =>
      dsimp only at h2
      by_cases hc : -1000000 ≤ i ∧ i < 2 ^ 62 ∧ -(2 ^ 62) ≤ j ∧ j ≤ 1000000
      · rw [if_pos hc] at h2
        have hs := sizeLine_eq
        refine ⟨i, j, by rw [rd1.int, rd2.int], ⟨by omega, hc.2.1, hc.2.2.1, by omega⟩, h2 ρ2 H2 _ (Le.refl _ _) rs2 (itok_rng rfl (by omega))⟩
      · rw [if_neg hc] at h2; exact (show False from h2).elim
    | _ => exact (show False from h2).elim
  | _ => cases y <;> exact (show False from h2).elim
end
end Wk


set_option Elab.async false
set_option linter.all false
set_option maxRecDepth 100000
set_option maxHeartbeats 4000000
set_option autoImplicit false
/-! WkStm: the functional reading of targets, comprehensions, statements, loops, defs. -/
namespace Wk
open PySem PySem.Spec PyProof.Rows L2

/-! ### targets -/
theorem wipe_set {σ : L2.St} {i : Nat} {y : Option V} : ∀ {vs : List Nat}, i ∈ vs → L2.wipe (σ.set i y) vs = L2.wipe σ vs
  | [], h => by cases h
  | v :: vs, h => by
    unfold L2.wipe
    by_cases e : i ∈ vs
    · rw [wipe_set e]
    · have ev : i = v := by
        rcases List.mem_cons.mp h with z | z
        · exact z
        · exact absurd z e
      subst ev
      have key : ∀ {us : List Nat}, i ∉ us → L2.wipe (σ.set i y) us = (L2.wipe σ us).set i y := by
        intro us
        induction us with
        | nil => intro _; rfl
        | cons u us ih =>
          intro hn
          unfold L2.wipe
          rw [ih (fun z => hn (List.mem_cons_of_mem _ z)), List.set_comm _ _ (fun z => hn (by rw [z]; exact List.mem_cons_self))]
      rw [key e, List.set_set]
theorem wipe_wipe {σ : L2.St} : ∀ {vs us : List Nat}, (∀ x ∈ us, x ∈ vs) → L2.wipe (L2.wipe σ us) vs = L2.wipe σ vs
  | vs, [], _ => rfl
  | vs, u :: us, h => by
    show L2.wipe ((L2.wipe σ us).set u none) vs = _
    rw [wipe_set (h u List.mem_cons_self), wipe_wipe fun x hx => h x (List.mem_cons_of_mem _ hx)]
section
variable (X : Cx) (T : Tbs) (vs : List Nat)
/-- a target, its slots among vs -/
def TGf (g : Tg) : TG := fun v σ H Q => ∃ ρ S s d, RS X.K T ρ S H ∧ RE X.K ρ H s σ ∧ RD X.K ρ H d v ∧ match gF g d s with
  | some s' => ∀ σ', RE X.K ρ H s' σ' → L2.wipe σ' vs = L2.wipe σ vs → Q σ' H
  | none => False
def TGfs (gs : List Tg) : TGs := fun us σ H Q => ∃ ρ S s ds, RS X.K T ρ S H ∧ RE X.K ρ H s σ ∧ RDs X.K ρ H ds us ∧ match gFs gs ds s with
  | some s' => ∀ σ', RE X.K ρ H s' σ' → L2.wipe σ' vs = L2.wipe σ vs → Q σ' H
  | none => False
abbrev EG (tg : Expr) (g : Tg) : Prop := PG X tg (TGf X T vs g)
abbrev EGs (ts : List Expr) (gs : List Tg) : Prop := PGs X ts (TGfs X T vs gs)
end
theorem PG.imp {X : Cx} {tg : Expr} {t t' : TG} (h : PG X tg t) (i : ∀ v σ H Q, t' v σ H Q → t v σ H Q) : PG X tg t' := ⟨fun pins s σ H v u Q I r q => h.run pins s σ H v u Q I r (i v σ H Q q)⟩
theorem PGs.imp {X : Cx} {tg : List Expr} {t t' : TGs} (h : PGs X tg t) (i : ∀ v σ H Q, t' v σ H Q → t v σ H Q) : PGs X tg t' := ⟨fun pins s σ H v u Q I r q => h.run pins s σ H v u Q I r (i v σ H Q q)⟩
section
variable {X : Cx} {T : Tbs} {W : WX} {pos : Pos} {vs : List Nat}
theorem eg_name (i : Nat) {x : Str} (hN : X.N.Nodup) (hv : i ∈ vs := by decide) (hi : X.N[i]? = some x := by rfl) (hx : Loc X.env.scope x := by first | exact Or.inl rfl | exact Or.inr rfl) (hf : X.fn x = true ∨ X.env.scope.names.lookup x = some .local := by first | exact .inl rfl | exact .inr rfl | assumption) : EG X T vs (.Name x pos) (.nm i) := by
  refine PG.imp (pg_name hN hi hx hf) ?_
  rintro v σ H Q ⟨ρ, S, s, d, rs, re, rd, h⟩
  exact h _ (re.set i rd) (wipe_set hv)
theorem egs_nil : EGs X T vs [] [] := by
  refine PGs.imp pgs_nil ?_
  rintro v σ H Q ⟨ρ, S, s, ds, rs, re, rd, h⟩
  cases ds with
  | nil => unfold RDs at rd; subst rd; exact ⟨rfl, h _ re rfl⟩
  | cons d ds => exact (show False from h).elim
theorem egs_cons {e : Expr} {es : List Expr} {g : Tg} {gs : List Tg} (h1 : EG X T vs e g) (h2 : EGs X T vs es gs) (hs : (assignEach (e :: es) X.env).map (·.2) = assign e X.env :: (assignEach es X.env).map (·.2) := by rfl) : EGs X T vs (e :: es) (g :: gs) := by
  refine PGs.imp (pgs_cons h1 h2 hs) ?_
  rintro v σ H Q ⟨ρ, S, s, ds, rs, re, rd, h⟩
  cases ds with
  | nil => exact (show False from h).elim
  | cons d ds =>
    unfold RDs at rd
    obtain ⟨w, r, rfl, rd1, rd2⟩ := rd
    refine ⟨w, r, rfl, ρ, S, s, d, rs, re, rd1, ?_⟩
    unfold gFs at h
    cases e : gF g d s with
    | none => rw [e] at h; exact (show False from h).elim
    | some s' =>
      rw [e] at h
      intro σ' re' ew
      refine ⟨ρ, S, s', ds, rs, re', rd2, ?_⟩
      dsimp only at h ⊢
      split
      · rename_i s2 e2
        rw [e2] at h
        exact fun σ2 re2 ew2 => h σ2 re2 (ew2.trans ew)
      · rename_i e2
        rw [e2] at h
        exact h
theorem gFs_len : ∀ {gs : List Tg} {ds : List D} {s s' : Env}, gFs gs ds s = some s' → ds.length = gs.length
  | [], [], _, _, _ => rfl
  | [], _ :: _, _, _, h => by unfold gFs at h; cases h
  | _ :: _, [], _, _, h => by unfold gFs at h; cases h
  | g :: gs, d :: ds, s, s', h => by
    unfold gFs at h
    cases e : gF g d s with
    | none => rw [e] at h; cases h
    | some s1 => rw [e] at h; rw [List.length_cons, List.length_cons, gFs_len h]
theorem eg_tup {es : List Expr} {gs : List Tg} {k : Nat} {n : Nat} (hc : X.calm = true) (h : EGs X T vs es gs) (hn : (assignEach es X.env).length = n := by rfl) (hl : gs.length = n := by rfl) (hst : (assignEach es X.env).findIdx? (·.1) = none := by rfl) : EG X T vs (.Tuple es k pos) (.tp gs) := by
  refine PG.imp (pg_tup hc h hn hst) ?_
  rintro v σ H Q ⟨ρ, S, s, d, rs, re, rd, h⟩
  cases d with
  | tup ds =>
    obtain ⟨a, us, rfl, ta, ra⟩ := rd.tup
    cases e : gFs gs ds s with
    | none => rw [show gF (.tp gs) (.tup ds) s = gFs gs ds s from rfl, e] at h; exact (show False from h).elim
    | some s' =>
      refine ⟨a, us, rfl, ta.sq, by rw [← ra.len, gFs_len e, hl], ρ, S, s, ds, rs, re, ra, ?_⟩
      exact h
  | _ => exact (show False from h).elim
end

/-! ### comprehensions -/
section
variable {X : Cx} {T : Tbs} {W : WX} {pos : Pos} {vs : List Nat}
abbrev W0 : WX := fun _ _ _ _ => False
/-- the tests of a comprehension -/
abbrev ETs (X : Cx) (T : Tbs) (W : WX) (es : List Expr) (t : FT) : Prop := PTs X es (TTf X T W t)
theorem PTs.imp {X : Cx} {es : List Expr} {t t' : TT} (h : PTs X es t) (i : ∀ σ H Q, t' σ H Q → t σ H Q) : PTs X es t' := ⟨fun pins s σ H Q I q => h.run pins s σ H Q I (i σ H Q q)⟩
theorem ets_nil : ETs X T W [] tTrue := by
  refine PTs.imp pts_nil ?_
  rintro σ H Q ⟨ρ, S, s, rs, re, h⟩
  exact h ρ H _ (Le.refl _ _) rs rfl
theorem ets_one {c : Expr} {t : FT} (h : ET X T W c t) : ETs X T W [c] t := pts_one h
theorem noEx_post {K : PySem.W.Frag} {mg : Str → Option Value} {E E' : XK} {ρ : List Addr} {H : Hp} {α β : Type} {R : List Addr → Hp → α → β → Prop} {Q : β → Hp → Prop} {r : Res α} (h : Post K mg T E ρ H R Q (noEx r)) : Post K mg T E' ρ H R Q r := by
  cases r with
  | ok a S => exact h
  | ex c w S => exact (show False from h).elim
  | bad => exact h
theorem noEx_bind {α β : Type} {r : Res α} {f : α → Store → Res β} : noEx (r.bind f) = (noEx r).bind fun a S => noEx (f a S) := by cases r <;> rfl
theorem upd_twice {H : Hp} {a : Addr} {o u : HO} : upd (upd H a o) a u = upd H a u := upd_upd
/-- [elt for target in iter if ..] -/
theorem tef_comp {fi : FI} {g : Tg} {t : FT} {e : FE} : ∀ σ H Q, TEf X T W (eComp fi g t e vs) σ H Q → tLc (TIf X T W fi) (TGf X T vs g) (TTf X T W0 t) (TEf X T W0 e) vs σ H Q := by
  rintro σ H Q ⟨ρ, S, s, rs, re, h⟩
  refine ⟨ρ, S, s, rs, re, (Post.bind (R := ItOk X.K T) h).imp ?_⟩
  rintro J H1 ⟨ρ1, S1, I, l1, rs1, it, h1⟩
  intro D hD
  have re1 := re.le rs l1
  have sz := it.1
  -- the turns: i items gone, acc made
  refine ⟨fun i m H' => m = I.items.length - i ∧ i ≤ I.items.length ∧ ∃ ρ' S' acc accV, Le ρ1 H1 ρ' H' ∧ RS X.K T ρ' S' H' ∧ H' D = some (.lst accV) ∧ D ∉ ρ' ∧ RDs X.K ρ' H' acc accV ∧ accV.length ≤ i ∧
      Post X.K X.mg T (WE W σ) ρ1 H1 (RD X.K) Q ((noEx (compL I.chk g t e (wipeE s vs) (I.items.drop i) S')).bind fun ys S2 => .ok (.ref S2.length) (S2 ++ [.lst (acc ++ ys)])), ?_, ?_⟩
  · exact ⟨_, rfl, Nat.zero_le _, ρ1, S1, [], [], Le.fresh rs1 hD, rs1.freshP hD, upd_same, rs1.fresh hD, by unfold RDs; rfl, Nat.zero_le _, by simpa using h1⟩
  · rintro i m H' ⟨rfl, hi, ρ', S', acc, accV, le', rs', hD', nD, ra, hl, hp⟩
    by_cases hlt : i < I.items.length
    · refine .inr ?_
      have hd : I.items[i]? = some I.items[i] := List.getElem?_eq_getElem hlt
      rw [List.drop_eq_getElem_cons hlt] at hp
      generalize hdd : I.items[i] = d at hp hd
      have ok : okC I.chk S' = true := by
        by_cases q : okC I.chk S' = true
        · exact q
        · unfold compL at hp; rw [if_neg q] at hp; exact (show False from hp).elim
      unfold compL at hp
      rw [if_pos ok] at hp
      obtain ⟨hgo, hyld⟩ := (it.2 ρ' S' H' le' rs' ok).1 i d hd
      refine ⟨hgo, fun H5 => I.items.length - (i + 1) = I.items.length - (i + 1) ∧ i + 1 ≤ I.items.length ∧ ∃ ρ' S' acc accV, Le ρ1 H1 ρ' H5 ∧ RS X.K T ρ' S' H5 ∧ H5 D = some (.lst accV) ∧ D ∉ ρ' ∧ RDs X.K ρ' H5 acc accV ∧ accV.length ≤ i + 1 ∧
        Post X.K X.mg T (WE W σ) ρ1 H1 (RD X.K) Q ((noEx (compL I.chk g t e (wipeE s vs) (I.items.drop (i + 1)) S')).bind fun ys S2 => .ok (.ref S2.length) (S2 ++ [.lst (acc ++ ys)])),
        fun H5 q => ⟨_, by omega, q⟩, fun x H2 y => ?_⟩
      obtain ⟨le2, rs2, rd2⟩ := hyld x H2 y
      have hD2 : H2 D = some (.lst accV) := le2.keep D _ hD' nD (fun ps z => nomatch z)
      have re2 : RE X.K ρ' H2 (wipeE s vs) (L2.wipe σ vs) := (re1.le rs1 (le'.trans le2)).wipe vs
      refine ⟨ρ', S', wipeE s vs, d, rs2, re2, rd2, ?_⟩
      cases eg : gF g d (wipeE s vs) with
      | none => rw [eg] at hp; exact (show False from hp).elim
      | some s1 =>
        rw [eg] at hp
        dsimp only at hp ⊢
        intro σ' re' ew
        refine ⟨ew.trans (wipe_wipe fun _ z => z), ρ', S', s1, rs2, re', ?_⟩
        cases et : t s1 S' with
        | bad => rw [et] at hp; exact hp
        | ex c w S2 => rw [et] at hp; exact (show False from hp).elim
        | ok b S2 =>
          rw [et, Res.bind_ok] at hp
          rintro ρ3 H3 b' le3 rs3 hb
          obtain rfl : b = b' := hb
          have nD3 := le3.nin hD2 nD
          have hD3 : H3 D = some (.lst accV) := le3.keep D _ hD2 nD (fun ps z => nomatch z)
          cases b with
          | false =>
            rw [if_neg (by decide)] at hp ⊢
            exact ⟨rfl, hlt, ρ3, S2, acc, accV, (le'.trans le2).trans le3, rs3, hD3, nD3, (ra.le rs' le2).le rs2 le3, Nat.le_succ_of_le hl, hp⟩
          | true =>
            rw [if_pos rfl] at hp ⊢
            refine ⟨ρ3, S2, s1, rs3, re'.le rs2 le3, ?_⟩
            cases ee : e s1 S2 with
            | bad => rw [ee] at hp; exact hp
            | ex c w S2 => rw [ee] at hp; exact (show False from hp).elim
            | ok y3 S3 =>
              rw [ee, Res.bind_ok] at hp
              rintro ρ4 H4 v le4 rs4 rd4
              have nD4 := le4.nin hD3 nD3
              have hD4 : H4 D = some (.lst accV) := le4.keep D _ hD3 nD3 (fun ps z => nomatch z)
              refine ⟨accV, hD4, by omega, rfl, hlt, ρ4, S3, acc ++ [y3], accV ++ [v], ?_⟩
              obtain ⟨lw5, rs5⟩ := rs4.side (o := .lst (accV ++ [v])) hD4 nD4 (fun _ z => nomatch z) (fun _ _ z => nomatch z) (fun _ z => nomatch z) (fun _ z => nomatch z)
              have ra4 := ((ra.le rs' le2).le rs2 le3).le rs3 le4
              refine ⟨(((le'.trans le2).trans le3).trans le4).side hD, rs5, upd_same, nD4, RDs.of (Paired.app (RDs.lw lw5 _ _ ra4).pair (.cons (RD.lw lw5 _ _ rd4) .nil)), by rw [List.length_append, List.length_singleton]; omega, ?_⟩
              cases ec : compL I.chk g t e (wipeE s vs) (I.items.drop (i + 1)) S3 with
              | bad => rw [ec] at hp; exact hp
              | ex c w S2 => rw [ec] at hp; exact (show False from hp).elim
              | ok ys S4 =>
                rw [ec] at hp
                simpa using hp
    · have e : i = I.items.length := by omega
      subst e
      rw [List.drop_length] at hp
      have ok : okC I.chk S' = true := by
        by_cases q : okC I.chk S' = true
        · exact q
        · unfold compL at hp; rw [if_neg q] at hp; exact (show False from hp).elim
      unfold compL at hp
      rw [if_pos ok] at hp
      refine .inl ⟨(it.2 ρ' S' H' le' rs' ok).2, ?_⟩
      have lwA : Lw ρ' H' (ρ' ++ [D]) H' := ⟨⟨_, rfl⟩, fun _ _ h => h, fun _ _ _ h => h⟩
      have rsA := rs'.adopt (p := D) (ob := .lst acc) nD ⟨accV, hD', ra, by omega⟩
      refine hp (ρ' ++ [D]) H' (.ref D) (le'.adopt hD) (by simpa using rsA) (rd_ref rs'.lastAt)
theorem ev_comp {elt tg iter : Expr} {ifs : List Expr} {scope : Scope} {own : List (Str × Nat)} {fi : FI} {g : Tg} {t : FT} {e : FE} (hc : X.calm = true) (hN : X.N.Nodup) (hi : EI X T W tg iter fi) {us : List Nat} (ok : BlkOk X.N X.env.scope scope own) (hus : own.map (·.2) = us)
    (hg : ∀ (s : Shared) (H : Hp) (C : Addr) (cl : List (Str × Addr)) (fp : List Addr), EG (X.blk s H scope (compEnvC scope cl C X.env) fp) T (own.map (·.2)) tg g)
    (ht : ∀ (s : Shared) (H : Hp) (C : Addr) (cl : List (Str × Addr)) (fp : List Addr), ETs (X.blk s H scope (compEnvC scope cl C X.env) fp) T W0 ifs t)
    (he : ∀ (s : Shared) (H : Hp) (C : Addr) (cl : List (Str × Addr)) (fp : List Addr), EV (X.blk s H scope (compEnvC scope cl C X.env) fp) T W0 elt e) (hs : ∀ x, foldedSetIterable iter X.env x = pure x := by intro _; rfl) :
    EV X T W (.ListComp elt [⟨tg, iter, ifs, 0⟩] scope pos) (eComp fi g t e us) := by
  subst hus
  exact PE.imp (pe_lc hc hN hi ok hg ht he hs) tef_comp
/-- name = [..] on one line -/
theorem es_comp {i : Nat} {y : Str} {py : Pos} {elt tg iter : Expr} {ifs : List Expr} {scope : Scope} {own : List (Str × Nat)} {cpos spos : Pos} {fi : FI} {g : Tg} {t : FT} {e : FE} (hc : X.calm = true) (hN : X.N.Nodup) (hy : X.N[i]? = some y) (hyl : X.env.scope.names.lookup y = some .local)
    (hsw : swapsWith (.ListComp elt [⟨tg, iter, ifs, 0⟩] scope cpos) (some (.Name y py)) spos.line X.env = pure true) (hi : EI X T W tg iter fi) {us : List Nat} (ok : BlkOk X.N X.env.scope scope own) (hus : own.map (·.2) = us)
    (hg : ∀ (s : Shared) (H : Hp) (C : Addr) (cl : List (Str × Addr)) (fp : List Addr), EG (X.blk s H scope (compEnvC scope cl C X.env) fp) T (own.map (·.2)) tg g)
    (ht : ∀ (s : Shared) (H : Hp) (C : Addr) (cl : List (Str × Addr)) (fp : List Addr), ETs (X.blk s H scope (compEnvC scope cl C X.env) fp) T W0 ifs t)
    (he : ∀ (s : Shared) (H : Hp) (C : Addr) (cl : List (Str × Addr)) (fp : List Addr), EV (X.blk s H scope (compEnvC scope cl C X.env) fp) T W0 elt e) (hs : ∀ x, foldedSetIterable iter X.env x = pure x := by intro _; rfl) :
    ES X T W (.Assign [.Name y py] (.ListComp elt [⟨tg, iter, ifs, 0⟩] scope cpos) spos) (sSet i (eComp fi g t e us)) := by
  subst hus
  refine PS.imp (ps_setLc (wi := TIf X T W fi) (g := TGf X T (List.map (fun (p : Str × Nat) => p.2) own) g) (tt := TTf X T W0 t) (te := TEf X T W0 e) hc hN hy hyl hsw hi ok hg ht he hs) ?_
  rintro D σ H ⟨ρ, S, s, rs, re, h⟩
  refine tef_comp σ H _ ⟨ρ, S, s, rs, re, (PostS.ofE (R := RD X.K) rs re h).imp ?_⟩
  rintro v H1 ⟨ρ1, S1, d, l1, rs1, re1, rd1, h1⟩
  exact h1 ρ1 H1 _ (Le.refl _ _) rs1 (re1.set i rd1)
end
end Wk


set_option Elab.async false
set_option linter.all false
set_option maxRecDepth 100000
set_option maxHeartbeats 4000000
set_option autoImplicit false
/-! WkDef: the functional reading of statements, loops, dicts' operations, defs and their calls, errors raised. -/
namespace Wk
open PySem PySem.Spec PyProof.Rows L2

section
variable {X : Cx} {T : Tbs} {W : WX} {pos : Pos}
/-! ### blocks -/
theorem ess_nil : ESs X T W [] sSkip := by
  refine PSs.imp pss_nil ?_
  rintro D σ H ⟨ρ, S, s, rs, re, h⟩
  exact h ρ H σ (Le.refl _ _) rs re
theorem ess_one {st : Stmt} {f : FS} (h : ES X T W st f) : ESs X T W [st] f := pss_one h
theorem ess_cons {st : Stmt} {rest : List Stmt} {f g : FS} (h1 : ES X T W st f) (h2 : ESs X T W rest g) : ESs X T W (st :: rest) (sSeq f g) := by
  refine PSs.imp (pss_cons h1 h2) ?_
  rintro D σ H ⟨ρ, S, s, rs, re, h⟩
  refine ⟨ρ, S, s, rs, re, ?_⟩
  unfold sSeq at h
  cases e : f s S with
  | nx s' S' =>
    rw [e] at h
    exact fun ρ' H' σ' le rs' re' => ⟨ρ', S', s', rs', re', PostS.le h le⟩
  | rt d S' => rw [e] at h; exact h
  | bk s' S' => rw [e] at h; exact h
  | ct s' S' => rw [e] at h; exact h
  | ex c w s' S' => rw [e] at h; exact h
  | bad => rw [e] at h; exact h
theorem es_pass : ES X T W (.Pass pos) sSkip := by
  refine PS.imp ps_pass ?_
  rintro D σ H ⟨ρ, S, s, rs, re, h⟩
  exact h ρ H σ (Le.refl _ _) rs re
theorem es_break : ES X T W (.Break pos) Wk.sBreak := by
  refine PS.imp ps_break ?_
  rintro D σ H ⟨ρ, S, s, rs, re, h⟩
  exact h ρ H σ (Le.refl _ _) rs re
theorem es_cont : ES X T W (.Continue pos) Wk.sCont := by
  refine PS.imp ps_continue ?_
  rintro D σ H ⟨ρ, S, s, rs, re, h⟩
  exact h ρ H σ (Le.refl _ _) rs re
variable {e : Expr} {f : FE}
theorem es_expr (he : EV X T W e f) (hs : swapsWith e none pos.line X.env = pure false := by rfl) : ES X T W (.Expr e pos) (sExpr f) := by
  refine PS.imp (ps_expr he hs) ?_
  rintro D σ H ⟨ρ, S, s, rs, re, h⟩
  refine ⟨ρ, S, s, rs, re, (PostS.ofE (R := RD X.K) rs re h).imp ?_⟩
  rintro v H1 ⟨ρ1, S1, d, l1, rs1, re1, rd1, h1⟩
  exact h1 ρ1 H1 σ (Le.refl _ _) rs1 re1
theorem es_ret (he : EV X T W e f) : ES X T W (.Return (some e) pos) (sRet f) := by
  refine PS.imp (ps_ret he) ?_
  rintro D σ H ⟨ρ, S, s, rs, re, h⟩
  refine ⟨ρ, S, s, rs, re, (PostS.ofE (R := RD X.K) rs re h).imp ?_⟩
  rintro v H1 ⟨ρ1, S1, d, l1, rs1, re1, rd1, h1⟩
  exact h1 ρ1 H1 v (Le.refl _ _) rs1 rd1
theorem es_retN : ES X T W (.Return none pos) sRetN := by
  refine PS.imp ps_retN ?_
  rintro D σ H ⟨ρ, S, s, rs, re, h⟩
  exact h ρ H _ (Le.refl _ _) rs rd_non
theorem es_if {c : Expr} {a b : List Stmt} {t : FT} {fa fb : FS} (hc : ET X T W c t) (ha : ESs X T W a fa) (hb : ESs X T W b fb) : ES X T W (.If c a b pos) (sIf t fa fb) := by
  refine PS.imp (ps_if hc ha hb) ?_
  rintro D σ H ⟨ρ, S, s, rs, re, h⟩
  refine ⟨ρ, S, s, rs, re, (PostS.ofE (R := RB) rs re h).imp ?_⟩
  rintro k H1 ⟨ρ1, S1, k', l1, rs1, re1, rfl, h1⟩
  cases k' with
  | true => rw [if_pos rfl] at h1 ⊢; exact ⟨ρ1, S1, s, rs1, re1, h1⟩
  | false => rw [if_neg (by decide)] at h1 ⊢; exact ⟨ρ1, S1, s, rs1, re1, h1⟩
theorem es_set (i : Nat) {x : Str} {pos' : Pos} (hN : X.N.Nodup) (he : EV X T W e f) (hi : X.N[i]? = some x := by rfl) (hx : Loc X.env.scope x := by first | exact Or.inl rfl | exact Or.inr rfl) (hs : swapsWith e (some (.Name x pos')) pos.line X.env = pure false := by rfl)
    (hf : X.fn x = true ∨ X.env.scope.names.lookup x = some .local := by first | exact .inl rfl | exact .inr rfl | assumption) : ES X T W (.Assign [.Name x pos'] e pos) (sSet i f) := by
  refine PS.imp (ps_set hN hi hx he hs hf) ?_
  rintro D σ H ⟨ρ, S, s, rs, re, h⟩
  refine ⟨ρ, S, s, rs, re, (PostS.ofE (R := RD X.K) rs re h).imp ?_⟩
  rintro v H1 ⟨ρ1, S1, d, l1, rs1, re1, rd1, h1⟩
  exact h1 ρ1 H1 _ (Le.refl _ _) rs1 (re1.set i rd1)
theorem es_asg {tg : Expr} {g : Tg} {vs : List Nat} (he : EV X T W e f) (hg : EG X T vs tg g) (hs : swapsWithSole [tg] e pos.line X.env = pure false := by rfl) (hw : swappedStores [tg] e X.env = pure none := by rfl)
    (h1 : (assignEach [tg] X.env).map (·.2) = [assign tg X.env] := by rfl) : ES X T W (.Assign [tg] e pos) (sAsg g f) := by
  refine PS.imp (ps_asg he hg hs hw h1) ?_
  rintro D σ H ⟨ρ, S, s, rs, re, h⟩
  refine ⟨ρ, S, s, rs, re, (PostS.ofE (R := RD X.K) rs re h).imp ?_⟩
  rintro v H1 ⟨ρ1, S1, d, l1, rs1, re1, rd1, h1⟩
  refine ⟨ρ1, S1, s, d, rs1, re1, rd1, ?_⟩
  cases eg : gF g d s with
  | none => rw [eg] at h1; exact (show False from h1).elim
  | some s' => rw [eg] at h1; exact fun σ' re' _ => h1 ρ1 H1 σ' (Le.refl _ _) rs1 re'
/-- a, b = x, y -/
theorem es_par (i j : Nat) {x y : Str} {a b : Expr} {fa fb : FE} {px py pt : Pos} {kt k2 pt2} (hc : X.calm = true) (hN : X.N.Nodup) (ha : EV X T W a fa) (hb : EV X T W b fb) (hi : X.N[i]? = some x := by rfl) (hj : X.N[j]? = some y := by rfl) (hij : i ≠ j := by decide)
    (hx : X.env.scope.names.lookup x = some .local := by rfl) (hy : X.env.scope.names.lookup y = some .local := by rfl) (hsa : starEach (a :: [b]) X.env = (false, eval a X.env) :: starEach [b] X.env := by rfl) (hsb : starEach [b] X.env = (false, eval b X.env) :: starEach [] X.env := by rfl)
    (hw : swappedStores [.Tuple [.Name x px, .Name y py] kt pt] (.Tuple [a, b] k2 pt2) X.env = pure (some [x, y]) := by rfl)
    (hs : swapsWithSole [.Tuple [.Name x px, .Name y py] kt pt] (.Tuple [a, b] k2 pt2) pos.line X.env = pure false := by rfl) :
    ES X T W (.Assign [.Tuple [.Name x px, .Name y py] kt pt] (.Tuple [a, b] k2 pt2) pos) (sPar i j fa fb) := by
  refine PS.imp (ps_par hc hN hi hj hij hx hy (pa_cons ha (pa_cons hb pa_nil hsb) hsa) hw hs) ?_
  rintro D σ H ⟨ρ, S, s, rs, re, h⟩
  refine ⟨ρ, S, s, rs, re, (PostS.ofE (R := RD X.K) rs re h).imp ?_⟩
  rintro v H1 ⟨ρ1, S1, d, l1, rs1, re1, rd1, h1⟩
  refine ⟨ρ1, S1, s, rs1, re1, (PostS.ofE (R := RD X.K) rs1 re1 h1).imp ?_⟩
  rintro w H2 ⟨ρ2, S2, d2, l2, rs2, re2, rd2, h2⟩
  exact ⟨v, w, rfl, h2 ρ2 H2 _ (Le.refl _ _) rs2 ((re2.set i (rd1.le rs1 l2)).set j rd2)⟩
/-- xs[i] = v of a list -/
theorem es_subL {o i v : Expr} {fo fi fv : FE} {pos' : Pos} (hv : EV X T W v fv) (ho : EV X T W o fo) (hi : EV X T W i fi)
    (ha : ∀ v, assign (.Subscript o i pos') X.env v = (do
      let ov ← holding [v] (eval o X.env)
      let iv ← holding [v, ov] (eval i X.env)
      standAt pos'
      holding [v, ov, iv] (setItem ov iv v)
      release [v, ov, iv] []) := by intro _; rfl)
    (hs : swapsWithSole [.Subscript o i pos'] v pos.line X.env = pure false := by rfl) (hw : swappedStores [.Subscript o i pos'] v X.env = pure none := by rfl)
    (h1 : (assignEach [.Subscript o i pos'] X.env).map (·.2) = [assign (.Subscript o i pos') X.env] := by rfl) : ES X T W (.Assign [.Subscript o i pos'] v pos) (sSub uSetL fo fi fv) := by
  refine PS.imp (ps_asg hv (pg_sub ho hi set_list ha) hs hw h1) ?_
  rintro D σ H ⟨ρ, S, s, rs, re, h⟩
  refine ⟨ρ, S, s, rs, re, (PostS.ofE (R := RD X.K) rs re h).imp ?_⟩
  rintro v H1 ⟨ρ1, S1, d, l1, rs1, re1, rd1, h1⟩
  refine ⟨ρ1, S1, s, rs1, re1, (PostS.ofE (R := RD X.K) rs1 re1 h1).imp ?_⟩
  rintro w H2 ⟨ρ2, S2, d2, l2, rs2, re2, rd2, h2⟩
  refine ⟨ρ2, S2, s, rs2, re2, (PostS.ofE (R := RD X.K) rs2 re2 h2).imp ?_⟩
  rintro u H3 ⟨ρ3, S3, d3, l3, rs3, re3, rd3, h3⟩
  have rd1' := (rd1.le rs1 l2).le rs2 l3
  have rd2' := rd2.le rs2 l3
  cases d2 with
  | ref l =>
    cases d3 with
    | int k =>
      unfold uSetL at h3
      dsimp only at h3
      cases e0 : S3[l]? with
      | none => rw [e0] at h3; exact (show False from h3).elim
      | some ob =>
        rw [e0] at h3
        cases ob with
        | lst ds =>
          obtain ⟨a, vs, rfl, hla, hv', ra, za⟩ := rs3.lstAt rd2' e0
          dsimp only at h3
          cases ej : Wk.ixN ds.length k with
          | none => rw [ej] at h3; exact (show False from h3).elim
          | some j =>
            rw [ej] at h3
            obtain ⟨q1, q2⟩ := lst_write rs3 hla e0 (RDs.of (Paired.set1 (R := RD X.K ρ3 H3) rd1' j ra.pair)) (by rw [List.length_set]; exact za)
            refine ⟨a, vs, k, j, rfl, rd3.int, hv', by rw [← ra.len]; exact ej, ?_⟩
            exact h3 ρ3 _ σ q1 q2 (re3.le rs3 q1)
        | _ => exact (show False from h3).elim
    | _ => exact (show False from h3).elim
  | _ => cases d3 <;> exact (show False from h3).elim

/-! ### loops -/
theorem es_while {c : Expr} {body : List Stmt} {t : FT} {b : FS} (hp : PassesOwn (model X.prog X.w) X.A X.env X.xe) (hc : ET X T W c t) (hb : ESs X T W body b) : ES X T W (.While c body [] pos) (Wk.sWhile t b) := by
  refine PS.imp (ps_while hp hc hb) ?_
  rintro D σ H ⟨ρ, S, s, rs, re, h⟩
  refine ⟨fun m σ H => ∃ ρ S s, RS X.K T ρ S H ∧ RE X.K ρ H s σ ∧ PostS X.K X.mg T W D ρ H (whileL t b m s S), ⟨FUEL, ρ, S, s, rs, re, h⟩, ?_⟩
  rintro m σ H ⟨ρ, S, s, rs, re, h⟩
  cases m with
  | zero => exact (show False from h).elim
  | succ m =>
    unfold whileL at h
    refine ⟨ρ, S, s, rs, re, (PostS.ofE (R := RB) rs re h).imp ?_⟩
    rintro k H1 ⟨ρ1, S1, k', l1, rs1, re1, rfl, h1⟩
    cases k' with
    | false =>
      rw [if_neg (by decide)] at h1 ⊢
      exact h1 ρ1 H1 σ (Le.refl _ _) rs1 re1
    | true =>
      rw [if_pos rfl] at h1 ⊢
      refine ⟨fun σ H => ∃ ρ S s, RS X.K T ρ S H ∧ RE X.K ρ H s σ ∧ PostS X.K X.mg T W D ρ H (whileL t b m s S), fun σ' H' q => ⟨m, Nat.lt_succ_self _, q⟩, ρ1, S1, s, rs1, re1, ?_⟩
      cases eb : b s S1 with
      | nx s2 S2 => rw [eb] at h1; exact fun ρ' H' σ' le rs' re' => ⟨ρ', S2, s2, rs', re', PostS.le h1 le⟩
      | ct s2 S2 => rw [eb] at h1; exact fun ρ' H' σ' le rs' re' => ⟨ρ', S2, s2, rs', re', PostS.le h1 le⟩
      | bk s2 S2 => rw [eb] at h1; exact h1
      | rt d S2 => rw [eb] at h1; exact h1
      | ex c w s2 S2 => rw [eb] at h1; exact h1
      | bad => rw [eb] at h1; exact h1
theorem es_for {tg iter : Expr} {body : List Stmt} {fi : FI} {g : Tg} {b : FS} {vs : List Nat} (hp : PassesOwn (model X.prog X.w) X.A X.env X.xe) (hc : X.calm = true) (hi : EI X T W tg iter fi) (hg : EG X T vs tg g) (hb : ESs X T W body b)
    (hs : ∀ x, foldedSetIterable iter X.env x = pure x := by intro _; rfl) : ES X T W (.For tg iter body [] pos) (sFor fi g b) := by
  refine PS.imp (ps_for hp hc hi hg hb hs) ?_
  rintro D σ H ⟨ρ, S, s, rs, re, h⟩
  refine ⟨ρ, S, s, rs, re, (PostS.ofE (R := ItOk X.K T) rs re h).imp ?_⟩
  rintro J H1 ⟨ρ1, S1, I, l1, rs1, re1, it, h1⟩
  refine ⟨fun i m σ' H' => m = I.items.length - i ∧ i ≤ I.items.length ∧ ∃ ρ' S' s', Le ρ1 H1 ρ' H' ∧ RS X.K T ρ' S' H' ∧ RE X.K ρ' H' s' σ' ∧ PostS X.K X.mg T W D ρ' H' (forL I.chk g b (I.items.drop i) s' S'),
    ⟨_, rfl, Nat.zero_le _, ρ1, S1, s, Le.refl _ _, rs1, re1, by simpa using h1⟩, ?_⟩
  rintro i m σ' H' ⟨rfl, hi', ρ', S', s', le', rs', re', hp⟩
  by_cases hlt : i < I.items.length
  · have hd : I.items[i]? = some I.items[i] := List.getElem?_eq_getElem hlt
    rw [List.drop_eq_getElem_cons hlt] at hp
    generalize hdd : I.items[i] = d at hp hd
    have ok : okC I.chk S' = true := by
      by_cases q : okC I.chk S' = true
      · exact q
      · unfold forL at hp; rw [if_neg q] at hp; exact (show False from hp).elim
    unfold forL at hp
    rw [if_pos ok] at hp
    obtain ⟨hgo, hyld⟩ := (it.2 ρ' S' H' le' rs' ok).1 i d hd
    refine .inr ⟨hgo, fun σ2 H2 => i + 1 ≤ I.items.length ∧ ∃ ρ' S' s', Le ρ1 H1 ρ' H2 ∧ RS X.K T ρ' S' H2 ∧ RE X.K ρ' H2 s' σ2 ∧ PostS X.K X.mg T W D ρ' H2 (forL I.chk g b (I.items.drop (i + 1)) s' S'),
      fun σ2 H2 q => ⟨_, by omega, rfl, q⟩, fun x H2 y => ?_⟩
    obtain ⟨le2, rs2, rd2⟩ := hyld x H2 y
    refine ⟨ρ', S', s', d, rs2, re'.le rs' le2, rd2, ?_⟩
    cases eg : gF g d s' with
    | none => rw [eg] at hp; exact (show False from hp).elim
    | some s1 =>
      rw [eg] at hp
      dsimp only at hp ⊢
      intro σ2 re2 _
      refine ⟨ρ', S', s1, rs2, re2, ?_⟩
      have hp2 := PostS.le hp le2
      cases eb : b s1 S' with
      | nx s2 S2 => rw [eb] at hp2; exact fun ρ3 H3 σ3 le3 rs3 re3 => ⟨hlt, ρ3, S2, s2, (le'.trans le2).trans le3, rs3, re3, PostS.le hp2 le3⟩
      | ct s2 S2 => rw [eb] at hp2; exact fun ρ3 H3 σ3 le3 rs3 re3 => ⟨hlt, ρ3, S2, s2, (le'.trans le2).trans le3, rs3, re3, PostS.le hp2 le3⟩
      | bk s2 S2 => rw [eb] at hp2; exact hp2
      | rt d S2 => rw [eb] at hp2; exact hp2
      | ex c w s2 S2 => rw [eb] at hp2; exact hp2
      | bad => rw [eb] at hp2; exact hp2
  · have e : i = I.items.length := by omega
    subst e
    rw [List.drop_length] at hp
    have ok : okC I.chk S' = true := by
      by_cases q : okC I.chk S' = true
      · exact q
      · unfold forL at hp; rw [if_neg q] at hp; exact (show False from hp).elim
    unfold forL at hp
    rw [if_pos ok] at hp
    exact .inl ⟨(it.2 ρ' S' H' le' rs' ok).2, hp ρ' H' σ' (Le.refl _ _) rs' re'⟩
end

/-! ### defs -/
/-- a def's promise: it does what its function tells -/
def spF (K : PySem.W.Frag) (mg : Str → Option Value) (T : Tbs) (n : Nat) (F : Fn) : Sp := fun vs H Q E => vs.length = n ∧ ∃ ρ S ds, RS K T ρ S H ∧ RDs K ρ H ds vs ∧ Post K mg T E ρ H (RD K) Q (F ds S)
/-- a def that may be called by its name -/
structure CallOk (P : Program) (w : World) (K : PySem.W.Frag) (mg : Str → Option Value) (base : Heap) (T : Tbs) (k : Nat) (x : Str) (n : Nat) (F : Fn) : Prop where
  ar : ∀ ds S, ds.length ≠ n → F ds S = .bad
  ex : ∃ (f : Addr) (fd : FuncData) (ps : List Str), ps.length = n ∧ mg x = some (.ref f) ∧ PySem.W.keepIn K (.ref f) = true ∧ Binds K fd ps [] ∧ FnOk P w K mg base (L2.CX P w) k f fd ps (spF K mg T n F)
theorem mkF_ar (n m : Nat) (b : FS) : ∀ ds S, ds.length ≠ n → mkF n m b ds S = .bad := fun ds S h => if_neg h
section
variable {X : Cx} {T : Tbs} {W : WX} {pos : Pos}
theorem ev_call {k n : Nat} {x : Str} {F : Fn} {p : Pos} {e : Expr} {es : List Expr} {fa : FA} (C : CallOk X.prog X.w X.K X.mg X.base T k x n F) (tk : Takes X W) (hr : Room k X.A) (ha : EA X T W (e :: es) fa) (hg : Gl X x := by rfl)
    (hdb : (x == ("__debug__" : Str)) = false := by decide) (he : starEach (e :: es) X.env = (false, eval e X.env) :: starEach es X.env := by rfl) (hpl : (backTo pos (starEach es X.env)).any (·.1) = false := by rfl) :
    EV X T W (.Call (.Name x p) (e :: es) [] pos) (eCall F fa) := by
  obtain ⟨ar, f, fd, ps, hps, hm, hk, hb, G⟩ := C
  refine PE.imp (pe_callS G hr hg hm hk hb (fun σ => passAt tk σ) ha hdb he hpl) ?_
  rintro σ H Q ⟨ρ, S, s, rs, re, h⟩
  refine ⟨ρ, S, s, rs, re, (Post.bind (R := RDs X.K) h).imp ?_⟩
  rintro vs H1 ⟨ρ1, S1, ds, l1, rs1, rd1, h1⟩
  refine ⟨?_, ρ1, S1, ds, rs1, rd1, h1⟩
  by_cases e : ds.length = n
  · rw [← rd1.len]; exact e
  · rw [ar ds S1 e] at h1; exact (show False from h1).elim
end
theorem re_start {K : PySem.W.Frag} {ρ : List Addr} {H : Hp} {N : List Str} {ds : List D} {vs : List V} (r : RDs K ρ H ds vs) : RE K ρ H (startE N.length ds) (L2.start N vs) := by
  unfold startE L2.start
  rw [r.len]
  refine Paired.app ?_ ?_
  · have p := r.pair
    clear r
    induction p with
    | nil => exact .nil
    | cons r t ih => exact .cons (show RO K ρ H (some _) (some _) from r) ih
  · generalize N.length - vs.length = m
    induction m with
    | zero => exact .nil
    | succ m ih => exact .cons trivial ih
section
variable {P : Program} {w : World} {K : PySem.W.Frag} {mg : Str → Option Value} {base : Heap} {T : Tbs}
theorem fn_okF {x qual : Str} {st : Stmt} {f : Addr} {fd : FuncData} {N ps : List Str} {k : Nat} {b : FS} (F : Fun K x qual st f fd) (S : FnScope N ps (defScope st))
    (hbody : ∀ (cdv : Value) (A : Around) (outer : List PySem.Env) (s : Shared) (H : Hp) (E : XK), Room k (A.deeper (envOfC qual (defScope st) s.heap.objs.size f cdv)) →
      ESs (cxOf (L2.CX P w) P w K mg base N qual (defScope st) f cdv A outer s H E) T (fun cls d _ H => E cls d H) (defBody st) b) :
    FnOk P w K mg base (L2.CX P w) (k + 1) f fd ps (spF K mg T ps.length (mkF ps.length N.length b)) := by
  refine F.okX S (fun vs H Q E h => h.1) fun cdv A outer s H vs Q E hr h => ⟨_, hbody cdv A outer s H E hr, ?_⟩
  obtain ⟨hl, ρ, S', ds, rs, rd, h⟩ := h
  refine ⟨ρ, S', startE N.length ds, rs, re_start rd, ?_⟩
  unfold mkF at h
  rw [if_pos (by rw [rd.len, hl])] at h
  show PostS K mg T (fun cls d _ H => E cls d H) { nx := fun _ H' => Q .non H', rt := Q } ρ H (b (startE N.length ds) S')
  cases e : b (startE N.length ds) S' with
  | nx s' S1 => rw [e] at h; exact fun ρ' H' σ' le rs' re' => h ρ' H' .non le rs' rd_non
  | rt d S1 => rw [e] at h; exact h
  | bk s' S1 => rw [e] at h; exact (show False from h).elim
  | ct s' S1 => rw [e] at h; exact (show False from h).elim
  | ex c w s' S1 => rw [e] at h; exact fun ρ' H' σ' v dd C le rs' re' rd' h1 h2 => h ρ' H' v dd C le rs' rd' h1 h2
  | bad => rw [e] at h; exact h
/-- a def of the text -/
structure DefAt (K : PySem.W.Frag) (mg : Str → Option Value) (x : Str) (st : Stmt) (ps : List Str) : Prop where
  ex : ∃ (f : Addr) (fd : FuncData), mg x = some (.ref f) ∧ Fun K x x st f fd ∧ Binds K fd ps []
theorem call_ok {x : Str} {st : Stmt} {N ps : List Str} {k n m : Nat} {b : FS} (D : DefAt K mg x st ps) (S : FnScope N ps (defScope st)) (hn : ps.length = n) (hm : N.length = m)
    (hbody : ∀ (f : Addr) (cdv : Value) (A : Around) (outer : List PySem.Env) (s : Shared) (H : Hp) (E : XK), Room k (A.deeper (envOfC x (defScope st) s.heap.objs.size f cdv)) →
      ESs (cxOf (L2.CX P w) P w K mg base N x (defScope st) f cdv A outer s H E) T (fun cls d _ H => E cls d H) (defBody st) b) : CallOk P w K mg base T (k + 1) x n (mkF n m b) := by
  obtain ⟨f, fd, hf, F, hb⟩ := D.ex
  subst hn hm
  exact ⟨mkF_ar _ _ _, f, fd, ps, rfl, hf, F.kp, hb, fn_okF F S (hbody f)⟩
theorem CallOk.mono {j k : Nat} {x : Str} {n : Nat} {F : Fn} (C : CallOk P w K mg base T j x n F) (h : j ≤ k) : CallOk P w K mg base T k x n F := by
  obtain ⟨ar, f, fd, ps, a, b, c, d, G⟩ := C
  exact ⟨ar, f, fd, ps, a, b, c, d, G.mono h⟩
/-- a def of which nothing is promised -/
theorem call_bad {x : Str} {st : Stmt} {ps : List Str} {n : Nat} (D : DefAt K mg x st ps) (hn : ps.length = n) : CallOk P w K mg base T 0 x n fun _ _ => .bad := by
  obtain ⟨f, fd, hf, F, hb⟩ := D.ex
  exact ⟨fun _ _ _ => rfl, f, fd, ps, hn, hf, F.kp, hb, ⟨fun vs H Q E h => h.1.trans hn.symm, fun A outer s H args us vs Q E _ _ _ _ h => by
    obtain ⟨_, ρ, S, ds, _, _, h⟩ := h
    exact (show False from h).elim⟩⟩
end

/-! ### errors -/
/-- the promise of __init__(self, what) of the errors' base class -/
def spRef (K : PySem.W.Frag) : Sp := fun vs H Q _ => ∃ (a C : Addr) (v : V), vs = [.ref a, v] ∧ OexC K C ∧ PySem.W.findIn K (.ref C) "what" = some none ∧ H a = some (exo a C none) ∧ ∀ dx, H dx = none → dx ≠ a → Q .non (upd (upd H dx (exd dx [(("what" : Str), v)])) a (exo a C (some dx)))
/-- a class of errors -/
structure ExcAt (P : Program) (w : World) (K : PySem.W.Frag) (mg : Str → Option Value) (base : Heap) (c : String) : Prop where
  ex : ∃ (C fI : Addr) (fd : FuncData), mg (Str.ofString c) = some (.ref C) ∧ OexC K C ∧ PySem.W.findIn K (.ref C) "what" = some none ∧ PySem.W.findIn K (.ref C) "__init__" = some (some (.ref fI)) ∧ PySem.W.typeIn K (.ref fI) = some (.type "function") ∧
    Binds K fd ["self", "what"] [] ∧ FnOk P w K mg base CX0 1 fI fd ["self", "what"] (spRef K)
section
variable {X : Cx} {T : Tbs} {W : WX} {pos : Pos}
theorem es_raise {c : String} {x : Str} {p pos2 : Pos} {e : Expr} {f : FE} (C : ExcAt X.prog X.w X.K X.mg X.base c) (hcx : x = Str.ofString c) (hc : X.calm = true) (tk : Takes X W) (hr : Room 2 X.A) (ha : EV X T W e f) (hg : Gl X x := by rfl)
    (hdb : (x == ("__debug__" : Str)) = false := by decide) (he : starEach (e :: []) X.env = (false, eval e X.env) :: starEach [] X.env := by rfl) (hpl : (backTo pos (starEach [] X.env)).any (·.1) = false := by rfl) :
    ES X T W (.Raise (some (.Call (.Name x p) [e] [] pos)) none pos2) (sRaise c f) := by
  subst hcx
  obtain ⟨C, fI, fd, hm, O, hno, hI, hT, hb, G⟩ := C
  refine PS.imp (ps_raise hc tk (pmk_oex O hI hT G hr hb .nil pass0 hg hm (pa_cons ha pa_nil he) hdb he hpl)) ?_
  rintro D σ H ⟨ρ, S, s, rs, re, h⟩
  refine ⟨ρ, S, s, rs, re, (PostS.ofE (R := RD X.K) rs re h).imp ?_⟩
  rintro v H1 ⟨ρ1, S1, d, l1, rs1, re1, rd1, h1⟩
  refine ⟨by show 1 ≤ 1000; decide, fun a ha => ⟨a, C, v, rfl, O, hno, upd_same, fun dx hdx nda => ?_⟩⟩
  have h1d : H1 dx = none := by rw [upd_ne nda] at hdx; exact hdx
  refine ⟨rfl, dx, [(("what" : Str), v)], upd_same, by rw [upd_ne nda, upd_same], h1d, ?_⟩
  have eH : upd (del (upd (upd (upd H1 a (exo a C none)) dx (exd dx [(("what" : Str), v)])) a (exo a C (some dx))) a) dx (.xd [(("what" : Str), v)]) = upd H1 dx (.xd [(("what" : Str), v)]) := by
    funext b
    by_cases hb : b = dx
    · subst hb; rw [upd_same, upd_same]
    · rw [upd_ne hb, upd_ne hb]
      by_cases hba : b = a
      · subst hba; rw [del_same, ha]
      · rw [del_ne hba, upd_ne hba, upd_ne hb, upd_ne hba]
  rw [eH]
  exact h1 ρ1 _ σ v dx C (Le.fresh rs1 h1d) (rs1.freshP h1d) (re1.le rs1 (Le.fresh rs1 h1d)) (rd1.le rs1 (Le.fresh rs1 h1d)) upd_same hm
end
end Wk


set_option Elab.async false
set_option linter.all false
set_option maxRecDepth 100000
set_option maxHeartbeats 4000000
set_option autoImplicit false
/-! WkLib: the functional reading of built-ins, methods, dicts, slices. -/
namespace L2
open PySem PySem.Spec PyProof.Rows
theorem ints_at : ∀ {us : List Value} {ks : List Int}, us.length = ks.length → (∀ (j : Nat) (v : Value), us[j]? = some v → ∃ (x : Int) (t : Tok), ks[j]? = some x ∧ v = Value.int x t) → IntsAre us ks
  | [], [], _, _ => .nil
  | u :: us, k :: ks, hl, h => by
    obtain ⟨x, t, e1, e2⟩ := h 0 u rfl
    have e1' : k = x := Option.some.inj e1
    subst e1'
    subst e2
    refine .cons _ _ (ints_at (by simpa using hl) fun j v e => ?_)
    obtain ⟨x, t, a, b⟩ := h (j + 1) v (by simpa using e)
    exact ⟨x, t, by simpa using a, b⟩
  | [], _ :: _, hl, _ => by simp at hl
  | _ :: _, [], hl, _ => by simp at hl
section
variable {X : Cx}
/-- sorted(d) of a dict whose keys are all ints -/
theorem wk_sortedDI (hcalm : X.calm = true) : CallR X (.builtin "sorted") (fun xs H Q => ∃ (a : Addr) (kvs : List (Key × V)) (ks : List Int), xs = [.ref a] ∧ Rd H a (.dK kvs) ∧ kvs.map (·.1) = ks.map Sum.inl ∧
    ∀ (ys : List Int) (p : Addr), ys.Perm ks → ys.Pairwise (· ≤ ·) → H p = none → Q (.ref p) (upd H p (.lst (ys.map V.int)))) := by
  intro pins s σ H xs us Q I r q
  obtain ⟨a, kvs, ks, ex, hd, hks, q⟩ := q
  subst ex
  obtain ⟨u, eu, rx⟩ := vals1 r
  subst eu
  cases rx
  obtain ⟨z, lo, vs, rel, dd⟩ := dk_rd I.hok hd
  obtain ⟨ep, hat⟩ := dd.dictAt
  have hkeys : vs.map (·.1) = ks.map Sum.inl := rel.keys.symm.trans hks
  have hl : vs.length = ks.length := by
    have e := congrArg List.length hkeys
    rw [List.length_map, List.length_map] at e
    exact e
  have h16 : vs.length ≤ sizeLine := by rw [← rel.length]; exact z
  refine Calls.call_function_entry PyProof.Rows.kind_sorted PyProof.Rows.plain_sorted PyProof.Rows.entry_sorted (PyProof.Rows.args_sorted1 _) ?_
  unfold Builtin.«sorted»
  refine wpAny_bind (m := checkCount "sorted" 1 1 _) (wpAny_pure ?_)
  refine wpAny_bind (PySem.W.kdu_collect (A := X.A.in1) (PySem.W.kdl_dict (knd := mixKind X.prog X.w) (kvs := vs) (ep := ep) lo) (I.ok.hd hcalm) hat h16 fun h' tk acc hk hacc => ?_)
  have hal : acc.toList.length = ks.length := by rw [Array.length_toList, hacc.1, hl]
  have hS : IntsAre acc.toList ks := ints_at hal fun j v e => by
    obtain ⟨k, x, e1, e2⟩ := hacc.2 j v (by rw [← Array.getElem?_toList]; exact e)
    have e3 : (vs.map (·.1))[j]? = some k := by rw [List.getElem?_map, e1]; all_goals rfl
    rw [hkeys, List.getElem?_map] at e3
    cases e4 : ks[j]? with
    | none => rw [e4] at e3; cases e3
    | some y =>
      rw [e4] at e3
      have e5 : Sum.inl y = k := Option.some.inj e3
      subst e5
      obtain ⟨t, ev⟩ := Value.isInt_shape (k := y) (v := v) e2
      exact ⟨y, t, rfl, ev⟩
  have I1 : Inv X pins σ H { s with heap := h', toks := tk } := I.kept hk
  have hzz : acc.toList.length ≤ sizeLine := by rw [hal, ← hl]; exact h16
  refine wpAny_bind (wpAny_newList ?_ hzz)
  have hoL : (h'.push (seqObj "list" acc.toList.toArray 0)).get? h'.objs.size = some (seqObj "list" acc.toList.toArray 0) := Heap.get?_push_size _ rfl
  show wpAny _ _ _ _ _ { s with heap := h'.push (seqObj "list" acc.toList.toArray 0), toks := tk }
  refine wpAny_bind (wpAny_holding (wpAny_call_entry PyProof.Rows.slot_list_sort ⟨_, hoL, rfl⟩ PyProof.Rows.entry_list_sort
    (SrtO.list_sort_ord SrtO.swo_int (s := { s with heap := h'.push (seqObj "list" acc.toList.toArray 0), toks := tk }) hoL hzz (fun h2 => SrtO.ints_sortable hS h2) fun out h1 h2 => ⟨_, rfl, ?_⟩)
    (PyProof.Rows.args_list_sort _)))
  obtain ⟨k1, k2, k3⟩ := SrtO.ints_out hS h1 h2
  obtain ⟨e', he'⟩ := PyProof.Rows.sortedHeap_at (vs := acc.toList) (out := out.toArray) hoL
  have hlen : ((out.map SrtO.iv).map V.int).length ≤ sizeLine := by
    rw [List.length_map, k2.length_eq, ← hl]
    exact h16
  refine wpAny_pure ⟨_, rfl, .ref h'.objs.size, upd H h'.objs.size (.lst ((out.map SrtO.iv).map V.int)), I1.laid (t' := tk) (fun b u e => ?_) (Nat.le_refl _)
    (show ObjOk X.prog X.w _ _ _ (.lst ((out.map SrtO.iv).map V.int)) from ⟨hlen, out, e', vals_of_ints k1, he'⟩), rfl, q _ _ k2 k3 (I1.hok.fresh (Nat.le_refl _))⟩
  have hb : b < h'.objs.size := Heap.lt_size e
  rw [PyProof.Rows.sortedHeap_old (Nat.ne_of_lt hb) (by rw [size_push']; exact Nat.lt_succ_of_lt hb)]
  exact Heap.get?_push_of_some _ e
end
end L2

namespace Wk
open PySem PySem.Spec PyProof.Rows L2
section
variable {X : Cx} {T : Tbs} {W : WX} {pos : Pos}
/-! ### calls of built-ins by values -/
variable (X T) in
def C1S (r : List V → Hp → VK → Prop) (F : D → Store → Res D) : Prop := ∀ (E : XK) (ρ : List Addr) (S : Store) (H : Hp) (x : D) (v : V) (Q : VK), RS X.K T ρ S H → RD X.K ρ H x v → Post X.K X.mg T E ρ H (RD X.K) Q (F x S) → r [v] H Q
variable (X T) in
def C2S (r : List V → Hp → VK → Prop) (o : Op) : Prop := ∀ (E : XK) (ρ : List Addr) (S : Store) (H : Hp) (x y : D) (v w : V) (Q : VK), RS X.K T ρ S H → RD X.K ρ H x v → RD X.K ρ H y w → Post X.K X.mg T E ρ H (RD X.K) Q (o x y S) → r [v, w] H Q
variable {a b c : Expr} {fa fb fc : FE}
theorem tef_c1 {r : List V → Hp → VK → Prop} {F : D → Store → Res D} (hs : C1S X T r F) : ∀ σ H Q, TEf X T W (eUn F fa) σ H Q → tCB r (tCons (TEf X T W fa) tNil) σ H Q := by
  rintro σ H Q ⟨ρ, S, s, rs, re, h⟩
  refine ⟨ρ, S, s, rs, re, (Post.bind (R := RD X.K) h).imp ?_⟩
  rintro v H1 ⟨ρ1, S1, x, l1, rs1, rd1, h1⟩
  exact hs _ ρ1 S1 H1 x v Q rs1 rd1 h1
theorem tef_c2 {r : List V → Hp → VK → Prop} {o : Op} (hs : C2S X T r o) : ∀ σ H Q, TEf X T W (eOp o fa fb) σ H Q → tCB r (tCons (TEf X T W fa) (tCons (TEf X T W fb) tNil)) σ H Q := by
  rintro σ H Q ⟨ρ, S, s, rs, re, h⟩
  refine ⟨ρ, S, s, rs, re, (Post.bind (R := RD X.K) h).imp ?_⟩
  rintro v H1 ⟨ρ1, S1, x, l1, rs1, rd1, h1⟩
  refine ⟨ρ1, S1, s, rs1, re.le rs l1, (Post.bind (R := RD X.K) h1).imp ?_⟩
  rintro w H2 ⟨ρ2, S2, y, l2, rs2, rd2, h2⟩
  exact hs _ ρ2 S2 H2 x y v w Q rs2 (rd1.le rs1 l2) rd2 h2
/-- f(e), f a built-in function -/
theorem ev_b1 {id : String} {x : Str} {p : Pos} {r : List V → Hp → VK → Prop} {F : D → Store → Res D} (hs : CallR X (.builtin id) r ∧ C1S X T r F) (hm : X.mg x = none) (hv : bootBuiltins x = some (.builtin id)) (ha : EV X T W a fa) (hg : Gl X x := by rfl) (hn : x ≠ "__name__" := by decide) (hdb : (x == ("__debug__" : Str)) = false := by decide)
    (he : starEach (a :: []) X.env = (false, eval a X.env) :: starEach [] X.env := by rfl) (hpl : (backTo pos (starEach [] X.env)).any (·.1) = false := by rfl) : EV X T W (.Call (.Name x p) [a] [] pos) (eUn F fa) :=
  PE.imp (pe_callB hs.1 hg hm hv (pa_cons ha pa_nil he) hn hdb he hpl) (tef_c1 hs.2)
theorem ev_t1 {id : String} {x : Str} {p : Pos} {r : List V → Hp → VK → Prop} {F : D → Store → Res D} (hs : CallR X (.type id) r ∧ C1S X T r F) (hm : X.mg x = none) (hv : bootBuiltins x = some (.type id)) (ha : EV X T W a fa) (hg : Gl X x := by rfl) (hn : x ≠ "__name__" := by decide) (hdb : (x == ("__debug__" : Str)) = false := by decide)
    (he : starEach (a :: []) X.env = (false, eval a X.env) :: starEach [] X.env := by rfl) (hpl : (backTo pos (starEach [] X.env)).any (·.1) = false := by rfl) : EV X T W (.Call (.Name x p) [a] [] pos) (eUn F fa) :=
  PE.imp (pe_callTy hs.1 hg hm hv (pa_cons ha pa_nil he) hn hdb he hpl) (tef_c1 hs.2)
theorem ev_b2 {id : String} {x : Str} {p : Pos} {r : List V → Hp → VK → Prop} {o : Op} (hs : CallR X (.builtin id) r ∧ C2S X T r o) (hm : X.mg x = none) (hv : bootBuiltins x = some (.builtin id)) (ha : EV X T W a fa) (hb : EV X T W b fb) (hg : Gl X x := by rfl) (hn : x ≠ "__name__" := by decide) (hdb : (x == ("__debug__" : Str)) = false := by decide)
    (he : starEach (a :: [b]) X.env = (false, eval a X.env) :: starEach [b] X.env := by rfl) (he2 : starEach (b :: []) X.env = (false, eval b X.env) :: starEach [] X.env := by rfl) (hpl : (backTo pos (starEach [b] X.env)).any (·.1) = false := by rfl) : EV X T W (.Call (.Name x p) [a, b] [] pos) (eOp o fa fb) :=
  PE.imp (pe_callB hs.1 hg hm hv (pa_cons ha (pa_cons hb pa_nil he2) he) hn hdb he hpl) (tef_c2 hs.2)

/-- what a sequence's data are, in the heap -/
theorem seq_at {ρ : List Addr} {S : Store} {H : Hp} {x : D} {v : V} {ds : List D} (rs : RS X.K T ρ S H) (rx : RD X.K ρ H x v) (h : seqD S x = some ds) : ∃ p vs, v = .ref p ∧ (SqL X.K H p vs ∨ SqT X.K H p vs) ∧ RDs X.K ρ H ds vs ∧ vs.length ≤ sizeLine := by
  cases x with
  | tup d =>
    cases h
    obtain ⟨a, vs, rfl, ta, ra⟩ := rx.tup
    exact ⟨a, vs, rfl, .inr ta.sq, ra, ta.1⟩
  | frz d =>
    cases h
    obtain ⟨a, vs, rfl, ta, ra⟩ := rx.frz
    exact ⟨a, vs, rfl, .inl ta.sq, ra, ta.1⟩
  | ref l =>
    unfold seqD at h
    dsimp only at h
    split at h
    · rename_i d e
      cases h
      obtain ⟨p, vs, rfl, hp, hv, ra, za⟩ := rs.lstAt rx e
      exact ⟨p, vs, rfl, .inl (SqL.of hv), ra, za⟩
    · cases h
  | _ => cases h
abbrev rLenA (K : PySem.W.Frag) : List V → Hp → VK → Prop := fun xs H Q => (fun xs H Q => ∃ x n, xs = [x] ∧ LenV K x H n ∧ Q (.int n) H) xs H Q ∨ (fun xs H Q => ∃ a kvs, xs = [V.ref a] ∧ H a = some (.dK kvs) ∧ Q (.int kvs.length) H) xs H Q
theorem lenS {E : XK} {ρ : List Addr} {S : Store} {H : Hp} {x : D} {v : V} {Q : VK} (rs : RS X.K T ρ S H) (rx : RD X.K ρ H x v) (h : Post X.K X.mg T E ρ H (RD X.K) Q (match seqD S x with | some ds => Res.ok (.int ds.length) S | none => .bad)) : ∃ y n, [v] = [y] ∧ LenV X.K y H n ∧ Q (.int n) H := by
  cases e : seqD S x with
  | none => rw [e] at h; exact (show False from h).elim
  | some ds =>
    rw [e] at h
    obtain ⟨p, vs, rfl, hq, ra, za⟩ := seq_at rs rx e
    refine ⟨_, vs.length, rfl, ?_, ?_⟩
    · rcases hq with z | z
      · exact .inl ⟨vs, z, rfl⟩
      · exact .inr ⟨vs, z, rfl⟩
    · rw [← ra.len]
      exact h ρ H _ (Le.refl _ _) rs rd_int
theorem os_len : CallR X (.builtin "len") (rLenA X.K) ∧ C1S X T (rLenA X.K) fLen := by
  refine ⟨CallR.or call_len call_lenD, ?_⟩
  intro E ρ S H x v Q rs rx h
  cases x with
  | str i =>
    unfold fLen at h
    dsimp only at h
    by_cases c : i.length ≤ LIM
    · rw [if_pos c] at h
      exact .inl ⟨v, i.length, rfl, by rw [rx.str]; exact ⟨by rw [← lim_eq]; exact c, rfl⟩, h ρ H _ (Le.refl _ _) rs rd_int⟩
    · rw [if_neg c] at h; exact (show False from h).elim
  | ref l =>
    unfold fLen at h
    dsimp only at h
    split at h
    · rename_i kvs e
      obtain ⟨p, vs, rfl, hp, hv, ra, za⟩ := rs.dkAt rx e
      refine .inr ⟨p, vs, rfl, hv, ?_⟩
      rw [← Paired.length ra]
      exact h ρ H _ (Le.refl _ _) rs rd_int
    · exact .inl (lenS rs rx h)
  | tup ds => exact .inl (lenS rs rx h)
  | frz ds => exact .inl (lenS rs rx h)
  | _ => exact (show False from h).elim
theorem os_list : CallR X (.type "list") (fun xs H Q => ∃ p ys, xs = [.ref p] ∧ (SqL X.K H p ys ∨ SqT X.K H p ys) ∧ ∀ l, H l = none → Q (.ref l) (upd H l (.lst ys))) ∧ C1S X T (fun xs H Q => ∃ p ys, xs = [.ref p] ∧ (SqL X.K H p ys ∨ SqT X.K H p ys) ∧ ∀ l, H l = none → Q (.ref l) (upd H l (.lst ys))) fList := by
  refine ⟨call_list_of, ?_⟩
  intro E ρ S H x v Q rs rx h
  unfold fList at h
  cases e : seqD S x with
  | none => rw [e] at h; exact (show False from h).elim
  | some ds =>
    rw [e] at h
    obtain ⟨p, vs, rfl, hq, ra, za⟩ := seq_at rs rx e
    refine ⟨p, vs, rfl, hq, fun l hl => ?_⟩
    obtain ⟨q1, q2, q3⟩ := lst_new rs hl ra za
    exact h _ _ _ q1 q2 q3
abbrev rTupleA (K : PySem.W.Frag) : List V → Hp → VK → Prop := fun xs H Q => ∃ p ys, xs = [.ref p] ∧ ((SqL K H p ys ∧ ∀ l, H l = none → Q (.ref l) (upd H l (.tup ys))) ∨ (SqT K H p ys ∧ Q (.ref p) H))
theorem os_tuple : CallR X (.type "tuple") (rTupleA X.K) ∧ C1S X T (rTupleA X.K) fTuple := by
  refine ⟨call_tuple_of, ?_⟩
  intro E ρ S H x v Q rs rx h
  unfold fTuple at h
  cases e : seqD S x with
  | none => rw [e] at h; exact (show False from h).elim
  | some ds =>
    rw [e] at h
    cases x with
    | tup d =>
      cases e
      obtain ⟨a, vs, rfl, ta, ra⟩ := rx.tup
      exact ⟨a, vs, rfl, .inr ⟨ta.sq, h ρ H _ (Le.refl _ _) rs rx⟩⟩
    | frz d =>
      cases e
      obtain ⟨a, vs, rfl, ta, ra⟩ := rx.frz
      refine ⟨a, vs, rfl, .inl ⟨ta.sq, fun l hl => ?_⟩⟩
      obtain ⟨q1, q2, q3⟩ := tup_new rs hl ra ta.1
      exact h _ _ _ q1 q2 q3
    | ref l =>
      unfold seqD at e
      dsimp only at e
      split at e
      · rename_i d e0
        cases e
        obtain ⟨p, vs, rfl, hp, hv, ra, za⟩ := rs.lstAt rx e0
        refine ⟨p, vs, rfl, .inl ⟨SqL.of hv, fun l hl => ?_⟩⟩
        obtain ⟨q1, q2, q3⟩ := tup_new rs hl ra za
        exact h _ _ _ q1 q2 q3
      · cases e
    | _ => cases e
theorem os_max2 (hc : X.calm = true) : CallR X (.builtin "max") (fun xs H Q => ∃ i j, xs = [.int i, .int j] ∧ Q (.int (if j > i then j else i)) H) ∧ C2S X T (fun xs H Q => ∃ i j, xs = [.int i, .int j] ∧ Q (.int (if j > i then j else i)) H) oMax := by
  refine ⟨call_max2 hc, ?_⟩
  intro E ρ S H x y v w Q rs rx ry h
  cases x with
  | int i =>
    cases y with
    | int j => exact ⟨i, j, by rw [rx.int, ry.int], h ρ H _ (Le.refl _ _) rs rd_int⟩
    | _ => exact (show False from h).elim
  | _ => cases y <;> exact (show False from h).elim
theorem os_min2 (hc : X.calm = true) : CallR X (.builtin "min") (fun xs H Q => ∃ i j, xs = [.int i, .int j] ∧ Q (.int (if j < i then j else i)) H) ∧ C2S X T (fun xs H Q => ∃ i j, xs = [.int i, .int j] ∧ Q (.int (if j < i then j else i)) H) oMin := by
  refine ⟨call_min2 hc, ?_⟩
  intro E ρ S H x y v w Q rs rx ry h
  cases x with
  | int i =>
    cases y with
    | int j => exact ⟨i, j, by rw [rx.int, ry.int], h ρ H _ (Le.refl _ _) rs rd_int⟩
    | _ => exact (show False from h).elim
  | _ => cases y <;> exact (show False from h).elim
theorem os_bool : CallR X (.type "bool") (fun xs H Q => (∃ i, xs = [.int i] ∧ Q (.bl (i != 0)) H) ∨ ∃ k, xs = [.bl k] ∧ Q (.bl k) H) ∧ C1S X T (fun xs H Q => (∃ i, xs = [.int i] ∧ Q (.bl (i != 0)) H) ∨ ∃ k, xs = [.bl k] ∧ Q (.bl k) H) fBool := by
  refine ⟨call_bool1, ?_⟩
  intro E ρ S H x v Q rs rx h
  cases x with
  | int i => exact .inl ⟨i, by rw [rx.int], h ρ H _ (Le.refl _ _) rs rd_bl⟩
  | bl i => exact .inr ⟨i, by rw [rx.bl], h ρ H _ (Le.refl _ _) rs rd_bl⟩
  | _ => exact (show False from h).elim
/-- ints in a row -/
theorem intsD_v {K : PySem.W.Frag} {ρ : List Addr} {H : Hp} : ∀ {ds : List D} {vs : List V} {ns : List Int}, intsD ds = some ns → RDs K ρ H ds vs → vs = ns.map V.int
  | [], vs, ns, h, r => by unfold intsD at h; cases h; unfold RDs at r; subst r; rfl
  | d :: ds, vs, ns, h, r => by
    unfold RDs at r
    obtain ⟨v, w, rfl, r1, r2⟩ := r
    cases d with
    | int i =>
      unfold intsD at h
      split at h
      · rename_i is e
        cases h
        rw [intsD_v e r2, r1.int]; rfl
      · cases h
    | _ => unfold intsD at h; cases h
theorem rds_ints {K : PySem.W.Frag} {ρ : List Addr} {H : Hp} : ∀ ns : List Int, RDs K ρ H (ns.map D.int) (ns.map V.int)
  | [] => by unfold List.map RDs; rfl
  | n :: ns => by
    show RDs K ρ H (.int n :: ns.map D.int) (.int n :: ns.map V.int)
    unfold RDs
    exact ⟨_, _, rfl, rd_int, rds_ints ns⟩
theorem insI_perm (a : Int) : ∀ l, (insI a l).Perm (a :: l)
  | [] => .refl _
  | b :: l => by
    unfold insI
    split
    · exact .refl _
    · exact ((insI_perm a l).cons b).trans (.swap a b l)
theorem sortI_perm : ∀ l, (sortI l).Perm l
  | [] => .refl _
  | a :: l => (insI_perm a _).trans ((sortI_perm l).cons a)
theorem insI_sorted (a : Int) : ∀ l : List Int, l.Pairwise (· ≤ ·) → (insI a l).Pairwise (· ≤ ·)
  | [], _ => .cons (by simp) .nil
  | b :: l, h => by
    unfold insI
    split
    · rename_i c
      refine .cons (fun x hx => ?_) h
      rcases List.mem_cons.mp hx with z | z
      · rw [z]; exact c
      · exact Int.le_trans c ((List.pairwise_cons.mp h).1 x z)
    · rename_i c
      refine .cons (fun x hx => ?_) (insI_sorted a l (List.pairwise_cons.mp h).2)
      rcases List.mem_cons.mp ((insI_perm a l).mem_iff.mp hx) with z | z
      · rw [z]; omega
      · exact (List.pairwise_cons.mp h).1 x z
theorem sortI_sorted : ∀ l, (sortI l).Pairwise (· ≤ ·)
  | [] => .nil
  | a :: l => insI_sorted a _ (sortI_sorted l)
theorem sortI_is {l m : List Int} (h : m.Perm l) (s : m.Pairwise (· ≤ ·)) : m = sortI l :=
  List.Perm.eq_of_pairwise (fun x y _ _ h1 h2 => Int.le_antisymm h1 h2) s (sortI_sorted l) (h.trans (sortI_perm l).symm)
theorem kD_rd {K : PySem.W.Frag} {ρ : List Addr} {H : Hp} {k : Kk} {v : V} (h : RD K ρ H (kD k) v) : v = kV k := by
  cases k with
  | inl i => exact h.int
  | inr i => exact h.str
theorem rd_kD {K : PySem.W.Frag} {ρ : List Addr} {H : Hp} (k : Kk) : RD K ρ H (kD k) (kV k) := by
  cases k with
  | inl i => exact rd_int
  | inr i => exact rd_str
theorem keyD_eq {x : D} {k : Kk} (h : keyD x = some k) : x = kD k := by
  cases x with
  | int i => unfold keyD at h; cases h; rfl
  | str i => unfold keyD at h; cases h; rfl
  | _ => unfold keyD at h; cases h
abbrev rSortA (K : PySem.W.Frag) : List V → Hp → VK → Prop := fun xs H Q => rSortedI K xs H Q ∨ (fun xs H Q => ∃ (a : Addr) (kvs : List (Key × V)) (ks : List Int), xs = [.ref a] ∧ Rd H a (.dK kvs) ∧ kvs.map (·.1) = ks.map Sum.inl ∧
    ∀ (ys : List Int) (p : Addr), ys.Perm ks → ys.Pairwise (· ≤ ·) → H p = none → Q (.ref p) (upd H p (.lst (ys.map V.int)))) xs H Q
theorem intsD_keys : ∀ {kvs : List (Kk × D)} {ns : List Int}, intsD (kvs.map fun kv => kD kv.1) = some ns → kvs.map (·.1) = ns.map Sum.inl
  | [], ns, h => by unfold List.map intsD at h; cases h; rfl
  | (k, d) :: r, ns, h => by
    cases k with
    | inl i =>
      have h' : (match intsD (r.map fun kv => kD kv.1) with | some is => some (i :: is) | none => none) = some ns := h
      split at h'
      · rename_i is e
        cases h'
        rw [List.map_cons, intsD_keys e]; rfl
      · cases h'
    | inr i => cases h
theorem os_sorted (hc : X.calm = true) : CallR X (.builtin "sorted") (rSortA X.K) ∧ C1S X T (rSortA X.K) fSorted := by
  refine ⟨CallR.or cr_sortedI (wk_sortedDI hc), ?_⟩
  intro E ρ S H x v Q rs rx h
  cases x with
  | ref l =>
    unfold fSorted at h
    dsimp only at h
    cases e0 : S[l]? with
    | none => rw [e0] at h; exact (show False from h).elim
    | some ob =>
      rw [e0] at h
      cases ob with
      | lst ds =>
        dsimp only at h
        cases e1 : intsD ds with
        | none => rw [e1] at h; exact (show False from h).elim
        | some ns =>
          rw [e1] at h
          obtain ⟨p, vs, rfl, hp, hv, ra, za⟩ := rs.lstAt rx e0
          have ev := intsD_v e1 ra
          subst ev
          refine .inl ⟨p, ns, rfl, SqL.of hv, fun ns' q perm srt hq => ?_⟩
          rw [sortI_is perm srt]
          obtain ⟨q1, q2, q3⟩ := lst_new rs hq (rds_ints (sortI ns)) (by
            rw [List.length_map, (sortI_perm ns).length_eq, ← List.length_map (f := V.int)]; exact za)
          exact h _ _ _ q1 q2 q3
      | dk kvs =>
        dsimp only at h
        cases e1 : intsD (kvs.map fun kv => kD kv.1) with
        | none => rw [e1] at h; exact (show False from h).elim
        | some ns =>
          rw [e1] at h
          obtain ⟨p, vs, rfl, hp, hv, ra, za⟩ := rs.dkAt rx e0
          have hk : vs.map (·.1) = ns.map Sum.inl := by
            rw [← intsD_keys e1]
            clear h e1 e0 hv za
            induction ra with
            | nil => rfl
            | cons r t ih => rw [List.map_cons, List.map_cons, ih, r.1]
          have hlen : ns.length ≤ sizeLine := by
            have := congrArg List.length hk
            rw [List.length_map, List.length_map] at this
            rw [← this]; exact za
          dsimp only at h
          rw [if_pos (by rw [lim_eq]; exact hlen)] at h
          refine .inr ⟨p, vs, ns, rfl, .inl hv, hk, fun ns' q perm srt hq => ?_⟩
          rw [sortI_is perm srt]
          obtain ⟨q1, q2, q3⟩ := lst_new rs hq (rds_ints (sortI ns)) (by
            rw [List.length_map, (sortI_perm ns).length_eq]; exact hlen)
          exact h _ _ _ q1 q2 q3
      | dt kvs => exact (show False from h).elim
  | _ => exact (show False from h).elim
theorem minI_some : ∀ (a : Int) (l : List Int), minI (a :: l) ≠ none
  | a, [] => by unfold minI; simp
  | a, b :: l => by unfold minI; split <;> simp
theorem minI_spec : ∀ {l : List Int} {m : Int}, minI l = some m → m ∈ l ∧ ∀ y ∈ l, m ≤ y
  | [], m, h => by unfold minI at h; cases h
  | [a], m, h => by unfold minI at h; cases h; simp
  | a :: b :: l, m, h => by
    unfold minI at h
    cases e : minI (b :: l) with
    | none => exact absurd e (minI_some b l)
    | some k =>
      rw [e] at h
      obtain ⟨h1, h2⟩ := minI_spec e
      have hm : (if k < a then k else a) = m := Option.some.inj h
      subst hm
      split
      · rename_i c
        refine ⟨List.mem_cons_of_mem _ h1, fun y hy => ?_⟩
        rcases List.mem_cons.mp hy with z | z
        · omega
        · exact h2 y z
      · rename_i c
        refine ⟨List.mem_cons_self, fun y hy => ?_⟩
        rcases List.mem_cons.mp hy with z | z
        · omega
        · have := h2 y z; omega
theorem os_minL (hc : X.calm = true) : CallR X (.builtin "min") (rMin X.K) ∧ C1S X T (rMin X.K) fMin := by
  refine ⟨cr_min hc, ?_⟩
  intro E ρ S H x v Q rs rx h
  cases x with
  | ref l =>
    unfold fMin at h
    dsimp only at h
    cases e0 : S[l]? with
    | none => rw [e0] at h; exact (show False from h).elim
    | some ob =>
      rw [e0] at h
      cases ob with
      | lst ds =>
        dsimp only at h
        cases e1 : intsD ds with
        | none => rw [e1] at h; exact (show False from h).elim
        | some ns =>
          rw [e1] at h
          dsimp only at h
          cases e2 : minI ns with
          | none => rw [e2] at h; exact (show False from h).elim
          | some m =>
            rw [e2] at h
            obtain ⟨p, vs, rfl, hp, hv, ra, za⟩ := rs.lstAt rx e0
            have ev := intsD_v e1 ra
            subst ev
            obtain ⟨m1, m2⟩ := minI_spec e2
            refine ⟨p, ns, rfl, SqL.of hv, List.length_pos_of_mem m1, fun k hk hle => ?_⟩
            have : k = m := Int.le_antisymm (hle m m1) (m2 k hk)
            subst this
            exact h ρ H _ (Le.refl _ _) rs rd_int
      | _ => exact (show False from h).elim
  | _ => exact (show False from h).elim
/-- pairs in a row: the tuples' addresses, keys and values -/
theorem pairsD_v {ρ : List Addr} {H : Hp} : ∀ {ds : List D} {vs : List V} {kvs : List (Kk × D)}, pairsD ds = some kvs → RDs X.K ρ H ds vs → ∃ (ps : List Addr) (kws : List (Key × V)), vs = ps.map V.ref ∧ Paired (fun p kv => SqT X.K H p [kV kv.1, kv.2]) ps kws ∧ RKs X.K ρ H kvs kws
  | [], vs, kvs, h, r => by unfold pairsD at h; cases h; unfold RDs at r; subst r; exact ⟨[], [], rfl, .nil, .nil⟩
  | d :: ds, vs, kvs, h, r => by
    unfold RDs at r
    obtain ⟨v, w, rfl, r1, r2⟩ := r
    unfold pairsD at h
    split at h
    · rename_i e'; cases e'
    · rename_i k x ds' e'
      have he := List.cons.inj e'
      obtain ⟨hd, hds⟩ := he
      subst hd hds
      split at h
      · rename_i k' r' e1 e2
        cases h
        obtain ⟨ps, kws, a1, a2, a3⟩ := pairsD_v e2 r2
        obtain ⟨p, us, rfl, ta, ra⟩ := r1.tup
        have ek := keyD_eq e1
        subst ek
        unfold RDs RDs RDs at ra
        obtain ⟨u1, _, rfl, b1, u2, _, rfl, b2, rfl⟩ := ra
        have eb := kD_rd b1
        subst eb
        exact ⟨p :: ps, (k', u2) :: kws, by rw [a1]; rfl, .cons ta.sq a2, .cons ⟨rfl, b2⟩ a3⟩
      · cases h
    · cases h
theorem map_ks {K : PySem.W.Frag} {ρ : List Addr} {H : Hp} {κ : Type} [DecidableEq κ] {k : κ} {d : D} {v : V} (rd : RD K ρ H d v) : ∀ {kvs : List (κ × D)} {kws : List (κ × V)}, RKs K ρ H kvs kws → RKs K ρ H (kvs.map fun kv => if kv.1 = k then (kv.1, d) else kv) (kws.map fun kv => if kv.1 = k then (kv.1, v) else kv)
  | _, _, .nil => .nil
  | p :: l1, q :: l2, .cons r t => by
    refine .cons ?_ (map_ks rd t)
    dsimp only
    rw [r.1]
    by_cases c : q.1 = k
    · rw [if_pos c, if_pos c]; exact ⟨rfl, rd⟩
    · rw [if_neg c, if_neg c]; exact ⟨r.1, r.2⟩
theorem any_ks {K : PySem.W.Frag} {ρ : List Addr} {H : Hp} {κ : Type} [DecidableEq κ] {k : κ} : ∀ {kvs : List (κ × D)} {kws : List (κ × V)}, RKs K ρ H kvs kws → (kvs.any fun kv => decide (kv.1 = k)) = kws.any fun kv => decide (kv.1 = k)
  | _, _, .nil => rfl
  | p :: l1, q :: l2, .cons r t => by rw [List.any_cons, List.any_cons, any_ks t, r.1]
theorem putD_ks {K : PySem.W.Frag} {ρ : List Addr} {H : Hp} {κ : Type} [DecidableEq κ] {kvs : List (κ × D)} {kws : List (κ × V)} {k : κ} {d : D} {v : V} (r : RKs K ρ H kvs kws) (rd : RD K ρ H d v) : RKs K ρ H (putD kvs k d) (putK kws k v) := by
  unfold putD putK
  rw [any_ks r]
  split
  · exact map_ks rd r
  · exact Paired.app r (.cons ⟨rfl, rd⟩ .nil)
theorem valD_ks {K : PySem.W.Frag} {ρ : List Addr} {H : Hp} {κ : Type} [DecidableEq κ] {kvs : List (κ × D)} {kws : List (κ × V)} (r : RKs K ρ H kvs kws) (k : κ) : (valD kvs k = none ∧ valV kws k = none) ∨ ∃ d v, valD kvs k = some d ∧ valV kws k = some v ∧ RD K ρ H d v := by
  induction r with
  | nil => exact .inl ⟨rfl, rfl⟩
  | cons r t ih =>
    rename_i p q l1 l2
    by_cases c : p.1 = k
    · exact .inr ⟨p.2, q.2, by simp [valD, List.find?_cons, c], valV_pos (r.1.symm.trans c), r.2⟩
    · have c' : ¬ q.1 = k := fun z => c (r.1.trans z)
      rw [show valD (p :: l1) k = valD l1 k from by simp [valD, List.find?_cons, c], valV_neg c']
      exact ih
theorem mergeD_ks {K : PySem.W.Frag} {ρ : List Addr} {H : Hp} : ∀ {more : List (Kk × D)} {more' : List (Key × V)} {kvs : List (Kk × D)} {kws : List (Key × V)}, RKs K ρ H more more' → RKs K ρ H kvs kws → RKs K ρ H (mergeD kvs more) (mergeK kws more')
  | _, _, _, _, .nil, h => h
  | p :: m, q :: m', kvs, kws, .cons r t, h => by
    unfold mergeD mergeK
    rw [List.foldl_cons, List.foldl_cons, r.1]
    exact mergeD_ks t (putD_ks h r.2)
theorem os_dict (hc : X.calm = true) : CallR X (.type "dict") (fun xs H Q => ∃ (a : Addr) (ps : List Addr) (kvs : List (Key × V)), xs = [.ref a] ∧ SqL X.K H a (ps.map V.ref) ∧ Paired (fun p kv => SqT X.K H p [kV kv.1, kv.2]) ps kvs ∧
    ∀ p, H p = none → Q (.ref p) (upd H p (.dK (mergeK [] kvs)))) ∧ C1S X T (fun xs H Q => ∃ (a : Addr) (ps : List Addr) (kvs : List (Key × V)), xs = [.ref a] ∧ SqL X.K H a (ps.map V.ref) ∧ Paired (fun p kv => SqT X.K H p [kV kv.1, kv.2]) ps kvs ∧
    ∀ p, H p = none → Q (.ref p) (upd H p (.dK (mergeK [] kvs)))) fDict := by
  refine ⟨call_dictP hc, ?_⟩
  intro E ρ S H x v Q rs rx h
  cases x with
  | ref l =>
    unfold fDict at h
    dsimp only at h
    cases e0 : S[l]? with
    | none => rw [e0] at h; exact (show False from h).elim
    | some ob =>
      rw [e0] at h
      cases ob with
      | lst ds =>
        dsimp only at h
        cases e1 : pairsD ds with
        | none => rw [e1] at h; exact (show False from h).elim
        | some kvs =>
          rw [e1] at h
          obtain ⟨p, vs, rfl, hp, hv, ra, za⟩ := rs.lstAt rx e0
          obtain ⟨ps, kws, rfl, a2, a3⟩ := pairsD_v e1 ra
          refine ⟨p, ps, kws, rfl, SqL.of hv, a2, fun q hq => ?_⟩
          obtain ⟨q1, q2, q3⟩ := dk_new rs hq (mergeD_ks a3 (.nil : RKs X.K ρ H [] [])) (by
            refine Nat.le_trans (length_mergeK kws []) ?_
            rw [List.length_nil, Nat.zero_add, ← Paired.length a2, ← List.length_map (f := V.ref)]; exact za)
          exact h _ _ _ q1 q2 q3
      | _ => exact (show False from h).elim
  | _ => exact (show False from h).elim

/-! ### isinstance(x, T), T a built-in type -/
theorem ty_of {ρ : List Addr} {S : Store} {H : Hp} {x : D} {v : V} {t : String} (rs : RS X.K T ρ S H) (rx : RD X.K ρ H x v) (h : tyD S x = some t) : TyX X.K H v (.type t) := by
  cases x with
  | non => cases h; rw [rx.non]; exact .base .non
  | bl b => cases h; rw [rx.bl]; exact .base (.bl b)
  | int b => cases h; rw [rx.int]; exact .base (.int b)
  | str b => cases h; rw [rx.str]; exact .base (.str b)
  | tup b =>
    cases h
    obtain ⟨a, vs, rfl, ta, ra⟩ := rx.tup
    rcases ta.2 with z | ⟨o, its, n, k1, k2, _⟩
    · exact .base (.tup z)
    · exact .kTuple k1 k2
  | frz b =>
    cases h
    obtain ⟨a, vs, rfl, ta, ra⟩ := rx.frz
    rcases ta.2 with ⟨o, z⟩ | ⟨o, its, n, k1, k2, _⟩
    · exact .base (.frz z)
    · exact .kList k1 k2
  | ref l =>
    unfold tyD at h
    dsimp only at h
    split at h
    · rename_i ds e
      cases h
      obtain ⟨p, vs, rfl, hp, hv, _⟩ := rs.lstAt rx e
      exact .base (.lst hv)
    · rename_i ds e
      cases h
      obtain ⟨p, vs, rfl, hp, hv, _⟩ := rs.dkAt rx e
      exact .base (.dK hv)
    · rename_i ds e
      cases h
      obtain ⟨p, vs, rfl, hp, hv, _⟩ := rs.dtAt rx e
      exact .base (.dT hv)
    · cases h
def tysD : List String := ["NoneType", "bool", "int", "str", "tuple", "list", "dict"]
theorem tyD_in {S : Store} {x : D} {t : String} (h : tyD S x = some t) : t ∈ tysD := by
  cases x <;> unfold tyD at h <;> dsimp only at h
  all_goals first
    | (cases h; decide)
    | (split at h <;> first | (cases h; decide) | cases h)
theorem ev_isinst {n : String} {x : Str} {p p2 : Pos} (hk : ∀ t ∈ tysD, kitB t n = some (isTy t n)) (hm : X.mg "isinstance" = none) (hmT : X.mg x = none) (hvT : bootBuiltins x = some (.type n)) (ha : EV X T W a fa) (hg : Gl X "isinstance" := by rfl) (hgT : Gl X x := by rfl) (hn : x ≠ "__name__" := by decide) (hdb : (x == ("__debug__" : Str)) = false := by decide)
    (hv : bootBuiltins "isinstance" = some (.builtin "isinstance") := by decide +kernel)
    (he : starEach (a :: [.Name x p2]) X.env = (false, eval a X.env) :: starEach [.Name x p2] X.env := by rfl) (he2 : starEach (.Name x p2 :: []) X.env = (false, eval (.Name x p2) X.env) :: starEach [] X.env := by rfl) (hpl : (backTo pos (starEach [.Name x p2] X.env)).any (·.1) = false := by rfl) :
    EV X T W (.Call (.Name "isinstance" p) [a, .Name x p2] [] pos) (eUn (fIsInst n) fa) := by
  refine PE.imp (pe_callB call_isi hg hm hv (pa_cons ha (pa_cons (pe_bltn (v := .ty n) hgT hmT hvT rfl hn hdb) pa_nil he2) he) (by decide) (by decide) he hpl) ?_
  rintro σ H Q ⟨ρ, S, s, rs, re, h⟩
  refine ⟨ρ, S, s, rs, re, (Post.bind (R := RD X.K) h).imp ?_⟩
  rintro v H1 ⟨ρ1, S1, d, l1, rs1, rd1, h1⟩
  unfold fIsInst at h1
  cases e : tyD S1 d with
  | none => rw [e] at h1; exact (show False from h1).elim
  | some t =>
    rw [e] at h1
    exact ⟨v, .ty n, .type t, .type n, isTy t n, rfl, .ty n, ty_of rs1 rd1 e, kit_ty (hk t (tyD_in e)), h1 ρ1 H1 _ (Le.refl _ _) rs1 rd_bl⟩

/-! ### dicts -/
theorem dget_of {ρ : List Addr} {S : Store} {H : Hp} {l : Nat} {v w : V} {y : D} {o : Option D} (rs : RS X.K T ρ S H) (rx : RD X.K ρ H (.ref l) v) (ry : RD X.K ρ H y w) (h : Wk.getD S l y = some o) : ∃ a ov, v = .ref a ∧ DGet H a w ov ∧ ((o = none ∧ ov = none) ∨ ∃ d u, o = some d ∧ ov = some u ∧ RD X.K ρ H d u) := by
  unfold Wk.getD at h
  split at h
  · rename_i kvs e
    split at h
    · rename_i k ek
      cases h
      obtain ⟨p, kws, rfl, hp, hv, ra, za⟩ := rs.dkAt rx e
      have eb := keyD_eq ek
      subst eb
      have ew := kD_rd ry
      subst ew
      refine ⟨p, _, rfl, DGet.k hv, ?_⟩
      exact valD_ks ra k
    · cases h
  · cases h
theorem NoSl.of (h : ∀ ov iv, subscripted b false ov iv = operate [ov, iv] (getItem ov iv)) : NoSl b := h
theorem ev_ixD {k : Nat} (hr : Room k X.A) (ha : EV X T W a fa) (hb : EV X T W b fb) (hs : NoSl b := by exact fun _ _ => rfl) : EV X T W (.Subscript a b pos) (eOp oIxD fa fb) := by
  refine PE.imp (pe_dget (hu_of hr) ha hb hs) ?_
  rintro σ H Q ⟨ρ, S, s, rs, re, h⟩
  refine ⟨ρ, S, s, rs, re, (Post.bind (R := RD X.K) h).imp ?_⟩
  rintro v H1 ⟨ρ1, S1, x, l1, rs1, rd1, h1⟩
  refine ⟨ρ1, S1, s, rs1, re.le rs l1, (Post.bind (R := RD X.K) h1).imp ?_⟩
  rintro w H2 ⟨ρ2, S2, y, l2, rs2, rd2, h2⟩
  have rd1' := rd1.le rs1 l2
  cases x with
  | ref l =>
    unfold oIxD at h2
    dsimp only at h2
    split at h2
    · rename_i d e
      obtain ⟨p, ov, rfl, g, z | ⟨d', u, e1, rfl, ru⟩⟩ := dget_of rs2 rd1' rd2 e
      · cases z.1
      · cases e1
        exact ⟨p, u, rfl, g, h2 ρ2 H2 _ (Le.refl _ _) rs2 ru⟩
    · exact (show False from h2).elim
  | _ => exact (show False from h2).elim
theorem tef_inD {neg : Bool} : ∀ σ H Q, TEf X T W (eOp (if neg then oNinD else oInD) fa fb) σ H Q → (TEf X T W fa) σ H fun y H1 => (TEf X T W fb) σ H1 fun x H2 => ∃ a o, x = .ref a ∧ DGet H2 a y o ∧ Q (.bl (if neg then !o.isSome else o.isSome)) H2 := by
  rintro σ H Q ⟨ρ, S, s, rs, re, h⟩
  refine ⟨ρ, S, s, rs, re, (Post.bind (R := RD X.K) h).imp ?_⟩
  rintro v H1 ⟨ρ1, S1, x, l1, rs1, rd1, h1⟩
  refine ⟨ρ1, S1, s, rs1, re.le rs l1, (Post.bind (R := RD X.K) h1).imp ?_⟩
  rintro w H2 ⟨ρ2, S2, y, l2, rs2, rd2, h2⟩
  have rd1' := rd1.le rs1 l2
  have e0 : (if neg then oNinD else oInD) x y S2 = if neg then notR (oInD x y S2) else oInD x y S2 := by cases neg <;> rfl
  rw [e0] at h2
  cases y with
  | ref l =>
    unfold oInD at h2
    dsimp only at h2
    cases e : Wk.getD S2 l x with
    | none => rw [e] at h2; cases neg <;> exact (show False from h2).elim
    | some o =>
      rw [e] at h2
      obtain ⟨p, ov, rfl, g, z⟩ := dget_of rs2 rd2 rd1' e
      have es : ov.isSome = o.isSome := by
        rcases z with ⟨rfl, rfl⟩ | ⟨d, u, rfl, rfl, _⟩ <;> rfl
      refine ⟨p, ov, rfl, g, ?_⟩
      rw [es]
      cases neg with
      | true => exact h2 ρ2 H2 _ (Le.refl _ _) rs2 rd_bl
      | false => exact h2 ρ2 H2 _ (Le.refl _ _) rs2 rd_bl
  | _ => cases neg <;> exact (show False from h2).elim
theorem ev_inD {k : Nat} (hr : Room k X.A) (ha : EV X T W a fa) (hb : EV X T W b fb) (hm : behindInMarks .In b = false := by rfl) : EV X T W (.Compare a [.In] [b] pos) (eOp oInD fa fb) :=
  PE.imp (pe_cmp (pc_din (hu_of hr) ha hb) hm) (tef_inD (neg := false))
theorem ev_ninD {k : Nat} (hr : Room k X.A) (ha : EV X T W a fa) (hb : EV X T W b fb) (hm : behindInMarks .NotIn b = false := by rfl) : EV X T W (.Compare a [.NotIn] [b] pos) (eOp oNinD fa fb) :=
  PE.imp (pe_cmp (pc_dnotin (hu_of hr) ha hb) hm) (tef_inD (neg := true))
theorem et_inD {k : Nat} (hr : Room k X.A) (ha : EV X T W a fa) (hb : EV X T W b fb) (hm : behindInMarks .In b = false := by rfl) : ET X T W (.Compare a [.In] [b] pos) (tE (eOp oInD fa fb)) := by
  refine PT.imp (pt_cmp (pc_din (hu_of hr) ha hb) hm) ?_
  intro σ H Q h
  obtain ⟨ρ, S, s, rs, re, h⟩ := ttf_e _ _ _ h
  exact tef_inD (neg := false) _ _ _ ⟨ρ, S, s, rs, re, h⟩
theorem et_ninD {k : Nat} (hr : Room k X.A) (ha : EV X T W a fa) (hb : EV X T W b fb) (hm : behindInMarks .NotIn b = false := by rfl) : ET X T W (.Compare a [.NotIn] [b] pos) (tE (eOp oNinD fa fb)) := by
  refine PT.imp (pt_cmp (pc_dnotin (hu_of hr) ha hb) hm) ?_
  intro σ H Q h
  obtain ⟨ρ, S, s, rs, re, h⟩ := ttf_e _ _ _ h
  exact tef_inD (neg := true) _ _ _ ⟨ρ, S, s, rs, re, h⟩
theorem es_subD {k : Nat} {pos' : Pos} (hr : Room k X.A) (hv : EV X T W c fc) (ho : EV X T W a fa) (hi : EV X T W b fb) (hs : swapsWith c (some (.Subscript a b pos')) pos.line X.env = pure false := by rfl) : ES X T W (.Assign [.Subscript a b pos'] c pos) (sSub uSetD fa fb fc) := by
  refine PS.imp (ps_dput (hu_of hr) ho hi hv hs) ?_
  rintro D σ H ⟨ρ, S, s, rs, re, h⟩
  refine ⟨ρ, S, s, rs, re, (PostS.ofE (R := RD X.K) rs re h).imp ?_⟩
  rintro v H1 ⟨ρ1, S1, d, l1, rs1, re1, rd1, h1⟩
  refine ⟨ρ1, S1, s, rs1, re1, (PostS.ofE (R := RD X.K) rs1 re1 h1).imp ?_⟩
  rintro w H2 ⟨ρ2, S2, d2, l2, rs2, re2, rd2, h2⟩
  refine ⟨ρ2, S2, s, rs2, re2, (PostS.ofE (R := RD X.K) rs2 re2 h2).imp ?_⟩
  rintro u H3 ⟨ρ3, S3, d3, l3, rs3, re3, rd3, h3⟩
  have rd1' := (rd1.le rs1 l2).le rs2 l3
  have rd2' := rd2.le rs2 l3
  cases d2 with
  | ref l =>
    unfold uSetD at h3
    dsimp only at h3
    cases e0 : S3[l]? with
    | none => rw [e0] at h3; exact (show False from h3).elim
    | some ob =>
      rw [e0] at h3
      cases ob with
      | dk kvs =>
        obtain ⟨p, kws, rfl, hp, hv', ra, za⟩ := rs3.dkAt rd2' e0
        dsimp only at h3
        cases ek : keyD d3 with
        | none => rw [ek] at h3; exact (show False from h3).elim
        | some kk =>
          rw [ek] at h3
          have eb := keyD_eq ek
          subst eb
          have ew := kD_rd rd3
          subst ew
          dsimp only at h3
          by_cases c : kvs.length < LIM
          · rw [if_pos c] at h3
            rw [lim_eq, Paired.length ra] at c
            obtain ⟨q1, q2⟩ := dk_write rs3 hp e0 (putD_ks ra rd1' (k := kk)) (by have := length_putK kws kk v; omega)
            exact ⟨p, _, rfl, DPut.k hv' c, h3 ρ3 _ σ q1 q2 (re3.le rs3 q1)⟩
          · rw [if_neg c] at h3; exact (show False from h3).elim
      | _ => exact (show False from h3).elim
  | _ => exact (show False from h3).elim
end
end Wk


set_option Elab.async false
set_option linter.all false
set_option maxRecDepth 100000
set_option maxHeartbeats 4000000
set_option autoImplicit false
/-! WkLib2: the functional reading of list methods, dict comprehensions, ranges as lists, turned lists. -/
namespace L2
open PySem PySem.Spec PyProof.Rows
section
variable {X : Cx}
/-- name = {..} on one line, the name a local -/
theorem ps_setDc {i : Nat} {y : Str} {py : Pos} {kx vx tg iter : Expr} {ifs : List Expr} {scope : Scope} {own : List (Str × Nat)} {pos spos : Pos} {wi : TI} {g : TG} {tt : TT} {tk tv : TE} (hc : X.calm = true) (hN : X.N.Nodup) (hy : X.N[i]? = some y) (hyl : X.env.scope.names.lookup y = some .local)
    (hsw : swapsWith (.DictComp kx vx [⟨tg, iter, ifs, 0⟩] scope pos) (some (.Name y py)) spos.line X.env = pure true) (hi : PI X tg iter wi) (ok : BlkOk X.N X.env.scope scope own)
    (hg : ∀ (s : Shared) (H : Hp) (C : Addr) (cl : List (Str × Addr)) (fp : List Addr), PG (X.blk s H scope (compEnvC scope cl C X.env) fp) tg g) (ht : ∀ (s : Shared) (H : Hp) (C : Addr) (cl : List (Str × Addr)) (fp : List Addr), PTs (X.blk s H scope (compEnvC scope cl C X.env) fp) ifs tt)
    (hk : ∀ (s : Shared) (H : Hp) (C : Addr) (cl : List (Str × Addr)) (fp : List Addr), PE (X.blk s H scope (compEnvC scope cl C X.env) fp) kx tk)
    (he : ∀ (s : Shared) (H : Hp) (C : Addr) (cl : List (Str × Addr)) (fp : List Addr), PE (X.blk s H scope (compEnvC scope cl C X.env) fp) vx tv) (hs : ∀ x, foldedSetIterable iter X.env x = pure x := by intro _; rfl) :
    PS X (.Assign [.Name y py] (.DictComp kx vx [⟨tg, iter, ifs, 0⟩] scope pos) spos) (tAsg (tDc wi g tt tk tv (own.map (·.2))) (gName i)) := by
  refine ⟨fun pins s σ H D I h => ?_⟩
  rw [exec_Assign_Name_used _ _ _ _ hsw]
  refine wpAny_bind (wpAny_standAt (wpAny_bind ?_))
  show wpAny _ X.A (do let _ ← comprehension (.DictComp kx vx [⟨tg, iter, ifs, 0⟩] scope pos) scope X.env (firstIterPos [⟨tg, iter, ifs, 0⟩] pos) newDict false (eval iter X.env) (some (assign (.Name y py) X.env))) _ _ s
  have h : tDc wi g tt tk tv (own.map (·.2)) σ H (fun x H1 => gName i x σ H1 D.nx) := h
  refine wpAny_bind (thn (dc_core (Qf := fun _ s' => SP X pins D .next s') hc hN I hi ok hg ht hk he hs h fun L C s' m H' I' q hn f => ?_) fun _ s' hq => wpAny_pure (wpAny_pure hq))
  show wpAny _ _ (assign (.Name y py) X.env (.ref L)) _ _ _
  refine wpAny_assign_Name (store_ok2 (v := V.ref L) I' hN hy (.inl hyl) rfl (fun s2 I2 ⟨a, sb, ha⟩ => ?_) (.inr hyl))
  obtain ⟨f0, f1, f2, f3, f4, f5⟩ := f
  have haC : C ≠ a := by
    rcases ha with z | z
    · rw [z]; exact f1
    · exact fun e => f4 y a z e.symm
  refine ⟨m, hn.sameBut sb haC, fun h3 sb3 => ?_⟩
  exact ⟨_, H', I2.turned (t' := s2.toks) (fun b o hb e => (sb3.2 b hb).trans e) f0 f1 f3 f4 f5, q⟩
theorem sw_trueD {kx vx : Expr} {gs : List Comprehension} {scope : Scope} {pos py : Pos} {y : Str} {l : Nat} {env : PySem.Env} (hk : env.scope.kind = .function) (hy : env.scope.names.lookup y = some .local) (hl : (py.line == pos.line) = true)
    (ha : (scope.names.any fun (n, k) => n == y && (k == .local || k == .cell)) = false) : swapsWith (.DictComp kx vx gs scope pos) (some (.Name y py)) l env = pure true := by
  have ky : env.kindOf y = some .local := hy
  have hb : env.blockKind = .function := by unfold Env.blockKind; rw [hk]; rfl
  unfold swapsWith
  simp only [hb, ky, ha, Expr.pos, hl]
  rfl
end
end L2
namespace Wk
open PySem PySem.Spec PyProof.Rows L2
section
variable {X : Cx} {T : Tbs} {W : WX} {pos : Pos} {a b c : Expr} {fa fb fc : FE} {vs : List Nat}
/-! ### list methods -/
theorem isLst_v {ρ : List Addr} {S : Store} {H : Hp} {x : D} {v : V} (rs : RS X.K T ρ S H) (rx : RD X.K ρ H x v) (h : isLst x S = true) : tyV X.K "list" v H := by
  cases x with
  | frz ds =>
    obtain ⟨a, vs, rfl, ta, ra⟩ := rx.frz
    exact .inl ⟨rfl, vs, ta.sq⟩
  | ref l =>
    unfold isLst at h
    dsimp only at h
    split at h
    · rename_i ds e
      obtain ⟨p, vs, rfl, hp, hv, _⟩ := rs.lstAt rx e
      exact .inl ⟨rfl, vs, SqL.of hv⟩
    · cases h
  | _ => cases h
variable (X T) in
def M1S (r : V → List V → Hp → VK → Prop) (o : Op) : Prop := ∀ (E : XK) (ρ : List Addr) (S : Store) (H : Hp) (x y : D) (v w : V) (Q : VK), RS X.K T ρ S H → RD X.K ρ H x v → RD X.K ρ H y w → Post X.K X.mg T E ρ H (RD X.K) Q (o x y S) → r v [w] H Q
theorem ev_m1 {name : Str} {id : String} {apos : Pos} {r : V → List V → Hp → VK → Prop} {o : Op} (slot : Slot "list" name id) (hty : typeOf (.builtin id) = pure (.type "method_descriptor")) (hs : MtR X id r ∧ M1S X T r o) (ho : EV X T W a fa) (ha : EV X T W b fb)
    (hbase : attributeBase a name X.env (eval a X.env) = eval a X.env := by rfl)
    (hfew : ((backTo pos (starEach (b :: []) X.env)).all (fun x => !x.1) && (backToKw pos (keywordEach [] X.env)).all (fun x => x.1.isSome)
      && decide ((b :: []).length + ([] : List Keyword).length + (if ([] : List Keyword).isEmpty then 0 else 1) < 30)) = true := by rfl)
    (hline : (apos.endLine == pos.line) = true := by rfl) (hst : starEach (b :: []) X.env = (false, eval b X.env) :: starEach [] X.env := by rfl) (hplain : (backTo pos (starEach [] X.env)).any (·.1) = false := by rfl) :
    EV X T W (.Call (.Attribute a name apos) [b] [] pos) (eBM o fa fb) := by
  refine PE.imp (pe_bm PySem.F.plainAttrs_list slot hty hs.1 ho (pa_cons ha pa_nil hst) hbase hfew hline hst hplain) ?_
  rintro σ H Q ⟨ρ, S, s, rs, re, h⟩
  refine ⟨ρ, S, s, rs, re, (Post.bind (R := RD X.K) h).imp ?_⟩
  rintro v H1 ⟨ρ1, S1, x, l1, rs1, rd1, h1⟩
  by_cases c : isLst x S1 = true
  · rw [if_pos c] at h1
    refine ⟨isLst_v rs1 rd1 c, ρ1, S1, s, rs1, re.le rs l1, (Post.bind (R := RD X.K) h1).imp ?_⟩
    rintro w H2 ⟨ρ2, S2, y, l2, rs2, rd2, h2⟩
    exact hs.2 _ ρ2 S2 H2 x y v w Q rs2 (rd1.le rs1 l2) rd2 h2
  · rw [if_neg c] at h1; exact (show False from h1).elim
theorem os_append : MtR X "list.append" rAppend ∧ M1S X T rAppend oAppend := by
  refine ⟨mt_append, ?_⟩
  intro E ρ S H x y v w Q rs rx ry h
  cases x with
  | ref l =>
    unfold oAppend at h
    dsimp only at h
    split at h
    · rename_i ds e
      obtain ⟨p, vs, rfl, hp, hv, ra, za⟩ := rs.lstAt rx e
      by_cases c : ds.length < LIM
      · rw [if_pos c] at h
        rw [lim_eq, ra.len] at c
        obtain ⟨q1, q2⟩ := lst_write rs hp e (RDs.of (Paired.app ra.pair (.cons ry .nil))) (by rw [List.length_append, List.length_singleton]; exact c)
        exact ⟨p, vs, w, rfl, rfl, hv, c, h _ _ _ q1 q2 rd_non⟩
      · rw [if_neg c] at h; exact (show False from h).elim
    · exact (show False from h).elim
  | _ => exact (show False from h).elim
theorem os_extend : MtR X "list.extend" rExtend ∧ M1S X T rExtend oExtend := by
  refine ⟨mt_extend, ?_⟩
  intro E ρ S H x y v w Q rs rx ry h
  cases x with
  | ref l =>
    cases y with
    | ref m =>
      unfold oExtend at h
      dsimp only at h
      split at h
      · rename_i ds es e e2
        obtain ⟨p, vs, rfl, hp, hv, ra, za⟩ := rs.lstAt rx e
        obtain ⟨q, ws, rfl, hq, hw, rb, zb⟩ := rs.lstAt ry e2
        by_cases c : ds.length + es.length ≤ LIM
        · rw [if_pos c] at h
          rw [lim_eq, ra.len, rb.len] at c
          obtain ⟨q1, q2⟩ := lst_write rs hp e (RDs.of (Paired.app ra.pair rb.pair)) (by rw [List.length_append]; exact c)
          exact ⟨p, q, vs, ws, rfl, rfl, hv, hw, c, h _ _ _ q1 q2 rd_non⟩
        · rw [if_neg c] at h; exact (show False from h).elim
      · exact (show False from h).elim
    | _ => exact (show False from h).elim
  | _ => cases y <;> exact (show False from h).elim
theorem ixN_lt {n : Nat} {i : Int} {j : Nat} (h : Wk.ixN n i = some j) : seqIndex? i n = some j ∧ j < n ∧ -(n : Int) ≤ i ∧ i < n := ixN_seq h
theorem os_popAt : MtR X "list.pop" rPopAt ∧ M1S X T rPopAt oPopAt := by
  refine ⟨mt_popAt, ?_⟩
  intro E ρ S H x y v w Q rs rx ry h
  cases x with
  | ref l =>
    cases y with
    | int i =>
      unfold oPopAt at h
      dsimp only at h
      split at h
      · rename_i ds e
        obtain ⟨p, vs, rfl, hp, hv, ra, za⟩ := rs.lstAt rx e
        split at h
        · rename_i j ej
          split at h
          · rename_i d ed
            obtain ⟨u, hu, ru⟩ := Paired.get1 ra.pair ed
            obtain ⟨q1, q2⟩ := lst_write rs hp e (RDs.of (Paired.erase1 j ra.pair)) (Nat.le_trans (len_erase vs j) za)
            obtain ⟨s1, s2, s3, s4⟩ := ixN_lt ej
            rw [ra.len] at s1 s2 s3 s4
            have hsz : sizeLine = 16777216 := sizeLine_eq
            exact ⟨p, vs, i, j, u, rfl, by rw [ry.int], hv, by omega, by omega, s1, hu, h _ _ _ q1 q2 (ru.le rs q1)⟩
          · exact (show False from h).elim
        · exact (show False from h).elim
      · exact (show False from h).elim
    | _ => exact (show False from h).elim
  | _ => cases y <;> exact (show False from h).elim
/-- xs.pop() -/
theorem ev_pop {apos : Pos} (ho : EV X T W a fa) (hbase : attributeBase a "pop" X.env (eval a X.env) = eval a X.env := by rfl) (hline : (apos.endLine == pos.line) = true := by rfl) : EV X T W (.Call (.Attribute a "pop" apos) [] [] pos) (eUn uPop fa) := by
  refine PE.imp (pe_bm0 PySem.F.plainAttrs_list PySem.F.slot_list_pop PySem.F.type_list_pop mt_pop ho hbase hline) ?_
  rintro σ H Q ⟨ρ, S, s, rs, re, h⟩
  refine ⟨ρ, S, s, rs, re, (Post.bind (R := RD X.K) h).imp ?_⟩
  rintro v H1 ⟨ρ1, S1, x, l1, rs1, rd1, h1⟩
  cases x with
  | ref l =>
    unfold uPop at h1
    dsimp only at h1
    split at h1
    · rename_i ds e
      obtain ⟨p, vs, rfl, hp, hv, ra, za⟩ := rs1.lstAt rd1 e
      split at h1
      · rename_i d ed
        obtain ⟨u, hu, ru⟩ := Paired.get1 ra.pair ed
        obtain ⟨q1, q2⟩ := lst_write rs1 hp e (RDs.of (Paired.dropL ra.pair)) (by rw [List.length_dropLast]; omega)
        exact ⟨.inl ⟨rfl, vs, SqL.of hv⟩, p, vs, u, rfl, rfl, hv, by rw [← ra.len]; exact hu, h1 _ _ _ q1 q2 (ru.le rs1 q1)⟩
      · exact (show False from h1).elim
    · exact (show False from h1).elim
  | _ => exact (show False from h1).elim
/-- d.get(k, x) -/
theorem ev_get2 {k : Nat} {apos : Pos} (hr : Room k X.A) (ho : EV X T W a fa) (hb : EV X T W b fb) (hc : EV X T W c fc) (m : M2 X a "get" apos b c pos := by exact ⟨rfl, rfl, rfl, rfl⟩) : EV X T W (.Call (.Attribute a "get" apos) [b, c] [] pos) (eGet2 fa fb fc) := by
  refine PE.imp (pe_dget2 (hu_of hr) ho hb hc m) ?_
  rintro σ H Q ⟨ρ, S, s, rs, re, h⟩
  refine ⟨ρ, S, s, rs, re, (Post.bind (R := RD X.K) h).imp ?_⟩
  rintro v H1 ⟨ρ1, S1, x, l1, rs1, rd1, h1⟩
  by_cases ck : isDk x S1 = true
  · rw [if_pos ck] at h1
    cases x with
    | ref l =>
      unfold isDk at ck
      dsimp only at ck
      split at ck
      · rename_i kvs e
        obtain ⟨p, kws, rfl, hp, hv, ra, za⟩ := rs1.dkAt rd1 e
        refine ⟨p, rfl, .inl ⟨kws, .inl hv⟩, ρ1, S1, s, rs1, re.le rs l1, (Post.bind (R := RD X.K) h1).imp ?_⟩
        rintro w H2 ⟨ρ2, S2, y, l2, rs2, rd2, h2⟩
        refine ⟨ρ2, S2, s, rs2, (re.le rs l1).le rs1 l2, (Post.bind (R := RD X.K) h2).imp ?_⟩
        rintro u H3 ⟨ρ3, S3, z, l3, rs3, rd3, h3⟩
        dsimp only at h3
        cases eg : Wk.getD S3 l y with
        | none => rw [eg] at h3; exact (show False from h3).elim
        | some o =>
          rw [eg] at h3
          obtain ⟨p', ov, ep, g, q⟩ := dget_of rs3 ((rd1.le rs1 l2).le rs2 l3) (rd2.le rs2 l3) eg
          cases ep
          refine ⟨ov, g, h3 ρ3 H3 _ (Le.refl _ _) rs3 ?_⟩
          rcases q with ⟨rfl, rfl⟩ | ⟨d, u', rfl, rfl, ru⟩
          · exact rd3
          · exact ru
      · cases ck
    | _ => cases ck
  · rw [if_neg ck] at h1; exact (show False from h1).elim
/-- list(range(n)) -/
theorem ev_listRg {p p2 pos2 : Pos} (hc : X.calm = true) (hm : X.mg "list" = none) (hm2 : X.mg "range" = none) (ha : EV X T W a fa) (hg : Gl X "list" := by rfl) (hg2 : Gl X "range" := by rfl)
    (na : starEach [a] X.env = (false, eval a X.env) :: starEach [] X.env := by rfl) (nb : starEach [.Call (.Name "range" p2) [a] [] pos2] X.env = (false, eval (.Call (.Name "range" p2) [a] [] pos2) X.env) :: starEach [] X.env := by rfl) :
    EV X T W (.Call (.Name "list" p) [.Call (.Name "range" p2) [a] [] pos2] [] pos) (eUn fListRg fa) := by
  refine PE.imp (pe_listRg hc hg hm (prg_1 hg2 hm2 ha na) nb) ?_
  rintro σ H Q ⟨ρ, S, s, rs, re, h⟩
  refine ⟨ρ, S, s, rs, re, (Post.bind (R := RD X.K) h).imp ?_⟩
  rintro v H1 ⟨ρ1, S1, x, l1, rs1, rd1, h1⟩
  cases x with
  | int i =>
    unfold fListRg at h1
    dsimp only at h1
    by_cases c : -(2 ^ 62) ≤ i ∧ i ≤ 16777216
    · rw [if_pos c] at h1
      refine ⟨i, rd1.int, ⟨by omega, by omega, by omega, by omega, by omega⟩, fun q hq => ?_⟩
      have hz : (rgV 0 i).length ≤ sizeLine := by rw [rgV_length, sizeLine_eq]; omega
      have hv : RDs X.K ρ1 H1 (rngD 0 i) (rgV 0 i) := by
        refine RDs.of (Paired.ofGet (by rw [rngD_len, rgV_length]) fun j x y e1 e2 => ?_)
        obtain ⟨h1, rfl⟩ := rngD_get e1
        unfold rgV at e2
        rw [List.getElem?_map] at e2
        cases e3 : (List.range (i - 0).toNat)[j]? with
        | none => rw [e3] at e2; cases e2
        | some k =>
          rw [e3] at e2
          obtain ⟨h4, h5⟩ := List.getElem?_eq_some_iff.mp e3
          rw [List.getElem_range] at h5
          cases e2
          rw [← h5]; exact rd_int
      obtain ⟨q1, q2, q3⟩ := lst_new rs1 hq hv hz
      exact h1 _ _ _ q1 q2 q3
    · rw [if_neg c] at h1; exact (show False from h1).elim
  | _ => exact (show False from h1).elim
/-- xs[::-1] of a list -/
theorem ev_revL {k : Nat} {p1 p2 p3 : Pos} (ha : EV X T W a fa) : EV X T W (.Subscript a (.Slice none none (some (.UnaryOp .USub (.Constant (.int 1) k p1) p2)) p3) pos) (eUn fRevL fa) := by
  refine PE.imp (pe_revL ha) ?_
  rintro σ H Q ⟨ρ, S, s, rs, re, h⟩
  refine ⟨ρ, S, s, rs, re, (Post.bind (R := RD X.K) h).imp ?_⟩
  rintro v H1 ⟨ρ1, S1, x, l1, rs1, rd1, h1⟩
  cases x with
  | ref l =>
    unfold fRevL at h1
    dsimp only at h1
    split at h1
    · rename_i ds e
      obtain ⟨p, vs, rfl, hp, hv, ra, za⟩ := rs1.lstAt rd1 e
      refine ⟨p, vs, rfl, SqL.of hv, fun q hq => ?_⟩
      obtain ⟨q1, q2, q3⟩ := lst_new rs1 hq (RDs.of (Paired.rev ra.pair)) (by rw [List.length_reverse]; exact za)
      exact h1 _ _ _ q1 q2 q3
    · exact (show False from h1).elim
  | _ => exact (show False from h1).elim

/-! ### dict comprehensions -/
theorem mergeD_snoc (kvs : List (Kk × D)) (k : Kk) (d : D) (acc : List (Kk × D)) : mergeD acc (kvs ++ [(k, d)]) = putD (mergeD acc kvs) k d := by
  unfold mergeD
  rw [List.foldl_append]
  rfl
theorem tef_dcomp {fi : FI} {g : Tg} {t : FT} {fk e : FE} : ∀ σ H Q, TEf X T W (eDComp fi g t fk e vs) σ H Q → tDc (TIf X T W fi) (TGf X T vs g) (TTf X T W0 t) (TEf X T W0 fk) (TEf X T W0 e) vs σ H Q := by
  rintro σ H Q ⟨ρ, S, s, rs, re, h⟩
  refine ⟨ρ, S, s, rs, re, (Post.bind (R := ItOk X.K T) h).imp ?_⟩
  rintro J H1 ⟨ρ1, S1, I, l1, rs1, it, h1⟩
  intro D hD
  have re1 := re.le rs l1
  have sz := it.1
  refine ⟨fun i m H' => m = I.items.length - i ∧ i ≤ I.items.length ∧ ∃ ρ' S' acc accV, Le ρ1 H1 ρ' H' ∧ RS X.K T ρ' S' H' ∧ H' D = some (.dK accV) ∧ D ∉ ρ' ∧ RKs X.K ρ' H' (mergeD [] acc) accV ∧ accV.length ≤ i ∧
      Post X.K X.mg T (WE W σ) ρ1 H1 (RD X.K) Q ((noEx (compD I.chk g t fk e (wipeE s vs) (I.items.drop i) S')).bind fun ys S2 => .ok (.ref S2.length) (S2 ++ [.dk (mergeD [] (acc ++ ys))])), ?_, ?_⟩
  · exact ⟨_, rfl, Nat.zero_le _, ρ1, S1, [], [], Le.fresh rs1 hD, rs1.freshP hD, upd_same, rs1.fresh hD, .nil, Nat.zero_le _, by simpa using h1⟩
  · rintro i m H' ⟨rfl, hi, ρ', S', acc, accV, le', rs', hD', nD, ra, hl, hp⟩
    by_cases hlt : i < I.items.length
    · refine .inr ?_
      have hd : I.items[i]? = some I.items[i] := List.getElem?_eq_getElem hlt
      rw [List.drop_eq_getElem_cons hlt] at hp
      generalize hdd : I.items[i] = d at hp hd
      have ok : okC I.chk S' = true := by
        by_cases q : okC I.chk S' = true
        · exact q
        · unfold compD at hp; rw [if_neg q] at hp; exact (show False from hp).elim
      unfold compD at hp
      rw [if_pos ok] at hp
      obtain ⟨hgo, hyld⟩ := (it.2 ρ' S' H' le' rs' ok).1 i d hd
      refine ⟨hgo, fun H5 => I.items.length - (i + 1) = I.items.length - (i + 1) ∧ i + 1 ≤ I.items.length ∧ ∃ ρ' S' acc accV, Le ρ1 H1 ρ' H5 ∧ RS X.K T ρ' S' H5 ∧ H5 D = some (.dK accV) ∧ D ∉ ρ' ∧ RKs X.K ρ' H5 (mergeD [] acc) accV ∧ accV.length ≤ i + 1 ∧
        Post X.K X.mg T (WE W σ) ρ1 H1 (RD X.K) Q ((noEx (compD I.chk g t fk e (wipeE s vs) (I.items.drop (i + 1)) S')).bind fun ys S2 => .ok (.ref S2.length) (S2 ++ [.dk (mergeD [] (acc ++ ys))])),
        fun H5 q => ⟨_, by omega, q⟩, fun x H2 y => ?_⟩
      obtain ⟨le2, rs2, rd2⟩ := hyld x H2 y
      have hD2 : H2 D = some (.dK accV) := le2.keep D _ hD' nD (fun ps z => nomatch z)
      have re2 : RE X.K ρ' H2 (wipeE s vs) (L2.wipe σ vs) := (re1.le rs1 (le'.trans le2)).wipe vs
      refine ⟨ρ', S', wipeE s vs, d, rs2, re2, rd2, ?_⟩
      cases eg : gF g d (wipeE s vs) with
      | none => rw [eg] at hp; exact (show False from hp).elim
      | some s1 =>
        rw [eg] at hp
        dsimp only at hp ⊢
        intro σ' re' ew
        refine ⟨ew.trans (wipe_wipe fun _ z => z), ρ', S', s1, rs2, re', ?_⟩
        cases et : t s1 S' with
        | bad => rw [et] at hp; exact hp
        | ex c w S2 => rw [et] at hp; exact (show False from hp).elim
        | ok b S2 =>
          rw [et, Res.bind_ok] at hp
          rintro ρ3 H3 b' le3 rs3 hb
          obtain rfl : b = b' := hb
          have nD3 := le3.nin hD2 nD
          have hD3 : H3 D = some (.dK accV) := le3.keep D _ hD2 nD (fun ps z => nomatch z)
          cases b with
          | false =>
            rw [if_neg (by decide)] at hp ⊢
            exact ⟨rfl, hlt, ρ3, S2, acc, accV, (le'.trans le2).trans le3, rs3, hD3, nD3, RKs.mono le3 rs2.nofz (RKs.mono le2 rs'.nofz ra), Nat.le_succ_of_le hl, hp⟩
          | true =>
            rw [if_pos rfl] at hp ⊢
            refine ⟨ρ3, S2, s1, rs3, re'.le rs2 le3, ?_⟩
            cases ek : fk s1 S2 with
            | bad => rw [ek] at hp; exact hp
            | ex c w S2 => rw [ek] at hp; exact (show False from hp).elim
            | ok k3 S3 =>
              rw [ek, Res.bind_ok] at hp
              rintro ρ4 H4 vk le4 rs4 rd4
              have nD4 := le4.nin hD3 nD3
              have hD4 : H4 D = some (.dK accV) := le4.keep D _ hD3 nD3 (fun ps z => nomatch z)
              refine ⟨ρ4, S3, s1, rs4, (re'.le rs2 le3).le rs3 le4, ?_⟩
              cases ee : e s1 S3 with
              | bad => rw [ee] at hp; exact hp
              | ex c w S2 => rw [ee] at hp; exact (show False from hp).elim
              | ok y3 S4 =>
                rw [ee, Res.bind_ok] at hp
                rintro ρ5 H5 v le5 rs5 rd5
                have nD5 := le5.nin hD4 nD4
                have hD5 : H5 D = some (.dK accV) := le5.keep D _ hD4 nD4 (fun ps z => nomatch z)
                cases eq : keyD k3 with
                | none => rw [eq] at hp; exact (show False from hp).elim
                | some kk =>
                  rw [eq] at hp
                  have eb := keyD_eq eq
                  subst eb
                  have evk := kD_rd rd4
                  subst evk
                  obtain ⟨lw6, rs6⟩ := rs5.side (o := .dK (putK accV kk v)) hD5 nD5 (fun _ z => nomatch z) (fun _ _ z => nomatch z) (fun _ z => nomatch z) (fun _ z => nomatch z)
                  have ra5 := RKs.mono le5 rs4.nofz (RKs.mono le4 rs3.nofz (RKs.mono le3 rs2.nofz (RKs.mono le2 rs'.nofz ra)))
                  refine ⟨accV, kk, rfl, hD5, by omega, rfl, hlt, ρ5, S4, acc ++ [(kk, y3)], putK accV kk v, ((((le'.trans le2).trans le3).trans le4).trans le5).side hD, rs6, upd_same, nD5, ?_, by have := length_putK accV kk v; omega, ?_⟩
                  · rw [mergeD_snoc]
                    exact putD_ks (RKs.lw lw6 ra5) (RD.lw lw6 _ _ rd5)
                  · dsimp only at hp
                    cases ec : compD I.chk g t fk e (wipeE s vs) (I.items.drop (i + 1)) S4 with
                    | bad => rw [ec] at hp; exact hp
                    | ex c w S2 => rw [ec] at hp; exact (show False from hp).elim
                    | ok ys S5 =>
                      rw [ec] at hp
                      simpa using hp
    · have e : i = I.items.length := by omega
      subst e
      rw [List.drop_length] at hp
      have ok : okC I.chk S' = true := by
        by_cases q : okC I.chk S' = true
        · exact q
        · unfold compD at hp; rw [if_neg q] at hp; exact (show False from hp).elim
      unfold compD at hp
      rw [if_pos ok] at hp
      refine .inl ⟨(it.2 ρ' S' H' le' rs' ok).2, ?_⟩
      have rsA := rs'.adopt (p := D) (ob := .dk (mergeD [] acc)) nD ⟨accV, hD', ra, by omega⟩
      refine hp (ρ' ++ [D]) H' (.ref D) (le'.adopt hD) (by simpa using rsA) (rd_ref rs'.lastAt)
theorem ev_dcomp {kx vx tg iter : Expr} {ifs : List Expr} {scope : Scope} {own : List (Str × Nat)} {fi : FI} {g : Tg} {t : FT} {fk e : FE} (hc : X.calm = true) (hN : X.N.Nodup) (hi : EI X T W tg iter fi) {us : List Nat} (ok : BlkOk X.N X.env.scope scope own) (hus : own.map (·.2) = us)
    (hg : ∀ (s : Shared) (H : Hp) (C : Addr) (cl : List (Str × Addr)) (fp : List Addr), EG (X.blk s H scope (compEnvC scope cl C X.env) fp) T (own.map (·.2)) tg g)
    (ht : ∀ (s : Shared) (H : Hp) (C : Addr) (cl : List (Str × Addr)) (fp : List Addr), ETs (X.blk s H scope (compEnvC scope cl C X.env) fp) T W0 ifs t)
    (hk : ∀ (s : Shared) (H : Hp) (C : Addr) (cl : List (Str × Addr)) (fp : List Addr), EV (X.blk s H scope (compEnvC scope cl C X.env) fp) T W0 kx fk)
    (he : ∀ (s : Shared) (H : Hp) (C : Addr) (cl : List (Str × Addr)) (fp : List Addr), EV (X.blk s H scope (compEnvC scope cl C X.env) fp) T W0 vx e) (hs : ∀ x, foldedSetIterable iter X.env x = pure x := by intro _; rfl) :
    EV X T W (.DictComp kx vx [⟨tg, iter, ifs, 0⟩] scope pos) (eDComp fi g t fk e us) := by
  subst hus
  exact PE.imp (pe_dc hc hN hi ok hg ht hk he hs) tef_dcomp
theorem es_dcomp {i : Nat} {y : Str} {py : Pos} {kx vx tg iter : Expr} {ifs : List Expr} {scope : Scope} {own : List (Str × Nat)} {cpos spos : Pos} {fi : FI} {g : Tg} {t : FT} {fk e : FE} (hc : X.calm = true) (hN : X.N.Nodup) (hy : X.N[i]? = some y) (hyl : X.env.scope.names.lookup y = some .local)
    (hsw : swapsWith (.DictComp kx vx [⟨tg, iter, ifs, 0⟩] scope cpos) (some (.Name y py)) spos.line X.env = pure true) (hi : EI X T W tg iter fi) {us : List Nat} (ok : BlkOk X.N X.env.scope scope own) (hus : own.map (·.2) = us)
    (hg : ∀ (s : Shared) (H : Hp) (C : Addr) (cl : List (Str × Addr)) (fp : List Addr), EG (X.blk s H scope (compEnvC scope cl C X.env) fp) T (own.map (·.2)) tg g)
    (ht : ∀ (s : Shared) (H : Hp) (C : Addr) (cl : List (Str × Addr)) (fp : List Addr), ETs (X.blk s H scope (compEnvC scope cl C X.env) fp) T W0 ifs t)
    (hk : ∀ (s : Shared) (H : Hp) (C : Addr) (cl : List (Str × Addr)) (fp : List Addr), EV (X.blk s H scope (compEnvC scope cl C X.env) fp) T W0 kx fk)
    (he : ∀ (s : Shared) (H : Hp) (C : Addr) (cl : List (Str × Addr)) (fp : List Addr), EV (X.blk s H scope (compEnvC scope cl C X.env) fp) T W0 vx e) (hs : ∀ x, foldedSetIterable iter X.env x = pure x := by intro _; rfl) :
    ES X T W (.Assign [.Name y py] (.DictComp kx vx [⟨tg, iter, ifs, 0⟩] scope cpos) spos) (sSet i (eDComp fi g t fk e us)) := by
  subst hus
  refine PS.imp (ps_setDc (wi := TIf X T W fi) (g := TGf X T (List.map (fun (p : Str × Nat) => p.2) own) g) (tt := TTf X T W0 t) (tk := TEf X T W0 fk) (tv := TEf X T W0 e) hc hN hy hyl hsw hi ok hg ht hk he hs) ?_
  rintro D σ H ⟨ρ, S, s, rs, re, h⟩
  refine tef_dcomp σ H _ ⟨ρ, S, s, rs, re, (PostS.ofE (R := RD X.K) rs re h).imp ?_⟩
  rintro v H1 ⟨ρ1, S1, d, l1, rs1, re1, rd1, h1⟩
  exact h1 ρ1 H1 _ (Le.refl _ _) rs1 (re1.set i rd1)
end
end Wk


set_option Elab.async false
set_option linter.all false
set_option maxRecDepth 100000
set_option maxHeartbeats 4000000
set_option autoImplicit false
/-! WkTry: several named except clauses; a lambda heard: try: return ("told", deed()) except X as r: return ("X", r.what) .. -/
namespace L2
open PySem PySem.Spec PyProof.Rows
/-- what the named clauses wish of an exception of the body, one after the other -/
def wManyAs (K : PySem.W.Frag) (i : Nat) (Wout : WX) (D : Ends) : List (Value × (Addr → Value → Option Addr → TS)) → WX
  | [] => Wout
  | (c, ts) :: r => fun cls d σ H => ∃ b, PySem.W.exmOne K cls c = some b ∧ (b = true → ∀ a, H a = none → ts a cls d { nx := fun σ' H' => D.nx (σ'.set i none) H', rt := D.rt, bk := fun σ' H' => D.bk (σ'.set i none) H', ct := fun σ' H' => D.ct (σ'.set i none) H' } (σ.set i (some (.ref a))) H) ∧
      (b = false → wManyAs K i Wout D r cls d σ H)
inductive HdsAs (X : Cx) (n : Str) : List ExceptHandler → List (Value × (Addr → Value → Option Addr → TS)) → Prop
  | nil : HdsAs X n [] []
  | cons {x : Str} {c : Value} {ts : Addr → Value → Option Addr → TS} {b₀ : Stmt} {suite : List Stmt} {np pos' : Pos} {hds : List ExceptHandler} {l : List (Value × (Addr → Value → Option Addr → TS))} (hc : Names X x c)
      (hsu : ∀ (a : Addr) (oe : Obj) (cls : Value) (d : Option Addr) (pn : List (Addr × Obj)), Zc cls d oe → (∃ vs, oe.data = .fields vs) → PSs (X.suite a ((a, oe) :: pn)) (b₀ :: suite) (ts a cls d)) (r : HdsAs X n hds l) :
      HdsAs X n (.ExceptHandler (some (.Name x np)) (some n) (b₀ :: suite) pos' :: hds) ((c, ts) :: l)
section
variable {X : Cx} {n : Str} {i : Nat} {body : List Stmt} {h₀ : ExceptHandler} {hds : List ExceptHandler} {l : List (Value × (Addr → Value → Option Addr → TS))} {pos : Pos} {tb : WX → TS} {Wout : WX}
theorem ps_try_manyAs (hs : X.stack = X.env :: X.outer) (hf : X.env.frame = some X.env.locals) (hN : X.N.Nodup) (hi : X.N[i]? = some n) (hln : X.env.kindOf n = some .local) (tk : Takes X Wout)
    (hb : ∀ (W : WX) (pn : List (Addr × Obj)) (xe : Value → Shared → Prop), Takes (X.tr pn xe) W → PassesOwn (model X.prog X.w) X.A X.env xe → PSs (X.tr pn xe) body (tb W))
    (hh : HdsAs X n (h₀ :: hds) l) : PS X (.Try body (h₀ :: hds) [] [] pos) (fun D σ H => tb (wManyAs X.K i Wout D l) D σ H) := by
  refine ⟨fun pins s σ H D I h => ?_⟩
  have ok := I.ok
  have hfr : X.A.frames = some (X.env :: X.outer) := by rw [ok.frames, hs]
  have hloc : Loc X.env.scope n := .inl hln
  refine wpAny_Try_except ?_
  refine wpAny_mono ((hb (wManyAs X.K i Wout D l) (X.pn ++ pins) (fun e s₁ => wpAny (model X.prog X.w) X.A (noteFrame e X.env) (fun _ s₂ => wpAny (model X.prog X.w) X.A (setFlight e none) (fun _ s₃ =>
    wpAny (model X.prog X.w) X.A (handleBy e X.env (h₀ :: hds)) (SP X pins D) X.xe s₃) X.xe s₂) X.xe s₁) (fun u s' xx => ?_) PassesOwn.looking).run [] s σ H D (I.toTry _) h) (fun f s1 hsp => ?_) (fun e s1 he => he)
  · -- the catch
    obtain ⟨a, B, sI, pins', σ', H', cls, d, rfl, J', nb, up, sky, na, os, ag, w⟩ := xx
    have J : Inv X pins σ' H' sI := J'.ofTry ok
    have sky' : Sky B (X.env :: X.outer) a (Zc cls d) X.env.locals s'.heap := by rw [← hs]; exact sky
    show wpAny (model X.prog X.w) X.A (noteFrame (.ref a) X.env) _ _ _
    refine Sky.land Zc.steady hfr hf sky' fun h3 fl3 up3 => ?_
    have J3 : Inv X pins σ' H' { s' with heap := h3 } := J.landed nb fl3.1 (up.trans up3) os ag
    obtain ⟨oe3, vs3, he3, hz3, hd3⟩ := fl3.there
    have notFr : ∀ {h : Heap} {o : Obj} {vs : Array Value}, h.FunFrames B (X.env :: X.outer) → h.get? a = some o → o.data = .fields vs → a ∉ frs (X.env :: X.outer) := fun {h o vs} ff e dd hm => by
      obtain ⟨_, o', e', hnf⟩ := ff.mem hm
      rw [e] at e'; cases e'
      exact hnf _ dd
    have nfr := notFr fl3.2.2.1 he3 hd3
    have nL : a ≠ X.env.locals := fun z => nfr (List.mem_filterMap.mpr ⟨X.env, List.mem_cons_self, by rw [hf, z]⟩)
    have nF : a ∉ X.fs := fun hm => by
      obtain ⟨e, he, q⟩ := List.mem_filterMap.mp hm
      exact nfr (List.mem_filterMap.mpr ⟨e, List.mem_cons_of_mem _ he, q⟩)
    have S3 := J3.suite he3 hd3 na nL nF
    have go : ∀ {hds' : List ExceptHandler} {l' : List (Value × (Addr → Value → Option Addr → TS))}, HdsAs X n hds' l' → wManyAs X.K i Wout D l' cls d σ' H' →
        wpAny (model X.prog X.w) X.A (handleBy (.ref a) X.env hds') (SP X pins D) X.xe { s' with heap := h3 } := by
      intro hds' l' hk
      induction hk with
      | nil =>
        intro w
        refine wpAny_handleBy_nil ?_
        obtain ⟨k1, k2, k3, oe, vs, T, oT, ts', he, hz, hd, h1, hr⟩ := id fl3
        unfold PySem.passOn
        refine wpAny_bind (wpAny_field he hd h1 ?_)
        rw [if_neg (show ¬ ((Value.ref T == Value.none) = true) from by simp)]
        have fin : wpAny (model X.prog X.w) X.A (setFlight (.ref a) X.env.frame) (fun _ s4 => wpAny (model X.prog X.w) X.A (throw (.ref a) : Sem Flow) (SP X pins D) X.xe s4) X.xe { s' with heap := h3 } := by
          rw [hf]
          refine HandSPX.setFlight_upZ fl3 fun h4 hh4 up4 => wpAny_throw (tk _ _ ?_)
          exact ⟨a, B, sI, pins, σ', H', cls, d, rfl, J, nb, (up.trans up3).trans up4, .inr (.inr (by rw [hs]; exact hh4)), na, os, ag, w⟩
        first
          | exact wpAny_bind (wpAny_pure (wpAny_bind fin))
          | exact wpAny_bind fin
      | @cons x c ts b₀ suite np pos' hds2 l2 hc hsu r ih =>
        intro w
        obtain ⟨b, hb1, hyes, hno⟩ := w
        refine wpAny_handleBy_cons (codeAny_handlers_test ?_) (by intro q; cases q)
        have LT : PySem.W.Looks (model X.prog X.w) h3 (typeOf (.ref a)) cls := fun A Q E s k q => wpAny_typeOf_ref (k _ _ he3) (by rw [hz3.1]; exact q)
        have LM := PySem.W.exm_one (M := model X.prog X.w) (J3.kIn) LT hb1
        have test : ∀ {Q : Value → Shared → Prop} {E : Value → Shared → Prop}, Q c { s' with heap := h3 } → wpAny (model X.prog X.w) (X.A.mark (some (.ref a))) (eval (.Name x np) X.env) Q E { s' with heap := h3 } := fun {Q E} q => by
          obtain ⟨hg, hdbg, hm | ⟨hm, hv, hnn⟩⟩ := hc
          · exact ld_glob (X := X.suite a ((a, oe3) :: (X.pn ++ pins))) S3 hg hm q hdbg
          · exact ld_blt (X := X.suite a ((a, oe3) :: (X.pn ++ pins))) S3 hg hm hv q hnn hdbg
        refine test (LM.here ?_)
        cases b with
        | true =>
          refine codeAny_handlers_suite_as ?_
          refine HandSPX.lands_againZ fl3 fun h4 fl4 up4 => ?_
          have J4 : Inv X pins σ' H' { s' with heap := h4 } := J.landed nb fl4.1 ((up.trans up3).trans up4) os ag
          obtain ⟨oe4, vs4, he4, hz4, hd4⟩ := fl4.there
          have S4 := J4.suite he4 hd4 na nL nF
          refine store_ok (X := X.suite a ((a, oe4) :: (X.pn ++ pins))) (v := .ref a) S4 hN hi hloc rfl (fun s5 S5 => ?_) (.inr hln)
          refine wpAny_mono ((hsu a oe4 cls d (X.pn ++ pins) hz4 ⟨_, hd4⟩).run [] s5 _ H' _ S5 (hyes rfl a na)) (fun f s6 hsp => ?_) (fun _ _ z => False.elim z)
          have end_ : ∀ {σ6 : St} {H6 : Hp} {Q : Shared → Prop}, Inv (X.suite a ((a, oe4) :: (X.pn ++ pins))) [] σ6 H6 s6 → (∀ s7, Inv X pins (σ6.set i none) H6 s7 → Q s7) →
              wpAny (model X.prog X.w) X.A (do bindName X.env n .none; unbindBehindTheSuite X.env n pos') (fun _ s7 => Q s7) X.xe s6 := fun {σ6 H6 Q} S6 hq => gone_ok (S6.unsuite ok) hN hi hln hq
          cases f with
          | next =>
            obtain ⟨σ6, H6, S6, q6⟩ := hsp
            exact end_ S6 fun s7 J7 => ⟨_, _, J7, q6⟩
          | brk =>
            obtain ⟨σ6, H6, S6, q6⟩ := hsp
            exact end_ S6 fun s7 J7 => ⟨_, _, J7, q6⟩
          | cont =>
            obtain ⟨σ6, H6, S6, q6⟩ := hsp
            exact end_ S6 fun s7 J7 => ⟨_, _, J7, q6⟩
          | ret u =>
            obtain ⟨v6, σ6, H6, S6, r6, q6⟩ := hsp
            exact end_ S6 fun s7 J7 => ⟨_, _, _, J7, r6, q6⟩
        | false =>
          show wpAny _ X.A (handleBy (.ref a) X.env hds2) _ _ _
          exact ih (hno rfl)
    exact go hh w
  · cases f with
    | next =>
      obtain ⟨σ', H', J', q⟩ := hsp
      exact wpAny_execs_nil ⟨σ', H', J'.ofTry ok, q⟩
    | brk =>
      obtain ⟨σ', H', J', q⟩ := hsp
      exact ⟨σ', H', J'.ofTry ok, q⟩
    | cont =>
      obtain ⟨σ', H', J', q⟩ := hsp
      exact ⟨σ', H', J'.ofTry ok, q⟩
    | ret u =>
      obtain ⟨v, σ', H', J', r, q⟩ := hsp
      exact ⟨v, σ', H', J'.ofTry ok, r, q⟩
end
end L2

namespace Wk
open PySem PySem.Spec PyProof.Rows L2 LamX
/-! ### a lambda heard -/
/-- the classes named by the clauses -/
structure HeardC (K : PySem.W.Frag) (mg : Str → Option Value) (l : List (Addr × String)) : Prop where
  all : ∀ p ∈ l, mg (Str.ofString p.2) = some (.ref p.1) ∧ XfC K p.1 ∧ PySem.W.findIn K (.ref p.1) "what" = some none ∧ ∀ q ∈ l, PySem.W.exmOne K (.ref p.1) (.ref q.1) = some (decide (p.2 = q.2))
/-- what the clauses wish -/
def heardE (K : PySem.W.Frag) (Q : VK) : List (Addr × String) → XK
  | [] => fun _ _ _ => False
  | p :: r => fun cls d H => ∃ b, PySem.W.exmOne K cls (.ref p.1) = some b ∧
      (b = true → cls = .ref p.1 ∧ ∃ (dd : Addr) (fs : List (Str × V)) (v : V), d = some dd ∧ H dd = some (.xd fs) ∧ fs.lookup ("what" : Str) = some v ∧ [V.str (Str.ofString p.2), v].length ≤ sizeLine ∧ ∀ t, H t = none → Q (.ref t) (upd H t (.tup [.str (Str.ofString p.2), v]))) ∧
      (b = false → heardE K Q r cls d H)
def TTh (K : PySem.W.Frag) (l : List (Addr × String)) : (XK → Hp → VK → Prop) → Hp → VK → Prop := fun tl H Q =>
  tl (heardE K Q l) H fun v H' => [V.str "told", v].length ≤ sizeLine ∧ ∀ t, H' t = none → Q (.ref t) (upd H' t (.tup [.str "told", v]))
/-- the clauses of the text -/
inductive HeardHds (n : Str) : List ExceptHandler → List String → Prop
  | nil : HeardHds n [] []
  | cons {x y : Str} {c : String} {np p1 p2 p3 p4 p5 pos' : Pos} {j k : Nat} {hds : List ExceptHandler} {cs : List String} (hx : x = Str.ofString c) (hy : y = Str.ofString c) (r : HeardHds n hds cs) :
      HeardHds n (.ExceptHandler (some (.Name x np)) (some n) [.Return (some (.Tuple [.Constant (.str y) j p1, .Attribute (.Name n p2) "what" p3] k p4)) p5] pos' :: hds) (c :: cs)
section
variable {X : Cx} {T : Tbs} {W : WX} {pos : Pos}
theorem PSs.withLen {Y : Cx} {st : List Stmt} {t : TS} (h : PSs Y st t) : PSs Y st fun D σ H => σ.length = Y.N.length → t D σ H := ⟨fun pins s σ H D I q => h.run pins s σ H D I (q I.len)⟩
/-- the readings of the clauses' suites -/
def suitesH (m i : Nat) (l : List (Addr × String)) : List (Value × (Addr → Value → Option Addr → TS)) :=
  l.map fun p => (Value.ref p.1, fun a cls d D σ H => σ.length = m → tRet (tTup (tCons (tC (.str (Str.ofString p.2))) (tCons (tXf a cls d p.1 "what" (tVar i)) tNil))) D σ H)
theorem hdsAs_of {Y : Cx} {n : Str} {i : Nat} (hN : Y.N[i]? = some n) (hv : Vis Y.env.scope n) (hdb : (n == ("__debug__" : Str)) = false) (hcd : (n == ("__classdict__" : Str)) = false) : ∀ {hds : List ExceptHandler} {cs : List String} {l : List (Addr × String)}, HeardHds n hds cs → l.map (·.2) = cs →
    (∀ p ∈ l, Names Y (Str.ofString p.2) (.ref p.1) ∧ XfC Y.K p.1 ∧ PySem.W.findIn Y.K (.ref p.1) "what" = some none) → HdsAs Y n hds (suitesH Y.N.length i l)
  | _, _, [], .nil, _, _ => .nil
  | _, _, p :: l, .nil, h, _ => by cases h
  | _, _, [], .cons _ _ _, h, _ => by cases h
  | _, _, p :: l, .cons hx hy r, h, hl => by
    simp only [List.map_cons, List.cons.injEq] at h
    obtain ⟨h1, h2⟩ := h
    subst h1 hx hy
    obtain ⟨nm, xf, no⟩ := hl p List.mem_cons_self
    refine .cons nm (fun a oe cls d pn hz hf => ?_) (hdsAs_of hN hv hdb hcd r h2 fun q hq => hl q (List.mem_cons_of_mem _ hq))
    exact PSs.withLen (pss_one (ps_ret (pe_tup (pa_cons pe_str (pa_cons (pe_xf (X := Y) xf no hz hf (pe_var (X := Y.suite a ((a, oe) :: pn)) hN hv hdb hcd)) pa_nil)))))
theorem heardE_many {K : PySem.W.Frag} {m i : Nat} {D : Ends} {σ : L2.St} (hi : i < m) : ∀ (l : List (Addr × String)) (cls : Value) (d : Option Addr) (H : Hp), heardE K D.rt l cls d H → wManyAs K i (fun _ _ _ _ => False) D (suitesH m i l) cls d σ H
  | [], cls, d, H, h => h
  | p :: l, cls, d, H, h => by
    obtain ⟨b, e1, e2, e3⟩ := h
    refine ⟨b, e1, fun hb a _ hlen => ?_, fun hb => heardE_many hi l cls d H (e3 hb)⟩
    obtain ⟨ec, dd, fs, v, ed, eH, el, hz, q⟩ := e2 hb
    exact ⟨.ref a, List.getElem?_set_self (by rw [List.length_set] at hlen; rw [hlen]; exact hi), rfl, ec, dd, fs, v, ed, eH, el, hz, q⟩
theorem heard_gives {Ng : List Str} {x a n : Str} {sg : Scope} {g : Addr} {cdg : Value} {hds : List ExceptHandler} {cs : List String} {l : List (Addr × String)} {q : Str} {p1 p2 p3 p4 p5 p8 : Pos} {j k : Nat} (hNd : Ng.Nodup) (hN1 : Ng[1]? = some n) (hln : sg.names.lookup n = some .local) (hdb : (n == ("__debug__" : Str)) = false) (hcd : (n == ("__classdict__" : Str)) = false)
    (hh : HeardHds n hds cs) (hne : hds ≠ []) (hl : l.map (·.2) = cs) (C : HeardC X.K X.mg l) (hgl : ∀ c ∈ cs, sg.names.lookup (Str.ofString c) = some .globalImplicit ∧ (Str.ofString c == ("__debug__" : Str)) = false)
    (h0 : ∀ f : Addr, (L2.start Ng [V.ref f])[0]? = some (some (V.ref f))) (h1 : 1 < Ng.length) :
    GivesTo X Ng x sg g cdg [.Try [.Return (some (.Tuple [.Constant (.str "told") j p1, .Call (.Name a p2) [] [] p3] k p4)) p5] hds [] [] p8] a q (TTh X.K l) := by
  intro f c' s H Q tl act hc h
  obtain ⟨h₀, hds', rfl⟩ : ∃ h₀ hds', hds = h₀ :: hds' := by
    cases hds with
    | nil => exact absurd rfl hne
    | cons a b => exact ⟨a, b, rfl⟩
  refine ⟨_, pss_one (ps_try_manyAs (X := (cxOf C8.CX0 X.prog X.w X.K X.mg X.base Ng x sg g cdg X.A X.stack s H C8.E0).nox) (i := 1) (n := n)
      (tb := fun W D σ H => ∃ Ech : XK, (∀ cls d σ' H', Ech cls d H' → W cls d σ' H') ∧ σ[0]? = some (some (.ref f)) ∧ H c' = some (CodeO c' q) ∧ tl Ech H (fun v H' => [V.str "told", v].length ≤ sizeLine ∧ ∀ t, H' t = none → D.rt (.ref t) (upd H' t (.tup [.str "told", v]))))
      rfl rfl hNd hN1 hln L2.takes0 (fun W pn xe tk _ => ?_) (hdsAs_of hN1 (Or.inl hln) hdb hcd hh hl fun p hp => ?_)), ?_⟩
  · refine ⟨fun pins s' σ H' D I h' => ?_⟩
    obtain ⟨Ech, hW, h1, h2, h3⟩ := h'
    have hp := act W pn xe Ech p2 p3 tk hW
    have hq := pss_one (ps_ret (pos := p5) (pe_tup (x1 := k) (pos := p4) (pa_cons (pe_str (x := "told") (j := j) (pos := p1)) (pa_cons hp pa_nil))))
    exact hq.run pins s' σ H' D I ⟨h1, h2, h3⟩
  · obtain ⟨e1, e2, e3, _⟩ := C.all p hp
    obtain ⟨g1, g2⟩ := hgl p.2 (by rw [← hl]; exact List.mem_map_of_mem hp)
    exact ⟨⟨g1, g2, .inl e1⟩, e2, e3⟩
  · exact ⟨heardE X.K Q l, fun cls d σ' H' z => heardE_many h1 l cls d H' z, h0 f, hc, h⟩
theorem contains_cons {c d : String} {l : List String} : (d :: l).contains c = (decide (c = d) || l.contains c) := by
  rw [List.contains_cons]
  by_cases h : c = d
  · subst h; simp
  · simp [h]
theorem Le.ext {ρ : List Addr} {H H1 : Hp} (e : ExtN H H1) : Le ρ H ρ H1 := ⟨⟨[], by simp⟩, fun a _ h => e a _ h (fun _ z => nomatch z), fun a _ _ h _ => e a _ h (fun _ z => nomatch z), fun b o h _ n => e b o h n, fun _ _ _ _ n => n⟩
theorem RS.ext {K : PySem.W.Frag} {ρ : List Addr} {S : Store} {H H1 : Hp} (r : RS K T ρ S H) (e : ExtN H H1) (t : Tabs T H1) : RS K T ρ S H1 :=
  ⟨r.len, r.nd, fun i a o h1 h2 => by
    have q := r.ob i a o h1 h2
    obtain ⟨u, eu, _, _, n⟩ := q.there
    exact q.mono (Le.ext e) r.nofz ((e a u eu n).trans eu.symm), t⟩
theorem tup2_new {K : PySem.W.Frag} {ρ : List Addr} {S : Store} {H : Hp} (r : RS K T ρ S H) {x : Str} {d : D} {v : V} (rd : RD K ρ H d v) : [V.str x, v].length ≤ sizeLine ∧ ∀ t, H t = none → Le ρ H ρ (upd H t (.tup [.str x, v])) ∧ RS K T ρ S (upd H t (.tup [.str x, v])) ∧ RD K ρ (upd H t (.tup [.str x, v])) (.tup [.str x, d]) (.ref t) := by
  have hz : [V.str x, v].length ≤ sizeLine := by show 2 ≤ sizeLine; decide
  exact ⟨hz, fun t ht => tup_new r ht (RDs.of (.cons rd_str (.cons rd .nil))) hz⟩
theorem heardE_of {E : XK} {ρ : List Addr} {H : Hp} {Q : VK} {c : String} {w : D} {S : Store} {C0 : Addr} {v : V} {dd : Addr} {l0 : List (Addr × String)} (hC : HeardC X.K X.mg l0) (hm : X.mg (Str.ofString c) = some (.ref C0)) (rs : RS X.K T ρ S H) (rw0 : RD X.K ρ H w v)
    (hdd : H dd = some (.xd [(("what" : Str), v)])) (h : Post X.K X.mg T E ρ H (RD X.K) Q (.ok (.tup [.str (Str.ofString c), w]) S)) (hc0 : ∃ p ∈ l0, p.2 = c) : ∀ l : List (Addr × String), (∀ p ∈ l, p ∈ l0) → (l.map (·.2)).contains c = true → heardE X.K Q l (.ref C0) (some dd) H
  | [], _, hc => by cases hc
  | p :: l, hs, hc => by
    obtain ⟨p0, hp0, e0⟩ := hc0
    have a0 := hC.all p0 hp0
    have ap := hC.all p (hs p List.mem_cons_self)
    have eC : C0 = p0.1 := by
      have := a0.1
      rw [e0, hm] at this
      exact Value.ref.inj (Option.some.inj this)
    refine ⟨decide (p0.2 = p.2), by rw [eC]; exact a0.2.2.2 p (hs p List.mem_cons_self), fun hb => ?_, fun hb => ?_⟩
    · have e1 : p0.2 = p.2 := of_decide_eq_true hb
      have e2 : C0 = p.1 := by
        have := ap.1
        rw [← e1, e0, hm] at this
        exact Value.ref.inj (Option.some.inj this)
      obtain ⟨z1, z2⟩ := tup2_new (x := Str.ofString p.2) rs rw0
      refine ⟨by rw [e2], dd, _, v, rfl, hdd, by simp [List.lookup], z1, fun t ht => ?_⟩
      obtain ⟨q1, q2, q3⟩ := z2 t ht
      rw [← e1, e0] at q1 q2 q3 ⊢
      exact h _ _ _ q1 q2 q3
    · have e1 : ¬ c = p.2 := by
        rw [← e0]; exact of_decide_eq_false hb
      rw [List.map_cons, contains_cons] at hc
      have hc' : (l.map (·.2)).contains c = true := by simpa [e1] using hc
      exact heardE_of hC hm rs rw0 hdd h ⟨p0, hp0, e0⟩ l (fun q hq => hs q (List.mem_cons_of_mem _ hq)) hc'
/-- the def that hears -/
structure HeardAt (K : PySem.W.Frag) (mg : Str → Option Value) (x a n : Str) (st : Stmt) (hds : List ExceptHandler) (cs : List String) : Prop where
  d : DefAt K mg x st [a]
  bd : ∃ (p1 p2 p3 p4 p5 p8 : Pos) (j k : Nat), defBody st = [.Try [.Return (some (.Tuple [.Constant (.str "told") j p1, .Call (.Name a p2) [] [] p3] k p4)) p5] hds [] [] p8]
  sc : FnScope [a, n] [a] (defScope st)
  hh : HeardHds n hds cs
  ne : hds ≠ []
  va : Vis (defScope st) a
  ln : (defScope st).names.lookup n = some .local
  gl : ∀ c ∈ cs, (defScope st).names.lookup (Str.ofString c) = some .globalImplicit ∧ (Str.ofString c == ("__debug__" : Str)) = false
  nm : (a == ("__debug__" : Str)) = false ∧ (a == ("__classdict__" : Str)) = false ∧ (n == ("__debug__" : Str)) = false ∧ (n == ("__classdict__" : Str)) = false
  cl : ∃ l : List (Addr × String), l.map (·.2) = cs ∧ HeardC K mg l
/-- the maker of a lambda: its code object and the table -/
structure MakerAt (X : Cx) (T : Tbs) (c P : Addr) : Prop where
  tb : TabB X.base X.mg c P
  code : X.env.code = .ref c
  mem : (P, X.env.qual ++ "<lambda>") ∈ T
  uniq : ∀ p ∈ T, p.1 = P → p.2 = X.env.qual ++ "<lambda>"
theorem ev_heard {x a n : Str} {st : Stmt} {hds : List ExceptHandler} {cs : List String} {c P : Addr} {k : Nat} {params : Arguments} {body : Expr} {scope : Scope} {f : FE} {p lpos : Pos} (D : HeardAt X.K X.mg x a n st hds cs) (M : MakerAt X T c P) (hr : Room (k + 2) X.A) (L : LamS X.env.scope scope)
    (hbody : ∀ (A : Around) (outer : List PySem.Env) (s : Shared) (H : Hp) (E : XK) (f' c' : Addr), Room k (A.deeper (lamEnv X scope s.heap.objs.size f' c')) → EV (lamCx X A outer s H E scope f' c') T (fun cls d _ H => E cls d H) body f)
    (hg : Gl X x := by rfl) (hdef : defaultsOf params X.env = ([], []) := by rfl)
    (hbind : ∀ (q : Str) (cl : List (Str × Addr)) (pm cv ctv : Value), bindArgs (PySem.W.kla_fn "<lambda>" q params body scope cl pm cv ctv) ⟨[], []⟩ = pure [] := by intro _ _ _ _ _; rfl) (hdb : (x == ("__debug__" : Str)) = false := by decide) :
    EV X T W (.Call (.Name x p) [.Lambda params body scope lpos] [] pos) (eHeard cs f) := by
  obtain ⟨g, fd, hm, F, hb⟩ := D.d.ex
  obtain ⟨oc, od, kV, doc, pm, an, cdv, ct, osl, rfl, lk, hcd⟩ := F.ex
  obtain ⟨p1, p2, p3, p4, p5, p8, j, k', hbd⟩ := D.bd
  obtain ⟨l, hl, C⟩ := D.cl
  rw [hbd] at lk hb
  have G : GivesTo X [a, n] x (defScope st) g cdv _ a (X.env.qual ++ "<lambda>") (TTh X.K l) := heard_gives (p1 := p1) (p2 := p2) (p3 := p3) (p4 := p4) (p5 := p5) (p8 := p8) (j := j) (k := k') D.sc.nd rfl D.ln D.nm.2.2.1 D.nm.2.2.2 D.hh D.ne hl C D.gl (fun _ => rfl) (by show 1 < 2; decide)
  refine PE.imp (pe_lamcall (t := fun E => TEf X T (fun cls d _ H => E cls d H) f) hg hm F.kp lk hcd hb D.sc rfl D.va G M.tb M.code M.mem M.uniq hr L hdef hbind (fun A outer s H E f' c' hr' => hbody A outer s H E f' c' hr') hdb D.nm.1 D.nm.2.1) ?_
  rintro σ H Q ⟨ρ, S, s, rs, re, h⟩
  refine ⟨rs.tabs, fun H1 eN T1 => ?_⟩
  have le := Le.ext (ρ := ρ) eN
  have rs1 := rs.ext eN T1
  refine ⟨ρ, S, s, rs1, re.le rs le, ?_⟩
  unfold eHeard at h
  cases e : f s S with
  | ok d S1 =>
    rw [e] at h
    intro ρ' H' b le' rs' rd
    obtain ⟨z1, z2⟩ := tup2_new (x := "told") rs' rd
    refine ⟨z1, fun t ht => ?_⟩
    obtain ⟨q1, q2, q3⟩ := z2 t ht
    exact h _ _ _ ((le.trans le').trans q1) q2 q3
  | ex c0 w S1 =>
    rw [e] at h
    unfold heardR at h
    dsimp only at h
    by_cases hc : cs.contains c0 = true
    · rw [if_pos hc] at h
      intro ρ' H' v dd C0 le' rs' rd hdd hmc
      have hc' : (l.map (·.2)).contains c0 = true := by rw [hl]; exact hc
      refine heardE_of C hmc rs' rd hdd (Post.le h (le.trans le')) ?_ l (fun _ h => h) hc'
      obtain ⟨p, hp, ep⟩ := List.mem_map.mp (List.contains_iff_mem.mp hc')
      exact ⟨p, hp, ep⟩
    · rw [if_neg hc] at h; exact (show False from h).elim
  | bad => rw [e] at h; exact (show False from h).elim
end
/-! ### a def that makes lambdas -/
section
variable {P : Program} {w : World} {K : PySem.W.Frag} {mg : Str → Option Value} {base : Heap} {T : Tbs}
/-- a def of the text, its code object known -/
structure DefAtC (K : PySem.W.Frag) (mg : Str → Option Value) (x : Str) (st : Stmt) (ps : List Str) (c : Addr) : Prop where
  ex : ∃ (f : Addr) (fd : FuncData), mg x = some (.ref f) ∧ Fun K x x st f fd ∧ Binds K fd ps [] ∧ fd.code = .ref c
theorem call_okC {x : Str} {st : Stmt} {N ps : List Str} {k n m : Nat} {b : FS} {c : Addr} (D : DefAtC K mg x st ps c) (S : FnScope N ps (defScope st)) (hn : ps.length = n) (hm : N.length = m)
    (hbody : ∀ (f : Addr) (A : Around) (outer : List PySem.Env) (s : Shared) (H : Hp) (E : XK), Room k (A.deeper (envOfC x (defScope st) s.heap.objs.size f (.ref c))) →
      ESs (cxOf (L2.CX P w) P w K mg base N x (defScope st) f (.ref c) A outer s H E) T (fun cls d _ H => E cls d H) (defBody st) b) : CallOk P w K mg base T (k + 1) x n (mkF n m b) := by
  obtain ⟨f, fd, hf, F, hb, hc⟩ := D.ex
  subst hn hm
  refine ⟨mkF_ar _ _ _, f, fd, ps, rfl, hf, F.kp, hb, ?_⟩
  obtain ⟨oc, od, kV, doc, pm, an, cdv, ct, osl, rfl, lk, hcd⟩ := F.ex
  have hc' : cdv = .ref c := hc
  subst hc'
  refine fn_of lk hcd S (fun vs H Q E h => h.1) fun A outer s H vs Q E hr h => ⟨_, hbody f A outer s H E hr, ?_⟩
  obtain ⟨hl, ρ, S', ds, rs, rd, h⟩ := h
  refine ⟨ρ, S', startE N.length ds, rs, re_start rd, ?_⟩
  unfold mkF at h
  rw [if_pos (by rw [rd.len, hl])] at h
  show PostS K mg T (fun cls d _ H => E cls d H) { nx := fun _ H' => Q .non H', rt := Q } ρ H (b (startE N.length ds) S')
  cases e : b (startE N.length ds) S' with
  | nx s' S1 => rw [e] at h; exact fun ρ' H' σ' le rs' re' => h ρ' H' .non le rs' rd_non
  | rt d S1 => rw [e] at h; exact h
  | bk s' S1 => rw [e] at h; exact (show False from h).elim
  | ct s' S1 => rw [e] at h; exact (show False from h).elim
  | ex c w s' S1 => rw [e] at h; exact fun ρ' H' σ' v dd C le rs' re' rd' h1 h2 => h ρ' H' v dd C le rs' rd' h1 h2
  | bad => rw [e] at h; exact h
end
/-! ### what is never reached: nothing is promised of it -/
section
variable {X : Cx} {T : Tbs} {W : WX}
theorem ev_bad {e : Expr} : EV X T W e eBad := ⟨fun _ _ _ _ _ _ ⟨_, _, _, _, _, h⟩ => (show False from h).elim⟩
theorem et_bad {e : Expr} : ET X T W e tBad := ⟨fun _ _ _ _ _ _ ⟨_, _, _, _, _, h⟩ => (show False from h).elim⟩
theorem es_bad {st : Stmt} : ES X T W st sBad := ⟨fun _ _ _ _ _ _ ⟨_, _, _, _, _, h⟩ => (show False from h).elim⟩
end
end Wk


set_option Elab.async false
set_option linter.all false
set_option maxRecDepth 100000
set_option maxHeartbeats 4000000
set_option autoImplicit false
/-! WkEnd: the end of a law: tables of code objects, the script. -/
namespace Wk
open PySem PySem.Spec PyProof.Rows L2 LamX PySem.W
/-- the tables of the head's defs are empty -/
def TopTabs (q : Program) (K : Frag) (h : Heap) : Prop := ∀ (x : Str) (c P : Addr), ((recsOf q).any fun e => e.name == x) = true → tabIn K x = some (c, P) → CodeHd h c P ∧ h.get? P = some (tabObj #[])
theorem walk_ofTop {l : PySem.W.OpenLaw} {n k : Nat} {q : Program} {loose : List Str} {XP : (Str → Option Value) → Heap → Prop} {YP : World → Heap → Prop} {d : DefRec} {K : Params → PySem.W.Frag} {CX : World → CXT} {x : Str}
    (hn : l.most = some n) (hn2 : n ≤ sizeLine) (hdf : d.params.defaults = []) (hr : Room k callerA) (hY : ∀ (w : World) (h : Heap), YP w h → (K w.params).In h)
    (F : ∀ (w : World) (mg : Str → Option Value) (fa : Addr) (h : Heap), (K w.params).In h → h.Ns mainGlobals mg → mg d.name = some (.ref fa) → TopTabs q (K w.params) h → LawAtS l w (K w.params) (CX w) k n x mg fa h)
    (hCX : ∀ (w : World) (H : Hp) (s : Shared) (e : Value) (s' : Shared), CX w [] H s (fun _ _ _ => False) e s' → False) :
    PySem.W.WalkO q loose XP YP l.row.toRowW d [] (fun f vs => PySem.call f vs) := by
  refine Att.attach_callB hn hdf fun w s₀ s₁ mg mb fa o pm cd doc a vs ns G Y ho hd hcd hmg hobj hints hlen hbits hg => ?_
  have KX := hY w _ Y
  have tt : TopTabs q (K w.params) s₁.heap := fun x c P ha ht => by
    cases e : (recsOf q).find? (fun e => e.name == x) with
    | none =>
      obtain ⟨d0, h1, h2⟩ := List.any_eq_true.mp ha
      exact absurd h2 (by simpa using List.find?_eq_none.mp e d0 h1)
    | some d0 => exact tab_of G.T KX e ht
  obtain ⟨fd, cs, sp, hT, nT, C, hb, hsp, hF⟩ := F w mg fa _ KX G.T.g hmg tt
  exact law_callTs KX G.T.g G.T.b G.T.builtins G.T.nolimit hg hT nT C G.T.bmain hobj hints (Nat.le_trans hlen hn2) hr hF hb (fun H hH hS => hsp H a ns hlen hbits hH hS) fun H e s' => hCX w H s₁ e s'
theorem rds_intsV {K : PySem.W.Frag} {ρ : List Addr} {H : Hp} : ∀ ns : List Int, RDs K ρ H (ns.map D.int) (ns.map V.int)
  | [] => by unfold List.map RDs; rfl
  | n :: ns => by
    show RDs K ρ H (D.int n :: ns.map D.int) (V.int n :: ns.map V.int)
    unfold RDs
    exact ⟨_, _, rfl, rd_int, rds_intsV ns⟩
/-- the law's promise from its function: the script comes as a frozen list or as a list of the store -/
theorem law_at {l : PySem.W.OpenLaw} {w : World} {K : PySem.W.Frag} {mg : Str → Option Value} {fa : Addr} {h : Heap} {k n : Nat} {x : Str} {Fl : Fn} {T : Tbs} {cs : List (Addr × Addr)} {fd : FuncData} {CX : CXT} (hnz : n ≤ sizeLine)
    (hcs : ∀ p ∈ cs, CodeHd h p.1 p.2 ∧ h.get? p.2 = some (tabObj #[])) (nT : ∀ p ∈ cs, K.lookup p.2 = none) (hT : ∀ t ∈ T, ∃ p ∈ cs, t.1 = p.2) (hb : ∀ (s : Shared) (u : Value), BindsTo s fd ⟨[u], []⟩ [(x, u)])
    (pure : ∀ (ns : List Int), ns.length ≤ n → (∃ S', Fl [.frz (ns.map D.int)] [] = .ok (.bl true) S') ∧ ∃ S', Fl [.ref 0] [.lst (ns.map D.int)] = .ok (.bl true) S')
    (F : ∀ base : Heap, K.In base → base.Ns mainGlobals mg → (∀ p ∈ cs, TabB base mg p.1 p.2) → FnOk l.prog w K mg base CX k fa fd [x] (spF K mg T 1 Fl)) : LawAtS l w K CX k n x mg fa h := by
  refine ⟨fd, cs, spF K mg T 1 Fl, fun p hp => (hcs p hp).2, nT, fun p hp => (hcs p hp).1, hb, fun H a ns hn _ hH hS => ?_, F⟩
  have tabs : Tabs T H := fun t ht => by
    obtain ⟨p, hp, e⟩ := hT t ht
    exact TabS.nil (by rw [e]; exact hH p hp)
  have hz : (ns.map V.int).length ≤ sizeLine := by rw [List.length_map]; exact Nat.le_trans hn hnz
  refine ⟨rfl, ?_⟩
  obtain ⟨⟨S1, e1⟩, ⟨S2, e2⟩⟩ := pure ns hn
  have frz : FrzAt K H a (ns.map V.int) → ∃ ρ S ds, RS K T ρ S H ∧ RDs K ρ H ds [.ref a] ∧ Post K mg T (fun _ _ _ => False) ρ H (RD K) (fun v _ => v = .bl true) (Fl ds S) := fun fz => by
    refine ⟨[], [], [.frz (ns.map D.int)], ⟨rfl, List.nodup_nil, fun i a o h1 _ => by simp at h1, tabs⟩, RDs.of (.cons (by unfold RD; exact ⟨a, _, rfl, fz, rds_intsV ns⟩) .nil), ?_⟩
    rw [e1]
    exact fun _ _ b _ _ r => r.bl
  rcases hS with (z | ⟨o, z⟩) | z
  · refine ⟨[a], [.lst (ns.map D.int)], [.ref 0], ⟨rfl, (by simp), fun i b o h1 h2 => ?_, tabs⟩, RDs.of (.cons (rd_ref rfl) .nil), ?_⟩
    · cases i with
      | zero =>
        cases h1; cases h2
        exact ⟨_, z, rds_intsV ns, hz⟩
      | succ i => simp at h1
    · rw [e2]
      exact fun _ _ b _ _ r => r.bl
  · exact frz ⟨hz, .inl ⟨o, z⟩⟩
  · exact frz ⟨hz, .inr z⟩
/-! ### what the written part says -/
section
variable {K : Frag} {mg : Str → Option Value} {h : Heap} {P : Program} {w : World} {base : Heap}
structure DefK (K : Frag) (x : Str) (st : Stmt) : Prop where
  ex : ∃ (f : Addr) (oc : Value) (od : Option Addr) (kV dc pm : Value) (an : Option Addr) (cd ct : Value) (sl : Array (Option Value)), nsIn K mainGlobals x = some (some (.ref f)) ∧
    K.lookup f = some ⟨oc, od, .func (fnOf x x (defArgs st) (defBody st) (defScope st) .none kV dc pm an cd ct), sl⟩ ∧ codeIn K cd x = true ∧ keepIn K (.ref f) = true
theorem defK {x : Str} {st : Stmt} {f : Addr} {oc : Value} {od : Option Addr} {kV dc pm : Value} {an : Option Addr} {cd ct : Value} {sl : Array (Option Value)} (a : nsIn K mainGlobals x = some (some (.ref f)))
    (l : K.lookup f = some ⟨oc, od, .func (fnOf x x (defArgs st) (defBody st) (defScope st) .none kV dc pm an cd ct), sl⟩) (c : codeIn K cd x = true) (k : keepIn K (.ref f) = true) : DefK K x st := ⟨⟨f, oc, od, kV, dc, pm, an, cd, ct, sl, a, l, c, k⟩⟩
abbrev BindP (x : Str) (st : Stmt) (ps : List Str) : Prop := ∀ (kV doc pm : Value) (an : Option Addr) (cdv ct : Value) (us : List Value), us.length = ps.length → bindArgs (fnOf x x (defArgs st) (defBody st) (defScope st) .none kV doc pm an cdv ct) ⟨us, []⟩ = pure (ps.zip us)
theorem DefK.at {x : Str} {st : Stmt} {ps : List Str} (D : DefK K x st) (X : K.In h) (G : h.Ns mainGlobals mg) (hb : BindP x st ps) : DefAt K mg x st ps := by
  obtain ⟨f, oc, od, kV, dc, pm, an, cd, ct, sl, a, l, c, k⟩ := D.ex
  have F := fun_mk (st := st) l c k
  exact ⟨f, _, mg_of X G a, F, F.binds hb⟩
structure DefKC (K : Frag) (x : Str) (st : Stmt) (c P : Addr) : Prop where
  ex : ∃ (f : Addr) (oc : Value) (od : Option Addr) (kV dc pm : Value) (an : Option Addr) (ct : Value) (sl : Array (Option Value)), nsIn K mainGlobals x = some (some (.ref f)) ∧
    K.lookup f = some ⟨oc, od, .func (fnOf x x (defArgs st) (defBody st) (defScope st) .none kV dc pm an (.ref c) ct), sl⟩ ∧ codeIn K (.ref c) x = true ∧ keepIn K (.ref f) = true
  tab : tabIn K x = some (c, P)
theorem defKC {x : Str} {st : Stmt} {f c P : Addr} {oc : Value} {od : Option Addr} {kV dc pm : Value} {an : Option Addr} {ct : Value} {sl : Array (Option Value)} {e : Value} {dd : Option Addr} {vs : Array Value} {sl2 : Array (Option Value)} (a : nsIn K mainGlobals x = some (some (.ref f)))
    (l : K.lookup f = some ⟨oc, od, .func (fnOf x x (defArgs st) (defBody st) (defScope st) .none kV dc pm an (.ref c) ct), sl⟩) (c1 : codeIn K (.ref c) x = true) (k : keepIn K (.ref f) = true)
    (t : K.lookup c = some ⟨e, dd, .fields vs, sl2⟩) (v : vs[11]? = some (.ref P)) : DefKC K x st c P := ⟨⟨f, oc, od, kV, dc, pm, an, ct, sl, a, l, c1, k⟩, by
      unfold tabIn
      rw [a]
      dsimp only
      rw [l]
      dsimp only [fnOf]
      rw [t]
      dsimp only
      rw [v]⟩
theorem DefKC.at {x : Str} {st : Stmt} {ps : List Str} {c P : Addr} (D : DefKC K x st c P) (X : K.In h) (G : h.Ns mainGlobals mg) (hb : BindP x st ps) : DefAtC K mg x st ps c := by
  obtain ⟨f, oc, od, kV, dc, pm, an, ct, sl, a, l, c1, k⟩ := D.ex
  have F := fun_mk (st := st) l c1 k
  exact ⟨f, _, mg_of X G a, F, F.binds hb, rfl⟩
/-- a class of errors, by the written part -/
structure ErrK (K : Frag) (c : Str) (C : Addr) : Prop where
  a : nsIn K mainGlobals c = some (some (.ref C))
  xL : ∃ (nm q : Str) (N : Addr) (bs bm : List Value) (sn : List Str) (sub : List Value) (ab : Bool) (col : Option Bool) (dd : Option Addr) (k0 k1 k2 k3 k5 : Option Value), K.lookup C = some (excClassObj nm q C N bs bm true sn sub ab col dd k0 k1 k2 k3 k5 "ValueError.__new__") ∧ PySem.HandSPX.refsVE bm = true
  sa : findIn K (.ref C) "__setattr__" = some (some (.builtin "object.__setattr__"))
  ga : findIn K (.ref C) "__getattribute__" = some (some (.builtin "BaseException.__getattribute__"))
  gg : findIn K (.ref C) "__getattr__" = some none
  nw : findIn K (.ref C) "what" = some none
  eC : subIn K (.ref C) (.type "BaseException") = some true
  tC : typeIn K (.ref C) = some (.type "type")
  kC : keepIn K (.ref C) = true
  hd : hasDictIn K C = true
  ic : isClsIn K C = true
  ini : ∃ (fI : Addr), findIn K (.ref C) "__init__" = some (some (.ref fI)) ∧ typeIn K (.ref fI) = some (.type "function")
theorem errK {c : Str} {C R : Addr} {nm q : Str} {N : Addr} {bs : List Value} {sn : List Str} {sub : List Value} {ab : Bool} {col : Option Bool} {dd : Option Addr} {m0 m1 m2 m3 m5 : Option Value} {fI : Addr} (a : nsIn K mainGlobals c = some (some (.ref C)))
    (xL : K.lookup C = some (excClassObj nm q C N bs [.ref R, .type "ValueError", .type "Exception", .type "BaseException", .type "object"] true sn sub ab col dd m0 m1 m2 m3 m5 "ValueError.__new__"))
    (sa : findIn K (.ref C) "__setattr__" = some (some (.builtin "object.__setattr__"))) (ga : findIn K (.ref C) "__getattribute__" = some (some (.builtin "BaseException.__getattribute__"))) (gg : findIn K (.ref C) "__getattr__" = some none) (nw : findIn K (.ref C) "what" = some none)
    (eC : subIn K (.ref C) (.type "BaseException") = some true) (tC : typeIn K (.ref C) = some (.type "type")) (kC : keepIn K (.ref C) = true) (hd : hasDictIn K C = true) (ic : isClsIn K C = true)
    (i1 : findIn K (.ref C) "__init__" = some (some (.ref fI))) (i2 : typeIn K (.ref fI) = some (.type "function")) : ErrK K c C := ⟨a, ⟨nm, q, N, bs, _, sn, sub, ab, col, dd, m0, m1, m2, m3, m5, xL, by rfl⟩, sa, ga, gg, nw, eC, tC, kC, hd, ic, fI, i1, i2⟩
theorem exm_of {C S : Addr} {b : Bool} (h1 : subIn K (.ref S) (.type "BaseException") = some true) (h2 : isClsIn K S = true) (h3 : typeIn K (.ref S) = some (.type "type")) (h4 : subIn K (.ref C) (.ref S) = some b) : exmOne K (.ref C) (.ref S) = some b := by
  have e1 : (subIn K (.ref S) (.type "BaseException") == some true) = true := by rw [h1] <;> rfl
  have e2 : ((clsIn K S).isSome && typeIn K (.ref S) == some (.type "type")) = true := by
    have h2' : (clsIn K S).isSome = true := h2
    rw [h2', h3] <;> rfl
  show (if (subIn K (.ref S) (.type "BaseException") == some true) = true then (if ((clsIn K S).isSome && typeIn K (.ref S) == some (.type "type")) = true then subIn K (.ref C) (.ref S) else none) else none) = some b
  rw [if_pos e1, if_pos e2]
  exact h4
theorem ErrK.xf {c : Str} {C : Addr} (E : ErrK K c C) : XfC K C := ⟨E.ga, E.gg, E.eC, E.hd⟩
theorem ErrK.exc {c : String} {C : Addr} (E : ErrK K (Str.ofString c) C) (X : K.In h) (G : h.Ns mainGlobals mg) (hI : ∀ fI : Addr, findIn K (.ref C) "__init__" = some (some (.ref fI)) → ∃ fd : FuncData, Binds K fd ["self", "what"] [] ∧ FnOk P w K mg base CX0 1 fI fd ["self", "what"] (spRef K)) : ExcAt P w K mg base c := by
  obtain ⟨fI, i1, i2⟩ := E.ini
  obtain ⟨fd, b1, b2⟩ := hI fI i1
  obtain ⟨nm, q, N, bs, bm, sn, sub, ab, col, dd, k0, k1, k2, k3, k5, xL, hbm⟩ := E.xL
  exact ⟨C, fI, fd, mg_of X G E.a, ⟨⟨nm, q, N, bs, bm, sn, sub, ab, col, dd, k0, k1, k2, k3, k5, xL, hbm⟩, E.sa, E.eC, E.tC, E.kC⟩, E.nw, i1, i2, b1, b2⟩
/-- the clauses' classes -/
theorem heardC {l : List (Addr × String)} (X : K.In h) (G : h.Ns mainGlobals mg) (E : ∀ p ∈ l, ErrK K (Str.ofString p.2) p.1) (S : ∀ p ∈ l, ∀ q ∈ l, subIn K (.ref p.1) (.ref q.1) = some (decide (p.2 = q.2))) : HeardC K mg l :=
  ⟨fun p hp => ⟨mg_of X G (E p hp).a, (E p hp).xf, (E p hp).nw, fun q hq => exm_of (E q hq).eC (E q hq).ic (E q hq).tC (S p hp q hq)⟩⟩
end
end Wk


set_option Elab.async false
set_option linter.all false
set_option maxRecDepth 100000
set_option maxHeartbeats 4000000
set_option autoImplicit false
/-! WkMore: slices, a tuple turned about, texts of numbers. -/
namespace HT
open PySem PySem.Spec PyProof.Rows L2
section
variable {prog : Program} {w : World} {A : Around} {E : Value → Shared → Prop} {s : Shared}
theorem wk_adjust_rev (n : Nat) : Builtin.Slice.sliceAdjust none none (-1) (n : Int) = ((n : Int) - 1, -1) := by
  unfold Builtin.Slice.sliceAdjust
  rfl
theorem wk_places_rev (n : Nat) : Builtin.Slice.slicePlaces ((n : Int) - 1) (-1) (-1) = n := by
  unfold Builtin.Slice.slicePlaces
  have e : ((n : Int) - 1 - -1 - 1) / - -1 = (n : Int) - 1 := by
    rw [Int.neg_neg, Int.ediv_one]; omega
  simp only [e]
  split
  · omega
  · split <;> omega
theorem wk_sliceApplied_rev {sl : Addr} {vl vu vs : Value} {n : Nat} {Q : Int × Int × Nat → Shared → Prop} (hs : s.heap.IsSliceOf sl vl vu vs) (pl : IsPart vl none) (pu : IsPart vu none) (ps : IsPart vs (some (-1)))
    (h : Q ((n : Int) - 1, -1, n) s) : wpAny (model prog w) A (Builtin.Slice.sliceApplied (.ref sl) (pure (n : Int))) Q E s := by
  obtain ⟨os, hos, hcs, hds⟩ := id hs
  unfold Builtin.Slice.sliceApplied Builtin.Slice.sliceFields
  refine wpAny_bind (wpAny_bind (wpAny_field hos hds (x := vl) rfl (wpAny_bind (wpAny_field hos hds (x := vu) rfl (wpAny_bind (wpAny_field hos hds (x := vs) rfl (wpAny_pure ?_)))))))
  refine wpAny_bind (slicePart_ ps ?_)
  show wpAny _ _ (if ((-1 : Int) == 0) = true then _ else _) _ _ s
  rw [if_neg (by decide)]
  refine wpAny_bind (slicePart_ pl (wpAny_bind (slicePart_ pu (wpAny_bind (wpAny_pure ?_)))))
  show wpAny _ _ (match Builtin.Slice.sliceAdjust none none (-1) (n : Int) with | (lo, hi) => pure (lo, (-1 : Int), Builtin.Slice.slicePlaces lo hi (-1))) _ _ s
  rw [wk_adjust_rev]
  show wpAny _ _ (pure ((n : Int) - 1, (-1 : Int), Builtin.Slice.slicePlaces ((n : Int) - 1) (-1) (-1))) _ _ s
  rw [wk_places_rev]
  exact wpAny_pure h
theorem wk_filterMap_some {α β : Type} {f : α → Option β} {g : α → β} : ∀ {l : List α}, (∀ a ∈ l, f a = some (g a)) → l.filterMap f = l.map g
  | [], _ => rfl
  | a :: l, h => by
    rw [List.filterMap_cons, h a List.mem_cons_self]
    dsimp only
    rw [wk_filterMap_some fun b hb => h b (List.mem_cons_of_mem _ hb), List.map_cons]
theorem wk_pick_rev (xs : Array Value) : ((List.range xs.size).filterMap fun (m : Nat) => xs[(((xs.size : Int) - 1) + (m : Int) * (-1)).toNat]?).toArray = xs.toList.reverse.toArray := by
  congr 1
  have e : (List.range xs.size).filterMap (fun (m : Nat) => xs[(((xs.size : Int) - 1) + (m : Int) * (-1)).toNat]?) = (List.range xs.size).map fun (m : Nat) => xs.toList.reverse.getD m .none := by
    refine wk_filterMap_some fun m hm => ?_
    have hm' := List.mem_range.mp hm
    have e1 : (((xs.size : Int) - 1) + (m : Int) * (-1)).toNat = xs.size - 1 - m := by omega
    have hl : m < xs.toList.reverse.length := by simpa using hm'
    rw [e1, List.getD_eq_getElem?_getD, List.getElem?_eq_getElem hl, Option.getD_some, List.getElem_reverse]
    simp
  rw [e]
  refine List.ext_getElem (by simp) fun i h1 h2 => ?_
  simp [List.getD_eq_getElem?_getD]
  simp at h1
  rw [List.getElem?_eq_getElem (by simpa using h1)]
  simp
theorem wk_getItem_tuple_rev {t sl : Addr} {items : Array Value} {vl vu vs : Value} {Q : Value → Shared → Prop} (ht : IsTup s.heap t items) (hs : s.heap.IsSliceOf sl vl vu vs) (pl : IsPart vl none) (pu : IsPart vu none) (ps : IsPart vs (some (-1)))
    (h : Q (.ref s.heap.objs.size) { s with heap := s.heap.push { cls := .type "tuple", data := .seq items.toList.reverse.toArray } })
    (hsz : items.size ≤ sizeLine) : wpAny (model prog w) A (getItem (.ref t) (.ref sl)) Q E s := by
  have htake : sizeOk (.seq items.toList.reverse.toArray) := by
    show items.toList.reverse.toArray.size ≤ sizeLine
    rw [List.size_toArray, List.length_reverse, Array.length_toList]
    exact hsz
  obtain ⟨os, hos, hcs, hds⟩ := id hs
  have hTs : s.TypeIs (.ref sl) "slice" := ⟨os, hos, hcs⟩
  unfold getItem
  try with_reducible refine wpAny_holding ?_
  first | refine wpAny_bind (wpAny_pure ?_) | skip
  refine wpAny_bind (wpAny_sequenceKey ht.typeIs (by decide) ?_)
  refine wpAny_bind (wpAny_callSpecial?_slot (name := Str.ofString "__getitem__") ht.typeIs PyProof.Rows.slot_tuple_getitem
    (wpAny_call_entry PyProof.Rows.slot_tuple_getitem ht.typeIs entry_tuple_getitem ?_ (args_tuple_getitem _ _)))
  show wpAny _ _ (Builtin.Tuple.tupleItemsOf (.ref t) >>= _) _ _ s
  refine wpAny_bind (tupleItemsOf_ ht ?_)
  refine wpAny_bind (wpAny_typeOf hTs ?_)
  rw [if_pos (by decide)]
  refine wpAny_bind (wk_sliceApplied_rev hs pl pu ps ?_)
  have hno : ¬ ((((items.size : Int) - 1) == 0 && (-1 : Int) == 1 && items.size == items.size) = true) := by
    intro q
    rw [Bool.and_eq_true, Bool.and_eq_true] at q
    exact absurd q.1.2 (by decide)
  show wpAny _ _ (if (((items.size : Int) - 1) == 0 && (-1 : Int) == 1 && items.size == items.size) = true then _ else _) _ _ s
  rw [if_neg hno, wk_pick_rev]
  first
    | exact wpAny_bind (m := Builtin.Tuple.tupleExact _) (wpAny_newObj_type (wpAny_pure ⟨_, rfl, wpAny_pure h⟩) htake)
    | exact wpAny_bind (m := Builtin.Tuple.tupleExact _) (wpAny_newObj_type (wpAny_bind (wpAny_pure (wpAny_pure ⟨_, rfl, wpAny_pure h⟩))) htake)
    | exact wpAny_bind (wpAny_bind (m := Builtin.Tuple.tupleExact _) (wpAny_newObj_type (wpAny_pure (wpAny_pure ⟨_, rfl, wpAny_pure h⟩)) htake))
    | exact wpAny_bind (wpAny_bind (m := Builtin.Tuple.tupleExact _) (wpAny_newObj_type (wpAny_pure ⟨_, rfl, wpAny_pure h⟩) htake))
end
end HT
namespace L2
open PySem PySem.Spec PyProof.Rows
def tRevA (K : PySem.W.Frag) (te : TE) : TE := fun σ H Q => te σ H fun x H1 => ∃ a xs, x = .ref a ∧ ((SqL K H1 a xs ∧ ∀ p, H1 p = none → Q (.ref p) (upd H1 p (.lst xs.reverse))) ∨ (SqT K H1 a xs ∧ ∀ p, H1 p = none → Q (.ref p) (upd H1 p (.tup xs.reverse))))
theorem pe_revA {X : Cx} {e : Expr} {te : TE} {k : Nat} {p1 p2 p3 pos : Pos} (he : PE X e te) : PE X (.Subscript e (.Slice none none (some (.UnaryOp .USub (.Constant (.int 1) k p1) p2)) p3) pos) (tRevA X.K te) := by
  refine ⟨fun pins s σ H Q I h => ?_⟩
  refine Subscript_ (thn (he.run pins s σ H _ I h) fun v s1 ⟨x, H1, I1, r1, q1⟩ => ?_)
  obtain ⟨a, xs, ex, q1⟩ := q1
  subst ex
  cases r1
  have hst : PO X (some (.UnaryOp .USub (.Constant (.int 1) k p1) p2)) (tPart (tUn (rU fun i => .int (-i)) (tC (.int 1)))) := po_some (pe_un un_neg pe_int)
  refine wpAny_Slice (thn (po_none.run pins s1 σ H1 (fun o H2 => o = none ∧ H2 = H1) I1 ⟨rfl, rfl⟩) fun vl s2 ⟨l, H2, I2, pl, el, e2⟩ => ?_)
  subst el e2
  refine thn (po_none.run pins s2 σ H2 (fun o H3 => o = none ∧ H3 = H2) I2 ⟨rfl, rfl⟩) fun vu s3 ⟨u, H3, I3, pu, eu, e3⟩ => ?_
  subst eu e3
  refine thn (hst.run pins s3 σ H3 (fun o H4 => o = some (-1) ∧ H4 = H3) I3 ⟨1, rfl, -1, rfl, rfl, rfl⟩) fun vs s4 ⟨o, H4, I4, ps, eo, e4⟩ => ?_
  subst eo e4
  have I5 : Inv X pins σ H4 { s4 with heap := s4.heap.push { cls := .type "slice", data := .fields #[vl, vu, vs] } } := I4.kept (t' := s4.toks) fun b ob q => Heap.get?_push_of_some _ q
  show wpAny (model X.prog X.w) X.A (subscriptTail e (.Slice none none (some (.UnaryOp .USub (.Constant (.int 1) k p1) p2)) p3) (.ref a) (.ref s4.heap.objs.size)) (EP X pins σ Q) X.xe { s4 with heap := s4.heap.push { cls := .type "slice", data := .fields #[vl, vu, vs] } }
  rcases q1 with ⟨hx, q⟩ | ⟨hx, q⟩
  · obtain ⟨its, r, ht, hz⟩ := I5.list hx
    have hlen := r.length
    refine tail_any (ops := [.ref a, .ref s4.heap.objs.size]) ht.isList.typeIs (PySem.slot_list_getitem.lookup) ?_ (by with_unfolding_all rfl)
    refine wpAny_getItem_list_slice ht.isList (Heap.IsSliceOf.new _ vl vu vs) pl pu ps (by decide) ?_ (by rw [List.size_toArray]; omega)
    rw [PySem.W.krv_pick]
    refine ⟨.ref _, _, I5.laid (t' := s4.toks) (o := .lst xs.reverse) (fun b ob q => Heap.get?_push_of_some _ q) (Nat.le_refl _) ?_, rfl, q _ (I5.hok.fresh (Nat.le_refl _))⟩
    exact ⟨by rw [List.length_reverse]; exact hz, _, 0, r.reverse, Heap.get?_push_size _ rfl⟩
  · obtain ⟨its, r, ht, hz⟩ := I5.tuple hx
    have hlen := r.length
    refine tail_any (ops := [.ref a, .ref s4.heap.objs.size]) ht.typeIs (PyProof.Rows.slot_tuple_getitem.lookup) ?_ (by with_unfolding_all rfl)
    refine HT.wk_getItem_tuple_rev ht (Heap.IsSliceOf.new _ vl vu vs) pl pu ps ?_ (by rw [List.size_toArray]; omega)
    refine ⟨.ref _, _, I5.laid (t' := s4.toks) (o := .tup xs.reverse) (fun b ob q => Heap.get?_push_of_some _ q) (Nat.le_refl _) ?_, rfl, q _ (I5.hok.fresh (Nat.le_refl _))⟩
    exact ⟨by rw [List.length_reverse]; exact hz, _, r.reverse, IsTup.new _ _⟩
end L2
namespace Wk
open PySem PySem.Spec PyProof.Rows L2
theorem slIx_eq (n d : Nat) (o : Option Int) : slIx n d o = HT.sIx n d o := by
  cases o with
  | none => rfl
  | some v =>
    show (if 0 ≤ v then min v.toNat n else (v + n).toNat) = (if v < 0 then (v + (n : Int)).toNat else min v.toNat n)
    by_cases h : 0 ≤ v
    · rw [if_pos h, if_neg (by omega)]
    · rw [if_neg h, if_pos (by omega)]
theorem cutD_pair {α : D → V → Prop} {ds : List D} {vs : List V} (r : Paired α ds vs) (lo hi : Option Int) : Paired α (cutD ds lo hi) (cutV vs lo hi) := by
  unfold cutD cutV
  rw [slIx_eq, slIx_eq, r.length]
  exact Paired.takeN _ (Paired.dropN _ r)
section
variable {X : Cx} {T : Tbs} {W : WX} {pos : Pos} {a b c : Expr} {fa fb fc : FE}
/-- a slice's part -/
def TOf (X : Cx) (T : Tbs) (W : WX) (f : FO) : TO := fun σ H Q => ∃ ρ S s, RS X.K T ρ S H ∧ RE X.K ρ H s σ ∧ Post X.K X.mg T (WE W σ) ρ H (fun _ _ x y => x = y) Q (f s S)
abbrev EO (X : Cx) (T : Tbs) (W : WX) (e : Option Expr) (f : FO) : Prop := PO X e (TOf X T W f)
theorem PO.imp {X : Cx} {e : Option Expr} {t t' : TO} (h : PO X e t) (i : ∀ σ H Q, t' σ H Q → t σ H Q) : PO X e t' := ⟨fun pins s σ H Q I q => h.run pins s σ H Q I (i σ H Q q)⟩
theorem eo_none : EO X T W none oNone := by
  refine PO.imp po_none ?_
  rintro σ H Q ⟨ρ, S, s, rs, re, h⟩
  exact h ρ H none (Le.refl _ _) rs rfl
theorem eo_some (he : EV X T W a fa) : EO X T W (some a) (oSome fa) := by
  refine PO.imp (po_some he) ?_
  rintro σ H Q ⟨ρ, S, s, rs, re, h⟩
  refine ⟨ρ, S, s, rs, re, (Post.bind (R := RD X.K) h).imp ?_⟩
  rintro v H1 ⟨ρ1, S1, x, l1, rs1, rd1, h1⟩
  cases x with
  | int i => exact ⟨i, rd1.int, h1 ρ1 H1 (some i) (Le.refl _ _) rs1 rfl⟩
  | _ => exact (show False from h1).elim
theorem ev_slice {lo hi : Option Expr} {fl fh : FO} {p2 : Pos} (he : EV X T W a fa) (hl : EO X T W lo fl) (hh : EO X T W hi fh) : EV X T W (.Subscript a (.Slice lo hi none p2) pos) (eSlice fa fl fh) := by
  refine PE.imp (pe_slice (SlR.or sl_tupA sl_list) he hl hh) ?_
  rintro σ H Q ⟨ρ, S, s, rs, re, h⟩
  refine ⟨ρ, S, s, rs, re, (Post.bind (R := RD X.K) h).imp ?_⟩
  rintro v H1 ⟨ρ1, S1, x, l1, rs1, rd1, h1⟩
  refine ⟨ρ1, S1, s, rs1, re.le rs l1, (Post.bind (R := fun _ _ x y => x = y) h1).imp ?_⟩
  rintro l H2 ⟨ρ2, S2, l', l2, rs2, el, h2⟩
  obtain rfl : l' = l := el
  refine ⟨ρ2, S2, s, rs2, (re.le rs l1).le rs1 l2, (Post.bind (R := fun _ _ x y => x = y) h2).imp ?_⟩
  rintro u H3 ⟨ρ3, S3, u', l3, rs3, eu, h3⟩
  obtain rfl : u' = u := eu
  have rd3 := (rd1.le rs1 l2).le rs2 l3
  cases x with
  | tup ds =>
    obtain ⟨p, vs, rfl, ta, ra⟩ := rd3.tup
    refine .inl ⟨p, vs, rfl, ta.sq, fun hw => ?_, fun _ q hq => ?_⟩
    · have e : cutD ds l' u' = ds := by
        unfold cutD
        rw [slIx_eq, slIx_eq, ra.len, hw.1, hw.2, List.drop_zero, Nat.sub_zero, ← ra.len, List.take_length]
      have h3' : Post X.K X.mg T (WE W σ) ρ3 H3 (RD X.K) Q (.ok (.tup (cutD ds l' u')) S3) := h3
      rw [e] at h3'
      exact h3' ρ3 H3 _ (Le.refl _ _) rs3 rd3
    · obtain ⟨q1, q2, q3⟩ := tup_new rs3 hq (RDs.of (cutD_pair ra.pair l' u')) (Nat.le_trans (cutV_length vs l' u') ta.1)
      exact h3 _ _ _ q1 q2 q3
  | ref r =>
    unfold slD at h3
    dsimp only at h3
    split at h3
    · rename_i ds e
      obtain ⟨p, vs, rfl, hp, hv, ra, za⟩ := rs3.lstAt rd3 e
      refine .inr ⟨p, vs, rfl, SqL.of hv, fun q hq => ?_⟩
      obtain ⟨q1, q2, q3⟩ := lst_new rs3 hq (RDs.of (cutD_pair ra.pair l' u')) (Nat.le_trans (cutV_length vs l' u') za)
      exact h3 _ _ _ q1 q2 q3
    · exact (show False from h3).elim
  | _ => exact (show False from h3).elim
theorem ev_revA {k : Nat} {p1 p2 p3 : Pos} (ha : EV X T W a fa) : EV X T W (.Subscript a (.Slice none none (some (.UnaryOp .USub (.Constant (.int 1) k p1) p2)) p3) pos) (eUn fRevA fa) := by
  refine PE.imp (pe_revA ha) ?_
  rintro σ H Q ⟨ρ, S, s, rs, re, h⟩
  refine ⟨ρ, S, s, rs, re, (Post.bind (R := RD X.K) h).imp ?_⟩
  rintro v H1 ⟨ρ1, S1, x, l1, rs1, rd1, h1⟩
  cases x with
  | tup ds =>
    obtain ⟨p, vs, rfl, ta, ra⟩ := rd1.tup
    refine ⟨p, vs, rfl, .inr ⟨ta.sq, fun q hq => ?_⟩⟩
    obtain ⟨q1, q2, q3⟩ := tup_new rs1 hq (RDs.of (Paired.rev ra.pair)) (by rw [List.length_reverse]; exact ta.1)
    exact h1 _ _ _ q1 q2 q3
  | ref l =>
    unfold fRevA fRevL at h1
    dsimp only at h1
    split at h1
    · rename_i ds e
      obtain ⟨p, vs, rfl, hp, hv, ra, za⟩ := rs1.lstAt rd1 e
      refine ⟨p, vs, rfl, .inl ⟨SqL.of hv, fun q hq => ?_⟩⟩
      obtain ⟨q1, q2, q3⟩ := lst_new rs1 hq (RDs.of (Paired.rev ra.pair)) (by rw [List.length_reverse]; exact za)
      exact h1 _ _ _ q1 q2 q3
    · exact (show False from h1).elim
  | _ => exact (show False from h1).elim
theorem os_notB : OpR X (compareOp .IsNot) (fun x y H Q => ∃ a b, x = .bl a ∧ y = .bl b ∧ Q (.bl (!decide (a = b))) H) ∧ OpS X T (fun x y H Q => ∃ a b, x = .bl a ∧ y = .bl b ∧ Q (.bl (!decide (a = b))) H) oNotB := by
  refine ⟨op_isnot_bl, ?_⟩
  intro E ρ S H x y v w Q rs rx ry h
  cases x with
  | bl i =>
    cases y with
    | bl j => exact ⟨i, j, rx.bl, ry.bl, h ρ H _ (Le.refl _ _) rs rd_bl⟩
    | _ => exact (show False from h).elim
  | _ => cases y <;> exact (show False from h).elim
abbrev rStr : List V → Hp → VK → Prop := fun xs H Q => (fun xs H Q => ∃ i, xs = [.int i] ∧ i.natAbs.log2 < 1920 ∧ Q (.str (toString i)) H) xs H Q ∨ (fun xs H Q => ∃ a, xs = [.str a] ∧ Q (.str a) H) xs H Q
theorem os_str : CallR X (.type "str") rStr ∧ C1S X T rStr fStrI := by
  refine ⟨CallR.or call_str_int SkE.call_str_str, ?_⟩
  intro E ρ S H x v Q rs rx h
  cases x with
  | int i =>
    unfold fStrI at h
    dsimp only at h
    by_cases c : i.natAbs.log2 < 1920
    · rw [if_pos c] at h
      exact .inl ⟨i, by rw [rx.int], c, h ρ H _ (Le.refl _ _) rs rd_str⟩
    · rw [if_neg c] at h; exact (show False from h).elim
  | str z => exact .inr ⟨z, by rw [rx.str], h ρ H _ (Le.refl _ _) rs rd_str⟩
  | _ => exact (show False from h).elim
end
end Wk


set_option Elab.async false
set_option linter.all false
set_option maxRecDepth 100000
set_option autoImplicit false
/-! printed by gen.py: the functional readings of the defs of wovenkeep_k03_ways_and_what_is_led. -/
namespace WkL
open PySem (Str)
open Wk

def heardCs : List String := ["BadField", "BadKind"]
/-- is_whole: slots 0 thing, 1 low, 2 high -/
abbrev b_is_whole : FS :=
    (sRet (eAnd (eUn (fIsInst "int") (eV 0)) (eAnd (eNot (eUn (fIsInst "bool") (eV 0))) (eChain oLe oLe (eV 1) (eV 0) (eV 2)))))
def F_is_whole : Fn := mkF 3 3 b_is_whole
/-- is_row: slots 0 thing, 1 many -/
abbrev b_is_row : FS :=
    (sRet (eAnd (eUn (fIsInst "tuple") (eV 0)) (eOp oEq (eUn fLen (eV 0)) (eV 1))))
def F_is_row : Fn := mkF 2 2 b_is_row
/-- is_field: slots 0 thing, 1 hands, 2 kinds -/
abbrev b_is_field : FS :=
    (sRet (eAnd (eCall F_is_row (aCons (eV 0) (aCons (eC (.int 2)) aNil))) (eAnd (eCall F_is_whole (aCons (eOp oIx (eV 0) (eC (.int 0))) (aCons (eC (.int 0)) (aCons (eOp oSub (eV 2) (eC (.int 1))) aNil)))) (eCall F_is_whole (aCons (eOp oIx (eV 0) (eC (.int 1))) (aCons (eV 1) (aCons (eOp oSub (eV 2) (eC (.int 1))) aNil)))))))
def F_is_field : Fn := mkF 3 3 b_is_field
/-- made_schema: slots 0 thing, 1 hands, 2 kinds, 3 fields, 4 index, 5 field -/
abbrev b_made_schema : FS :=
    (sSeq (sIf (Wk.tNot (tE (eCall F_is_row (aCons (eV 0) (aCons (eC (.int 3)) aNil))))) (sRaise "BadSchema" (eUn uNeg (eC (.int 1)))) sSkip)
    (sSeq (sAsg (.tp [(.nm 1), (.nm 2), (.nm 3)]) (eV 0))
    (sSeq (sIf (Wk.tNot (tE (eCall F_is_whole (aCons (eV 1) (aCons (eC (.int 1)) (aCons (eC (.int 6)) aNil)))))) (sRaise "BadSchema" (eC (.int 0))) sSkip)
    (sSeq (sIf (Wk.tNot (tE (eCall F_is_whole (aCons (eV 2) (aCons (eV 1) (aCons (eC (.int 24)) aNil)))))) (sRaise "BadSchema" (eC (.int 1))) sSkip)
    (sSeq (sIf (Wk.tNot (tE (eUn (fIsInst "tuple") (eV 3)))) (sRaise "BadSchema" (eC (.int 2))) sSkip)
    (sSeq (sIf (tE (eOp oGt (eUn fLen (eV 3)) (eC (.int 40)))) (sRaise "TooMany" (eUn fLen (eV 3))) sSkip)
    (sSeq (sFor (iEnum (eV 3)) (.tp [(.nm 4), (.nm 5)]) (sIf (Wk.tNot (tE (eCall F_is_field (aCons (eV 5) (aCons (eV 1) (aCons (eV 2) aNil)))))) (sRaise "BadSchema" (eTup (aCons (eC (.int 2)) (aCons (eV 4) aNil)))) sSkip))
    (sRet (eTup (aCons (eV 1) (aCons (eV 2) (aCons (eUn fTuple (eComp (iSeq (eV 3)) (.nm 5) tTrue (eUn fTuple (eV 5)) [5])) aNil))))))))))))
def F_made_schema : Fn := mkF 1 6 b_made_schema
/-- asked_kind: slots 0 schema, 1 kind -/
abbrev b_asked_kind : FS :=
    (sIf (Wk.tNot (tE (eCall F_is_whole (aCons (eV 1) (aCons (eC (.int 0)) (aCons (eOp oSub (eOp oIx (eV 0) (eC (.int 1))) (eC (.int 1))) aNil)))))) (sRaise "BadKind" (eV 1)) sSkip)
def F_asked_kind : Fn := mkF 2 2 b_asked_kind
/-- asked_field: slots 0 schema, 1 f -/
abbrev b_asked_field : FS :=
    (sIf (Wk.tNot (tE (eCall F_is_whole (aCons (eV 1) (aCons (eC (.int 0)) (aCons (eOp oSub (eUn fLen (eOp oIx (eV 0) (eC (.int 2)))) (eC (.int 1))) aNil)))))) (sRaise "BadField" (eV 1)) sSkip)
def F_asked_field : Fn := mkF 2 2 b_asked_field
/-- held_by: slots 0 schema, 1 found, 2 f, 3 holder, 4 target, 5 kind -/
abbrev b_held_by : FS :=
    (sSeq (sSet 1 (eComp (iRng (eOp oIx (eV 0) (eC (.int 1)))) (.nm 5) tTrue (eLst aNil) [5]))
    (sSeq (sFor (iEnum (eOp oIx (eV 0) (eC (.int 2)))) (.tp [(.nm 2), (.tp [(.nm 3), (.nm 4)])]) (sExpr (eBM oAppend (eOp oIx (eV 1) (eV 3)) (eV 2))))
    (sRet (eV 1))))
def F_held_by : Fn := mkF 1 6 b_held_by
/-- come_by: slots 0 schema, 1 firsts, 2 held, 3 kind, 4 found, 5 row, 6 later, 7 f, 8 target -/
abbrev b_come_by : FS :=
    (sSeq (sSet 2 (eCall F_held_by (aCons (eV 0) aNil)))
    (sSeq (sSet 4 (eDComp (iSeq (eV 1)) (.nm 3) tTrue (eV 3) (eC .non) [3]))
    (sSeq (sSet 5 (eUn fList (eV 1)))
    (sSeq (Wk.sWhile (tE (eOp oNe (eV 5) (eLst aNil))) (sSeq (sSet 6 (eLst aNil))
    (sSeq (sFor (iSeq (eV 5)) (.nm 3) (sFor (iSeq (eOp oIx (eV 2) (eV 3))) (.nm 7) (sSeq (sSet 8 (eOp oIx (eOp oIx (eOp oIx (eV 0) (eC (.int 2))) (eV 7)) (eC (.int 1))))
    (sIf (tE (eOp oNinD (eV 8) (eV 4))) (sSeq (sSub uSetD (eV 4) (eV 8) (eV 7))
    (sExpr (eBM oAppend (eV 6) (eV 8)))) sSkip))))
    (sSet 5 (eV 6)))))
    (sRet (eV 4))))))
def F_come_by : Fn := mkF 2 9 b_come_by
/-- way_back: slots 0 schema, 1 found, 2 kind, 3 fields -/
abbrev b_way_back : FS :=
    (sSeq (sSet 3 (eLst aNil))
    (sSeq (Wk.sWhile (tE (eOp oNotN (eOp oIxD (eV 1) (eV 2)) (eC .non))) (sSeq (sExpr (eBM oAppend (eV 3) (eOp oIxD (eV 1) (eV 2))))
    (sSet 2 (eOp oIx (eOp oIx (eOp oIx (eV 0) (eC (.int 2))) (eOp oIxD (eV 1) (eV 2))) (eC (.int 0))))))
    (sRet (eUn fTuple (eUn fRevA (eV 3))))))
def F_way_back : Fn := mkF 3 4 b_way_back
/-- reach: slots 0 schema, 1 found, 2 kind, 3 come_to, 4 other -/
abbrev b_reach : FS :=
    (sSeq (sSet 1 (eLst aNil))
    (sSeq (sFor (iRng (eOp oIx (eV 0) (eC (.int 1)))) (.nm 2) (sSeq (sSet 3 (eCall F_come_by (aCons (eV 0) (aCons (eLst (aCons (eV 2) aNil)) aNil))))
    (sExpr (eBM oAppend (eV 1) (eComp (iRng (eOp oIx (eV 0) (eC (.int 1)))) (.nm 4) tTrue (eOp oInD (eV 4) (eV 3)) [4])))))
    (sRet (eV 1))))
def F_reach : Fn := mkF 1 5 b_reach
/-- asked_kinds: slots 0 schema, 1 a, 2 b -/
abbrev b_asked_kinds : FS :=
    (sSeq (sExpr (eCall F_made_schema (aCons (eV 0) aNil)))
    (sSeq (sExpr (eCall F_asked_kind (aCons (eV 0) (aCons (eV 1) aNil))))
    (sExpr (eCall F_asked_kind (aCons (eV 0) (aCons (eV 2) aNil))))))
def F_asked_kinds : Fn := mkF 3 3 b_asked_kinds
/-- way: slots 0 schema, 1 a, 2 b, 3 found -/
abbrev b_way : FS :=
    (sSeq (sExpr (eCall F_asked_kinds (aCons (eV 0) (aCons (eV 1) (aCons (eV 2) aNil)))))
    (sSeq (sSet 3 (eCall F_come_by (aCons (eV 0) (aCons (eLst (aCons (eV 1) aNil)) aNil))))
    (sRet (eIf (tE (eOp oInD (eV 2) (eV 3))) (eCall F_way_back (aCons (eV 0) (aCons (eV 3) (aCons (eV 2) aNil)))) (eC .non)))))
def F_way : Fn := mkF 3 4 b_way
/-- is_way: slots 0 schema, 1 a, 2 b, 3 thing, 4 kind, 5 f -/
abbrev b_is_way : FS :=
    (sSeq (sIf (Wk.tNot (tE (eUn (fIsInst "tuple") (eV 3)))) (sRet (eC (.bl false))) sSkip)
    (sSeq (sSet 4 (eV 1))
    (sSeq (sFor (iSeq (eV 3)) (.nm 5) (sSeq (sIf (tOr (Wk.tNot (tE (eCall F_is_whole (aCons (eV 5) (aCons (eC (.int 0)) (aCons (eOp oSub (eUn fLen (eOp oIx (eV 0) (eC (.int 2)))) (eC (.int 1))) aNil)))))) (tE (eOp oNe (eOp oIx (eOp oIx (eOp oIx (eV 0) (eC (.int 2))) (eV 5)) (eC (.int 0))) (eV 4)))) (sRet (eC (.bl false))) sSkip)
    (sSet 4 (eOp oIx (eOp oIx (eOp oIx (eV 0) (eC (.int 2))) (eV 5)) (eC (.int 1))))))
    (sRet (eOp oEq (eV 4) (eV 2))))))
def F_is_way : Fn := mkF 4 6 b_is_way
/-- way_right: slots 0 schema, 1 a, 2 b, 3 paper -/
abbrev b_way_right : FS :=
    (sSeq (sExpr (eCall F_asked_kinds (aCons (eV 0) (aCons (eV 1) (aCons (eV 2) aNil)))))
    (sRet (eCall F_is_way (aCons (eV 0) (aCons (eV 1) (aCons (eV 2) (aCons (eV 3) aNil)))))))
def F_way_right : Fn := mkF 4 4 b_way_right
/-- led_list: slots 0 schema, 1 reached, 2 found, 3 f, 4 holder, 5 target, 6 g, 7 other, 8 end -/
abbrev b_led_list : FS :=
    (sSeq (sSet 1 (eCall F_reach (aCons (eV 0) aNil)))
    (sSeq (sSet 2 (eLst aNil))
    (sSeq (sFor (iEnum (eOp oIx (eV 0) (eC (.int 2)))) (.tp [(.nm 3), (.tp [(.nm 4), (.nm 5)])]) (sExpr (eBM oAppend (eV 2) (eComp (iEnum (eOp oIx (eV 0) (eC (.int 2)))) (.tp [(.nm 6), (.tp [(.nm 7), (.nm 8)])]) (tOr (tE (eOp oEq (eV 6) (eV 3))) (tE (eOp oIx (eOp oIx (eV 1) (eV 5)) (eV 7)))) (eV 6) [6, 7, 8]))))
    (sRet (eV 2)))))
def F_led_list : Fn := mkF 1 9 b_led_list
/-- led: slots 0 schema, 1 f -/
abbrev b_led : FS :=
    (sSeq (sExpr (eCall F_made_schema (aCons (eV 0) aNil)))
    (sSeq (sExpr (eCall F_asked_field (aCons (eV 0) (aCons (eV 1) aNil))))
    (sRet (eUn fTuple (eOp oIx (eCall F_led_list (aCons (eV 0) aNil)) (eV 1))))))
def F_led : Fn := mkF 2 2 b_led
/-- _law_wv_pool: slots 0 script, 1 digits, 2 stirred, 3 at, 4 cell -/
abbrev b__law_wv_pool : FS :=
    (sSeq (sAsg (.tp [(.nm 1), (.nm 2)]) (eTup (aCons (eC (.int 0)) (aCons (eC (.int 7)) aNil))))
    (sSeq (sFor (iRng (eUn fLen (eV 0))) (.nm 3) (sSeq (sSet 4 (eOp oMax (eOp oIx (eV 0) (eV 3)) (eOp oSub (eUn uNeg (eC (.int 1))) (eOp oIx (eV 0) (eV 3)))))
    (sSeq (sSet 2 (eOp oMod (eOp oAdd (eOp oAdd (eOp oMul (eV 2) (eC (.int 48271))) (eOp oMod (eV 4) (eC (.int 2147483629)))) (eC (.int 11))) (eC (.int 2147483647))))
    (sSet 1 (eIf (tAnd (tE (eOp oGe (eV 4) (eOp oPow (eC (.int 10)) (eC (.int 12))))) (tE (eOp oLt (eV 1) (eOp oPow (eC (.int 10)) (eC (.int 60)))))) (eOp oAdd (eOp oMul (eV 1) (eOp oPow (eC (.int 10)) (eC (.int 60)))) (eOp oMod (eV 4) (eOp oPow (eC (.int 10)) (eC (.int 60))))) (eV 1))))))
    (sRet (eLst (aCons (eV 1) (aCons (eV 2) aNil))))))
def F__law_wv_pool : Fn := mkF 1 5 b__law_wv_pool
/-- _law_wv_take: slots 0 pool, 1 many, 2 found -/
abbrev b__law_wv_take : FS :=
    (sSeq (sIf (tE (eOp oGt (eOp oIx (eV 0) (eC (.int 0))) (eC (.int 0)))) (sSeq (sSet 2 (eOp oMod (eOp oIx (eV 0) (eC (.int 0))) (eV 1)))
    (sSeq (sSub uSetL (eV 0) (eC (.int 0)) (eOp oFdiv (eOp oIx (eV 0) (eC (.int 0))) (eV 1)))
    (sRet (eV 2)))) sSkip)
    (sSeq (sSub uSetL (eV 0) (eC (.int 1)) (eOp oMod (eOp oAdd (eOp oMul (eOp oIx (eV 0) (eC (.int 1))) (eC (.int 39373))) (eC (.int 7))) (eC (.int 2147483647))))
    (sRet (eOp oMod (eOp oFdiv (eOp oMod (eOp oMul (eOp oIx (eV 0) (eC (.int 1))) (eOp oIx (eV 0) (eC (.int 1)))) (eC (.int 2147483629))) (eC (.int 32))) (eV 1)))))
def F__law_wv_take : Fn := mkF 2 3 b__law_wv_take
/-- _law_wv_one: slots 0 pool, 1 things -/
abbrev b__law_wv_one : FS :=
    (sRet (eOp oIx (eV 1) (eCall F__law_wv_take (aCons (eV 0) (aCons (eUn fLen (eV 1)) aNil)))))
def F__law_wv_one : Fn := mkF 2 2 b__law_wv_one
/-- _law_wv_mixed: slots 0 pool, 1 things, 2 spare, 3 found, 4 go -/
abbrev b__law_wv_mixed : FS :=
    (sSeq (sPar 2 3 (eUn fList (eV 1)) (eLst aNil))
    (sSeq (sFor (iRng (eUn fLen (eV 1))) (.nm 4) (sExpr (eBM oAppend (eV 3) (eBM oPopAt (eV 2) (eCall F__law_wv_take (aCons (eV 0) (aCons (eUn fLen (eV 2)) aNil)))))))
    (sRet (eV 3))))
def F__law_wv_mixed : Fn := mkF 2 5 b__law_wv_mixed
/-- _law_wv_schema: slots 0 pool, 1 hands, 2 kinds, 3 met, 4 found, 5 go, 6 holder, 7 goal -/
abbrev b__law_wv_schema : FS :=
    (sSeq (sSet 1 (eOp oAdd (eC (.int 1)) (eOp oFdiv (eCall F__law_wv_take (aCons (eV 0) (aCons (eC (.int 4)) aNil))) (eC (.int 3)))))
    (sSeq (sSet 2 (eOp oAdd (eOp oAdd (eV 1) (eC (.int 1))) (eCall F__law_wv_take (aCons (eV 0) (aCons (eC (.int 4)) aNil)))))
    (sSeq (sPar 3 4 (eUn fListRg (eV 1)) (eLst aNil))
    (sSeq (sFor (iRng (eCall F__law_wv_one (aCons (eV 0) (aCons (eLst (aCons (eC (.int 1)) (aCons (eC (.int 2)) (aCons (eC (.int 2)) (aCons (eC (.int 3)) (aCons (eC (.int 3)) (aCons (eC (.int 4)) (aCons (eC (.int 4)) (aCons (eC (.int 5)) (aCons (eC (.int 5)) (aCons (eC (.int 6)) (aCons (eC (.int 7)) (aCons (eC (.int 0)) aNil))))))))))))) aNil)))) (.nm 5) (sSeq (sSet 6 (eIf (tE (eOp oGt (eCall F__law_wv_take (aCons (eV 0) (aCons (eC (.int 5)) aNil))) (eC (.int 0)))) (eCall F__law_wv_one (aCons (eV 0) (aCons (eV 3) aNil))) (eCall F__law_wv_take (aCons (eV 0) (aCons (eV 2) aNil)))))
    (sSeq (sSet 7 (eOp oAdd (eV 1) (eCall F__law_wv_take (aCons (eV 0) (aCons (eOp oSub (eV 2) (eV 1)) aNil)))))
    (sSeq (sExpr (eBM oAppend (eV 4) (eTup (aCons (eV 6) (aCons (eV 7) aNil)))))
    (sExpr (eBM oExtend (eV 3) (eIf (tE (eOp oInS (eV 6) (eV 3))) (eLst (aCons (eV 7) aNil)) (eLst aNil))))))))
    (sRet (eTup (aCons (eV 1) (aCons (eV 2) (aCons (eUn fTuple (eCall F__law_wv_mixed (aCons (eV 0) (aCons (eV 4) aNil)))) aNil)))))))))
def F__law_wv_schema : Fn := mkF 1 8 b__law_wv_schema
/-- _law_wv_great_schema: slots 0 pool, 1 hands, 2 found, 3 go -/
abbrev b__law_wv_great_schema : FS :=
    (sSeq (sSet 1 (eOp oAdd (eC (.int 1)) (eCall F__law_wv_take (aCons (eV 0) (aCons (eC (.int 6)) aNil)))))
    (sSeq (sSet 2 (eComp (iRng (eC (.int 8))) (.nm 3) tTrue (eTup (aCons (eCall F__law_wv_take (aCons (eV 0) (aCons (eV 1) aNil))) (aCons (eOp oAdd (eV 1) (eCall F__law_wv_take (aCons (eV 0) (aCons (eOp oSub (eC (.int 24)) (eV 1)) aNil)))) aNil))) [3]))
    (sSeq (sExpr (eBM oExtend (eV 2) (eComp (iRng (eC (.int 32))) (.nm 3) tTrue (eTup (aCons (eCall F__law_wv_take (aCons (eV 0) (aCons (eC (.int 24)) aNil))) (aCons (eOp oAdd (eV 1) (eCall F__law_wv_take (aCons (eV 0) (aCons (eOp oSub (eC (.int 24)) (eV 1)) aNil)))) aNil))) [3])))
    (sRet (eTup (aCons (eV 1) (aCons (eC (.int 24)) (aCons (eUn fTuple (eCall F__law_wv_mixed (aCons (eV 0) (aCons (eV 2) aNil)))) aNil))))))))
def F__law_wv_great_schema : Fn := mkF 1 4 b__law_wv_great_schema
/-- _law_wv_reached: slots 0 schema, 1 kinds_now, 2 found, 3 before, 4 more, 5 a, 6 b, 7 kind -/
abbrev b__law_wv_reached : FS :=
    (sSeq (sAsg (.tp [(.nm 2), (.nm 3)]) (eTup (aCons (eUn fSorted (eV 1)) (aCons (eC .non) aNil))))
    (sSeq (Wk.sWhile (tE (eOp oNe (eV 3) (eV 2))) (sSeq (sSet 3 (eV 2))
    (sSeq (sSet 4 (eComp (iSeq (eOp oIx (eV 0) (eC (.int 2)))) (.tp [(.nm 5), (.nm 6)]) (tE (eOp oInS (eV 5) (eV 3))) (eV 6) [5, 6]))
    (sSet 2 (eComp (iRng (eOp oIx (eV 0) (eC (.int 1)))) (.nm 7) (tOr (tE (eOp oInS (eV 7) (eV 3))) (tE (eOp oInS (eV 7) (eV 4)))) (eV 7) [7])))))
    (sRet (eV 2))))
def F__law_wv_reached : Fn := mkF 2 8 b__law_wv_reached
/-- _law_wv_led: slots 0 schema, 1 f, 2 met, 3 g -/
abbrev b__law_wv_led : FS :=
    (sSeq (sSet 2 (eCall F__law_wv_reached (aCons (eV 0) (aCons (eLst (aCons (eOp oIx (eOp oIx (eOp oIx (eV 0) (eC (.int 2))) (eV 1)) (eC (.int 1))) aNil)) aNil))))
    (sRet (eUn fTuple (eComp (iRng (eUn fLen (eOp oIx (eV 0) (eC (.int 2))))) (.nm 3) (tOr (tE (eOp oEq (eV 3) (eV 1))) (tE (eOp oInS (eOp oIx (eOp oIx (eOp oIx (eV 0) (eC (.int 2))) (eV 3)) (eC (.int 0))) (eV 2)))) (eV 3) [3]))))
def F__law_wv_led : Fn := mkF 2 4 b__law_wv_led
/-- _law_is_whole: slots 0 thing -/
abbrev b__law_is_whole : FS :=
    (sRet (eAnd (eUn (fIsInst "int") (eV 0)) (eNot (eUn (fIsInst "bool") (eV 0)))))
def F__law_is_whole : Fn := mkF 1 1 b__law_is_whole
/-- _law_same: slots 0 heard_one, 1 owed, 2 at, 3 one -/
abbrev b__law_same (self : Fn) : FS :=
    (sSeq (sIf (tE (eOp oIsN (eV 1) (eC .non))) (sRet (eOp oIsN (eV 0) (eC .non))) sSkip)
    (sSeq (sIf (tE (eUn (fIsInst "bool") (eV 1))) (sRet (eIf (tE (eV 1)) (eOp oIsB (eV 0) (eC (.bl true))) (eOp oIsB (eV 0) (eC (.bl false))))) sSkip)
    (sSeq (sIf (tE (eUn (fIsInst "int") (eV 1))) (sRet (eAnd (eCall F__law_is_whole (aCons (eV 0) aNil)) (eOp oEq (eV 0) (eV 1)))) sSkip)
    (sSeq (sIf (tE (eUn (fIsInst "str") (eV 1))) (sRet (eAnd (eUn (fIsInst "str") (eV 0)) (eOp oEq (eV 0) (eV 1)))) sSkip)
    (sSeq (sIf (tE (eUn (fIsInst "dict") (eV 1))) (sSeq (sIf (tOr (Wk.tNot (tE (eUn (fIsInst "dict") (eV 0)))) (tE (eOp oNe (eUn fLen (eV 0)) (eUn fLen (eV 1))))) (sRet (eC (.bl false))) sSkip)
    (sRet (eOp oEq eBad (eLst aNil)))) sSkip)
    (sSeq (sIf (tAnd (Wk.tNot (tE (eUn (fIsInst "tuple") (eV 1)))) (Wk.tNot (tE (eUn (fIsInst "list") (eV 1))))) (sRet (eUn fBool (eOp oEq (eV 0) (eV 1)))) sSkip)
    (sSeq (sIf (tE (eOp oNe (eUn (fIsInst "tuple") (eV 1)) (eUn (fIsInst "tuple") (eV 0)))) (sRet (eC (.bl false))) sSkip)
    (sSeq (sIf (tE (eOp oNe (eUn (fIsInst "list") (eV 1)) (eUn (fIsInst "list") (eV 0)))) (sRet (eC (.bl false))) sSkip)
    (sSeq (sIf (tE (eOp oNe (eUn fLen (eV 0)) (eUn fLen (eV 1)))) (sRet (eC (.bl false))) sSkip)
    (sSeq (sFor (iRng (eUn fLen (eV 1))) (.nm 2) (sIf (Wk.tNot (tE (eCall self (aCons (eOp oIx (eV 0) (eV 2)) (aCons (eOp oIx (eV 1) (eV 2)) aNil))))) (sRet (eC (.bl false))) sSkip))
    (sRet (eC (.bl true)))))))))))))
def R__law_same : Nat → Fn
  | 0 => fun _ _ => .bad
  | n + 1 => mkF 2 4 (b__law_same (R__law_same n))
def F__law_same : Fn := R__law_same 12
/-- _law_lengths_from: slots 0 schema, 1 kinds_now, 2 found, 3 line, 4 here, 5 holder, 6 goal, 7 kind -/
abbrev b__law_lengths_from : FS :=
    (sSeq (sPar 2 3 (eUn fDict (eComp (iSeq (eV 1)) (.nm 7) tTrue (eTup (aCons (eV 7) (aCons (eC (.int 0)) aNil))) [7])) (eUn fList (eV 1)))
    (sSeq (Wk.sWhile (tE (eOp oNe (eV 3) (eLst aNil))) (sSeq (sSet 4 (eBM oPopAt (eV 3) (eC (.int 0))))
    (sFor (iSeq (eOp oIx (eV 0) (eC (.int 2)))) (.tp [(.nm 5), (.nm 6)]) (sIf (tAnd (tE (eOp oEq (eV 5) (eV 4))) (tE (eOp oNinD (eV 6) (eV 2)))) (sSeq (sSub uSetD (eV 2) (eV 6) (eOp oAdd (eOp oIxD (eV 2) (eV 4)) (eC (.int 1))))
    (sExpr (eBM oAppend (eV 3) (eV 6)))) sSkip))))
    (sRet (eV 2))))
def F__law_lengths_from : Fn := mkF 2 8 b__law_lengths_from
/-- _law_is_way: slots 0 schema, 1 a, 2 b, 3 thing, 4 here, 5 f -/
abbrev b__law_is_way : FS :=
    (sSeq (sIf (Wk.tNot (tE (eUn (fIsInst "tuple") (eV 3)))) (sRet (eC (.bl false))) sSkip)
    (sSeq (sSet 4 (eV 1))
    (sSeq (sFor (iSeq (eV 3)) (.nm 5) (sSeq (sIf (tOr (Wk.tNot (tE (eCall F__law_is_whole (aCons (eV 5) aNil)))) (tOr (Wk.tNot (tE (eChain oLe oLt (eC (.int 0)) (eV 5) (eUn fLen (eOp oIx (eV 0) (eC (.int 2))))))) (tE (eOp oNe (eOp oIx (eOp oIx (eOp oIx (eV 0) (eC (.int 2))) (eV 5)) (eC (.int 0))) (eV 4))))) (sRet (eC (.bl false))) sSkip)
    (sSet 4 (eOp oIx (eOp oIx (eOp oIx (eV 0) (eC (.int 2))) (eV 5)) (eC (.int 1))))))
    (sRet (eOp oEq (eV 4) (eV 2))))))
def F__law_is_way : Fn := mkF 4 6 b__law_is_way
/-- _law_walked: slots 0 pool, 1 schema, 2 a, 3 many, 4 found, 5 here, 6 go, 7 some, 8 f -/
abbrev b__law_walked : FS :=
    (sSeq (sAsg (.tp [(.nm 4), (.nm 5)]) (eTup (aCons (eLst aNil) (aCons (eV 2) aNil))))
    (sSeq (sFor (iRng (eV 3)) (.nm 6) (sSeq (sSet 7 (eComp (iRng (eUn fLen (eOp oIx (eV 1) (eC (.int 2))))) (.nm 8) (tE (eOp oEq (eOp oIx (eOp oIx (eOp oIx (eV 1) (eC (.int 2))) (eV 8)) (eC (.int 0))) (eV 5))) (eV 8) [8]))
    (sIf (tE (eOp oNe (eV 7) (eLst aNil))) (sSeq (sExpr (eBM oAppend (eV 4) (eCall F__law_wv_one (aCons (eV 0) (aCons (eV 7) aNil)))))
    (sSet 5 (eOp oIx (eOp oIx (eOp oIx (eV 1) (eC (.int 2))) (eOp oIx (eV 4) (eUn uNeg (eC (.int 1))))) (eC (.int 1))))) sSkip)))
    (sRet (eTup (aCons (eUn fTuple (eV 4)) (aCons (eV 5) aNil))))))
def F__law_walked : Fn := mkF 4 9 b__law_walked
/-- _law_bent_way: slots 0 pool, 1 schema, 2 thing, 3 at, 4 many, 5 odd, 6 some, 7 f -/
abbrev b__law_bent_way : FS :=
    (sSeq (sPar 3 4 (eCall F__law_wv_take (aCons (eV 0) (aCons (eOp oAdd (eUn fLen (eV 2)) (eC (.int 1))) aNil))) (eUn fLen (eOp oIx (eV 1) (eC (.int 2)))))
    (sSeq (sSet 5 (eCall F__law_wv_one (aCons (eV 0) (aCons (eLst (aCons (eV 4) (aCons (eUn uNeg (eC (.int 1))) (aCons (eC (.bl true)) (aCons (eC .non) (aCons (eC (.str "0")) (aCons (eTup (aCons (eC (.int 0)) aNil)) (aCons (eCall F__law_wv_take (aCons (eV 0) (aCons (eOp oAdd (eV 4) (eC (.int 1))) aNil))) aNil)))))))) aNil))))
    (sSeq (sSet 6 (eLst (aCons (eOp oAdd (eOp oAdd (eSlice (eV 2) oNone (oSome (eV 3))) (eTup (aCons (eV 5) aNil))) (eSlice (eV 2) (oSome (eOp oAdd (eV 3) (eC (.int 1)))) oNone)) (aCons (eOp oAdd (eSlice (eV 2) oNone (oSome (eV 3))) (eSlice (eV 2) (oSome (eOp oAdd (eV 3) (eC (.int 1)))) oNone)) (aCons (eOp oAdd (eOp oAdd (eSlice (eV 2) oNone (oSome (eV 3))) (eTup (aCons (eV 5) aNil))) (eSlice (eV 2) (oSome (eV 3)) oNone)) aNil)))))
    (sSeq (sSet 6 (eOp oAdd (eV 6) (eLst (aCons (eUn fRevA (eV 2)) (aCons (eOp oAdd (eV 2) (eV 2)) (aCons (eUn fList (eV 2)) (aCons (eC .non) (aCons (eTup aNil) (aCons (eTup (aCons (eV 2) aNil)) (aCons (eC (.str "way")) (aCons (eC (.int 0)) (aCons (eLst (aCons (eLst aNil) aNil)) aNil))))))))))))
    (sRet (eCall F__law_wv_one (aCons (eV 0) (aCons (eOp oAdd (eV 6) (eLst (aCons (eUn fTuple (eComp (iSeq (eV 2)) (.nm 7) tTrue (eUn fStrI (eV 7)) [7])) aNil))) aNil))))))))
def F__law_bent_way : Fn := mkF 3 8 b__law_bent_way
/-- _law_pair_right: slots 0 pool, 1 schema, 2 a, 3 b, 4 near, 5 told, 6 row, 7 here, 8 some, 9 owed, 10 thing -/
abbrev b__law_pair_right : FS :=
    (sSeq (sPar 4 5 (eCall F__law_lengths_from (aCons (eV 1) (aCons (eLst (aCons (eV 2) aNil)) aNil))) (eCall F_way (aCons (eV 1) (aCons (eV 2) (aCons (eV 3) aNil)))))
    (sSeq (sIf (tE (eOp oNinD (eV 3) (eV 4))) (sIf (tOr (tE (eOp oNotN (eV 5) (eC .non))) (tE (eOp oNotB (eCall F_way_right (aCons (eV 1) (aCons (eV 2) (aCons (eV 3) (aCons (eC .non) aNil))))) (eC (.bl false))))) (sRet (eC (.bl false))) sSkip) (sIf (tOr (Wk.tNot (tE (eCall F__law_is_way (aCons (eV 1) (aCons (eV 2) (aCons (eV 3) (aCons (eV 5) aNil))))))) (tOr (tE (eOp oNe (eUn fLen (eV 5)) (eOp oIxD (eV 4) (eV 3)))) (Wk.tNot (tE (eCall F__law_same (aCons (eCall F_way (aCons (eV 1) (aCons (eV 2) (aCons (eV 3) aNil)))) (aCons (eV 5) aNil))))))) (sRet (eC (.bl false))) sSkip))
    (sSeq (sAsg (.tp [(.nm 6), (.nm 7)]) (eCall F__law_walked (aCons (eV 0) (aCons (eV 1) (aCons (eV 2) (aCons (eCall F__law_wv_take (aCons (eV 0) (aCons (eC (.int 12)) aNil))) aNil))))))
    (sSeq (sSet 8 (eLst (aCons (eV 6) (aCons (eTup aNil) (aCons (eC .non) (aCons (eCall F__law_bent_way (aCons (eV 0) (aCons (eV 1) (aCons (eV 6) aNil)))) aNil))))))
    (sSeq (sExpr (eBM oExtend (eV 8) (eIf (tE (eOp oNotN (eV 5) (eC .non))) (eLst (aCons (eV 5) (aCons (eCall F__law_bent_way (aCons (eV 0) (aCons (eV 1) (aCons (eV 5) aNil)))) aNil))) (eLst aNil))))
    (sSeq (sSet 9 (eComp (iSeq (eV 8)) (.nm 10) tTrue (eCall F__law_is_way (aCons (eV 1) (aCons (eV 2) (aCons (eV 3) (aCons (eV 10) aNil))))) [10]))
    (sSeq (sIf (Wk.tNot (tE (eCall F__law_same (aCons (eComp (iSeq (eV 8)) (.nm 10) tTrue (eCall F_way_right (aCons (eV 1) (aCons (eV 2) (aCons (eV 3) (aCons (eV 10) aNil))))) [10]) (aCons (eV 9) aNil))))) (sRet (eC (.bl false))) sSkip)
    (sRet (eCall F__law_same (aCons (eCall F_way_right (aCons (eV 1) (aCons (eV 2) (aCons (eV 7) (aCons (eV 6) aNil))))) (aCons (eC (.bl true)) aNil)))))))))))
def F__law_pair_right : Fn := mkF 4 11 b__law_pair_right
/-- _law_refused_right: slots 0 pool, 1 schema, 2 told, 3 kind, 4 odd -/
abbrev b__law_refused_right : FS :=
    (sSeq (sAsg (.tp [(.nm 4), (.nm 3)]) (eTup (aCons (eCall F__law_wv_one (aCons (eV 0) (aCons (eLst (aCons (eC (.bl true)) (aCons (eC (.bl false)) (aCons (eC .non) (aCons (eC (.str "0")) (aCons (eTup (aCons (eC (.int 0)) aNil)) (aCons (eUn uNeg (eC (.int 1))) (aCons (eOp oPow (eC (.int 10)) (eC (.int 20))) (aCons (eC (.int 99)) aNil))))))))) aNil))) (aCons (eCall F__law_wv_take (aCons (eV 0) (aCons (eOp oIx (eV 1) (eC (.int 1))) aNil))) aNil))))
    (sSeq (sSet 2 (eLst (aCons (eHeard heardCs (eCall F_way (aCons (eV 1) (aCons (eV 4) (aCons (eC .non) aNil))))) aNil)))
    (sSeq (sExpr (eBM oAppend (eV 2) (eHeard heardCs (eCall F_way (aCons (eV 1) (aCons (eV 3) (aCons (eV 4) aNil)))))))
    (sSeq (sExpr (eBM oAppend (eV 2) (eHeard heardCs (eCall F_way_right (aCons (eV 1) (aCons (eV 4) (aCons (eV 3) (aCons (eTup aNil) aNil))))))))
    (sSeq (sExpr (eBM oAppend (eV 2) (eHeard heardCs (eCall F_way_right (aCons (eV 1) (aCons (eV 3) (aCons (eV 4) (aCons (eC .non) aNil))))))))
    (sSeq (sExpr (eBM oAppend (eV 2) (eHeard heardCs (eCall F_led (aCons (eV 1) (aCons (eV 4) aNil))))))
    (sRet (eCall F__law_same (aCons (eV 2) (aCons (eOp oAdd (eOp oMul (eLst (aCons (eTup (aCons (eC (.str "BadKind")) (aCons (eV 4) aNil))) aNil)) (eC (.int 4))) (eLst (aCons (eTup (aCons (eC (.str "BadField")) (aCons (eV 4) aNil))) aNil))) aNil))))))))))
def F__law_refused_right : Fn := mkF 2 5 b__law_refused_right
/-- law: slots 0 script, 1 pool, 2 go, 3 schema, 4 fields, 5 kinds, 6 a, 7 b, 8 f -/
abbrev b_law : FS :=
    (sSeq (sSet 1 (eCall F__law_wv_pool (aCons (eV 0) aNil)))
    (sSeq (sFor (iRng (eC (.int 5))) (.nm 2) (sSeq (sSet 3 (eIf (tAnd (tE (eOp oEq (eV 2) (eC (.int 4)))) (tE (eOp oEq (eCall F__law_wv_take (aCons (eV 1) (aCons (eC (.int 4)) aNil))) (eC (.int 0))))) (eCall F__law_wv_great_schema (aCons (eV 1) aNil)) (eCall F__law_wv_schema (aCons (eV 1) aNil))))
    (sSeq (sSet 4 (eUn fListRg (eUn fLen (eOp oIx (eV 3) (eC (.int 2))))))
    (sSeq (sIf (Wk.tNot (tE (eCall F__law_same (aCons (eComp (iSeq (eV 4)) (.nm 8) tTrue (eCall F_led (aCons (eV 3) (aCons (eV 8) aNil))) [8]) (aCons (eComp (iSeq (eV 4)) (.nm 8) tTrue (eCall F__law_wv_led (aCons (eV 3) (aCons (eV 8) aNil))) [8]) aNil))))) (sRet (eC (.bl false))) sSkip)
    (sSeq (sSet 5 (eUn fListRg (eOp oIx (eV 3) (eC (.int 1)))))
    (sSeq (sFor (iSeq (eIf (tE (eOp oLt (eOp oIx (eV 3) (eC (.int 1))) (eC (.int 9)))) (eV 5) (eSlice (eCall F__law_wv_mixed (aCons (eV 1) (aCons (eV 5) aNil))) oNone (oSome (eC (.int 5)))))) (.nm 6) (sFor (iSeq (eV 5)) (.nm 7) (sIf (Wk.tNot (tE (eCall F__law_pair_right (aCons (eV 1) (aCons (eV 3) (aCons (eV 6) (aCons (eV 7) aNil))))))) (sRet (eC (.bl false))) sSkip)))
    (sIf (Wk.tNot (tE (eCall F__law_refused_right (aCons (eV 1) (aCons (eV 3) aNil))))) (sRet (eC (.bl false))) sSkip)))))))
    (sRet (eC (.bl true)))))
def F_law : Fn := mkF 1 9 b_law
end WkL


set_option Elab.async false
set_option linter.all false
set_option maxRecDepth 100000
set_option maxHeartbeats 4000000
set_option autoImplicit false
/-! printed by gen.py: the derivations for the defs of wovenkeep_k03_ways_and_what_is_led. -/
namespace WkL
open PySem PySem.Spec PyProof.Rows L2 LamX Wk

def top (i : Nat) : Stmt := PySem.Challenge.pw_wovenkeep_k03_ways_and_what_is_led.main.body.getD i (.Pass ⟨0, 0, 0, 0⟩)
abbrev st_is_whole : Stmt := top 7
abbrev st_is_row : Stmt := top 8
abbrev st_is_field : Stmt := top 13
abbrev st_made_schema : Stmt := top 14
abbrev st_asked_kind : Stmt := top 15
abbrev st_asked_field : Stmt := top 16
abbrev st_held_by : Stmt := top 17
abbrev st_come_by : Stmt := top 19
abbrev st_way_back : Stmt := top 20
abbrev st_reach : Stmt := top 21
abbrev st_asked_kinds : Stmt := top 22
abbrev st_way : Stmt := top 23
abbrev st_is_way : Stmt := top 24
abbrev st_way_right : Stmt := top 25
abbrev st_led_list : Stmt := top 26
abbrev st_led : Stmt := top 27
abbrev st__law_wv_pool : Stmt := top 29
abbrev st__law_wv_take : Stmt := top 30
abbrev st__law_wv_one : Stmt := top 31
abbrev st__law_wv_mixed : Stmt := top 32
abbrev st__law_wv_schema : Stmt := top 33
abbrev st__law_wv_great_schema : Stmt := top 34
abbrev st__law_wv_reached : Stmt := top 35
abbrev st__law_wv_led : Stmt := top 36
abbrev st__law_is_whole : Stmt := top 37
abbrev st__law_same : Stmt := top 38
abbrev st__law_heard : Stmt := top 39
abbrev st__law_lengths_from : Stmt := top 40
abbrev st__law_is_way : Stmt := top 41
abbrev st__law_walked : Stmt := top 42
abbrev st__law_bent_way : Stmt := top 43
abbrev st__law_pair_right : Stmt := top 44
abbrev st__law_refused_right : Stmt := top 45
abbrev st_law : Stmt := top 46
abbrev st_init : Stmt := inClass (top 1) 0
theorem kit_int : ∀ t ∈ tysD, kitB t "int" = some (isTy t "int") := by decide +kernel
theorem kit_bool : ∀ t ∈ tysD, kitB t "bool" = some (isTy t "bool") := by decide +kernel
theorem kit_str : ∀ t ∈ tysD, kitB t "str" = some (isTy t "str") := by decide +kernel
theorem kit_tuple : ∀ t ∈ tysD, kitB t "tuple" = some (isTy t "tuple") := by decide +kernel
theorem kit_list : ∀ t ∈ tysD, kitB t "list" = some (isTy t "list") := by decide +kernel
theorem kit_dict : ∀ t ∈ tysD, kitB t "dict" = some (isTy t "dict") := by decide +kernel
abbrev N_is_whole : List Str := ["thing", "low", "high"]
theorem sc_is_whole : FnScope ["thing", "low", "high"] ["thing", "low", "high"] (defScope st_is_whole) := ⟨rfl, rfl, rfl, by decide +kernel, rfl, by decide +kernel, by decide +kernel⟩
abbrev N_is_row : List Str := ["thing", "many"]
theorem sc_is_row : FnScope ["thing", "many"] ["thing", "many"] (defScope st_is_row) := ⟨rfl, rfl, rfl, by decide +kernel, rfl, by decide +kernel, by decide +kernel⟩
abbrev N_is_field : List Str := ["thing", "hands", "kinds"]
theorem sc_is_field : FnScope ["thing", "hands", "kinds"] ["thing", "hands", "kinds"] (defScope st_is_field) := ⟨rfl, rfl, rfl, by decide +kernel, rfl, by decide +kernel, by decide +kernel⟩
abbrev N_made_schema : List Str := ["thing", "hands", "kinds", "fields", "index", "field"]
theorem sc_made_schema : FnScope ["thing", "hands", "kinds", "fields", "index", "field"] ["thing"] (defScope st_made_schema) := ⟨rfl, rfl, rfl, by decide +kernel, rfl, by decide +kernel, by decide +kernel⟩
abbrev N_asked_kind : List Str := ["schema", "kind"]
theorem sc_asked_kind : FnScope ["schema", "kind"] ["schema", "kind"] (defScope st_asked_kind) := ⟨rfl, rfl, rfl, by decide +kernel, rfl, by decide +kernel, by decide +kernel⟩
abbrev N_asked_field : List Str := ["schema", "f"]
theorem sc_asked_field : FnScope ["schema", "f"] ["schema", "f"] (defScope st_asked_field) := ⟨rfl, rfl, rfl, by decide +kernel, rfl, by decide +kernel, by decide +kernel⟩
abbrev N_held_by : List Str := ["schema", "found", "f", "holder", "target", "kind"]
theorem sc_held_by : FnScope ["schema", "found", "f", "holder", "target", "kind"] ["schema"] (defScope st_held_by) := ⟨rfl, rfl, rfl, by decide +kernel, rfl, by decide +kernel, by decide +kernel⟩
abbrev N_come_by : List Str := ["schema", "firsts", "held", "kind", "found", "row", "later", "f", "target"]
theorem sc_come_by : FnScope ["schema", "firsts", "held", "kind", "found", "row", "later", "f", "target"] ["schema", "firsts"] (defScope st_come_by) := ⟨rfl, rfl, rfl, by decide +kernel, rfl, by decide +kernel, by decide +kernel⟩
abbrev N_way_back : List Str := ["schema", "found", "kind", "fields"]
theorem sc_way_back : FnScope ["schema", "found", "kind", "fields"] ["schema", "found", "kind"] (defScope st_way_back) := ⟨rfl, rfl, rfl, by decide +kernel, rfl, by decide +kernel, by decide +kernel⟩
abbrev N_reach : List Str := ["schema", "found", "kind", "come_to", "other"]
theorem sc_reach : FnScope ["schema", "found", "kind", "come_to", "other"] ["schema"] (defScope st_reach) := ⟨rfl, rfl, rfl, by decide +kernel, rfl, by decide +kernel, by decide +kernel⟩
abbrev N_asked_kinds : List Str := ["schema", "a", "b"]
theorem sc_asked_kinds : FnScope ["schema", "a", "b"] ["schema", "a", "b"] (defScope st_asked_kinds) := ⟨rfl, rfl, rfl, by decide +kernel, rfl, by decide +kernel, by decide +kernel⟩
abbrev N_way : List Str := ["schema", "a", "b", "found"]
theorem sc_way : FnScope ["schema", "a", "b", "found"] ["schema", "a", "b"] (defScope st_way) := ⟨rfl, rfl, rfl, by decide +kernel, rfl, by decide +kernel, by decide +kernel⟩
abbrev N_is_way : List Str := ["schema", "a", "b", "thing", "kind", "f"]
theorem sc_is_way : FnScope ["schema", "a", "b", "thing", "kind", "f"] ["schema", "a", "b", "thing"] (defScope st_is_way) := ⟨rfl, rfl, rfl, by decide +kernel, rfl, by decide +kernel, by decide +kernel⟩
abbrev N_way_right : List Str := ["schema", "a", "b", "paper"]
theorem sc_way_right : FnScope ["schema", "a", "b", "paper"] ["schema", "a", "b", "paper"] (defScope st_way_right) := ⟨rfl, rfl, rfl, by decide +kernel, rfl, by decide +kernel, by decide +kernel⟩
abbrev N_led_list : List Str := ["schema", "reached", "found", "f", "holder", "target", "g", "other", "end"]
theorem sc_led_list : FnScope ["schema", "reached", "found", "f", "holder", "target", "g", "other", "end"] ["schema"] (defScope st_led_list) := ⟨rfl, rfl, rfl, by decide +kernel, rfl, by decide +kernel, by decide +kernel⟩
abbrev N_led : List Str := ["schema", "f"]
theorem sc_led : FnScope ["schema", "f"] ["schema", "f"] (defScope st_led) := ⟨rfl, rfl, rfl, by decide +kernel, rfl, by decide +kernel, by decide +kernel⟩
abbrev N__law_wv_pool : List Str := ["script", "digits", "stirred", "at", "cell"]
theorem sc__law_wv_pool : FnScope ["script", "digits", "stirred", "at", "cell"] ["script"] (defScope st__law_wv_pool) := ⟨rfl, rfl, rfl, by decide +kernel, rfl, by decide +kernel, by decide +kernel⟩
abbrev N__law_wv_take : List Str := ["pool", "many", "found"]
theorem sc__law_wv_take : FnScope ["pool", "many", "found"] ["pool", "many"] (defScope st__law_wv_take) := ⟨rfl, rfl, rfl, by decide +kernel, rfl, by decide +kernel, by decide +kernel⟩
abbrev N__law_wv_one : List Str := ["pool", "things"]
theorem sc__law_wv_one : FnScope ["pool", "things"] ["pool", "things"] (defScope st__law_wv_one) := ⟨rfl, rfl, rfl, by decide +kernel, rfl, by decide +kernel, by decide +kernel⟩
abbrev N__law_wv_mixed : List Str := ["pool", "things", "spare", "found", "go"]
theorem sc__law_wv_mixed : FnScope ["pool", "things", "spare", "found", "go"] ["pool", "things"] (defScope st__law_wv_mixed) := ⟨rfl, rfl, rfl, by decide +kernel, rfl, by decide +kernel, by decide +kernel⟩
abbrev N__law_wv_schema : List Str := ["pool", "hands", "kinds", "met", "found", "go", "holder", "goal"]
theorem sc__law_wv_schema : FnScope ["pool", "hands", "kinds", "met", "found", "go", "holder", "goal"] ["pool"] (defScope st__law_wv_schema) := ⟨rfl, rfl, rfl, by decide +kernel, rfl, by decide +kernel, by decide +kernel⟩
abbrev N__law_wv_great_schema : List Str := ["pool", "hands", "found", "go"]
theorem sc__law_wv_great_schema : FnScope ["pool", "hands", "found", "go"] ["pool"] (defScope st__law_wv_great_schema) := ⟨rfl, rfl, rfl, by decide +kernel, rfl, by decide +kernel, by decide +kernel⟩
abbrev N__law_wv_reached : List Str := ["schema", "kinds_now", "found", "before", "more", "a", "b", "kind"]
theorem sc__law_wv_reached : FnScope ["schema", "kinds_now", "found", "before", "more", "a", "b", "kind"] ["schema", "kinds_now"] (defScope st__law_wv_reached) := ⟨rfl, rfl, rfl, by decide +kernel, rfl, by decide +kernel, by decide +kernel⟩
abbrev N__law_wv_led : List Str := ["schema", "f", "met", "g"]
theorem sc__law_wv_led : FnScope ["schema", "f", "met", "g"] ["schema", "f"] (defScope st__law_wv_led) := ⟨rfl, rfl, rfl, by decide +kernel, rfl, by decide +kernel, by decide +kernel⟩
abbrev N__law_is_whole : List Str := ["thing"]
theorem sc__law_is_whole : FnScope ["thing"] ["thing"] (defScope st__law_is_whole) := ⟨rfl, rfl, rfl, by decide +kernel, rfl, by decide +kernel, by decide +kernel⟩
abbrev N__law_same : List Str := ["heard_one", "owed", "at", "one"]
theorem sc__law_same : FnScope ["heard_one", "owed", "at", "one"] ["heard_one", "owed"] (defScope st__law_same) := ⟨rfl, rfl, rfl, by decide +kernel, rfl, by decide +kernel, by decide +kernel⟩
abbrev N__law_lengths_from : List Str := ["schema", "kinds_now", "found", "line", "here", "holder", "goal", "kind"]
theorem sc__law_lengths_from : FnScope ["schema", "kinds_now", "found", "line", "here", "holder", "goal", "kind"] ["schema", "kinds_now"] (defScope st__law_lengths_from) := ⟨rfl, rfl, rfl, by decide +kernel, rfl, by decide +kernel, by decide +kernel⟩
abbrev N__law_is_way : List Str := ["schema", "a", "b", "thing", "here", "f"]
theorem sc__law_is_way : FnScope ["schema", "a", "b", "thing", "here", "f"] ["schema", "a", "b", "thing"] (defScope st__law_is_way) := ⟨rfl, rfl, rfl, by decide +kernel, rfl, by decide +kernel, by decide +kernel⟩
abbrev N__law_walked : List Str := ["pool", "schema", "a", "many", "found", "here", "go", "some", "f"]
theorem sc__law_walked : FnScope ["pool", "schema", "a", "many", "found", "here", "go", "some", "f"] ["pool", "schema", "a", "many"] (defScope st__law_walked) := ⟨rfl, rfl, rfl, by decide +kernel, rfl, by decide +kernel, by decide +kernel⟩
abbrev N__law_bent_way : List Str := ["pool", "schema", "thing", "at", "many", "odd", "some", "f"]
theorem sc__law_bent_way : FnScope ["pool", "schema", "thing", "at", "many", "odd", "some", "f"] ["pool", "schema", "thing"] (defScope st__law_bent_way) := ⟨rfl, rfl, rfl, by decide +kernel, rfl, by decide +kernel, by decide +kernel⟩
abbrev N__law_pair_right : List Str := ["pool", "schema", "a", "b", "near", "told", "row", "here", "some", "owed", "thing"]
theorem sc__law_pair_right : FnScope ["pool", "schema", "a", "b", "near", "told", "row", "here", "some", "owed", "thing"] ["pool", "schema", "a", "b"] (defScope st__law_pair_right) := ⟨rfl, rfl, rfl, by decide +kernel, rfl, by decide +kernel, by decide +kernel⟩
abbrev N__law_refused_right : List Str := ["pool", "schema", "told", "kind", "odd"]
theorem sc__law_refused_right : FnScope ["pool", "schema", "told", "kind", "odd"] ["pool", "schema"] (defScope st__law_refused_right) := ⟨rfl, rfl, rfl, by decide +kernel, rfl, by decide +kernel, by decide +kernel⟩
abbrev N_law : List Str := ["script", "pool", "go", "schema", "fields", "kinds", "a", "b", "f"]
theorem sc_law : FnScope ["script", "pool", "go", "schema", "fields", "kinds", "a", "b", "f"] ["script"] (defScope st_law) := ⟨rfl, rfl, rfl, by decide +kernel, rfl, by decide +kernel, by decide +kernel⟩
def hds : List ExceptHandler := match defBody st__law_heard with
  | [.Try _ hs _ _ _] => hs
  | _ => []
structure Txt (P : Program) (w : World) (K : PySem.W.Frag) (mg : Str → Option Value) (base : Heap) (c__law_refused_right t__law_refused_right : Addr) : Prop where
  d_is_whole : DefAt K mg "is_whole" st_is_whole ["thing", "low", "high"]
  d_is_row : DefAt K mg "is_row" st_is_row ["thing", "many"]
  d_is_field : DefAt K mg "is_field" st_is_field ["thing", "hands", "kinds"]
  d_made_schema : DefAt K mg "made_schema" st_made_schema ["thing"]
  d_asked_kind : DefAt K mg "asked_kind" st_asked_kind ["schema", "kind"]
  d_asked_field : DefAt K mg "asked_field" st_asked_field ["schema", "f"]
  d_held_by : DefAt K mg "held_by" st_held_by ["schema"]
  d_come_by : DefAt K mg "come_by" st_come_by ["schema", "firsts"]
  d_way_back : DefAt K mg "way_back" st_way_back ["schema", "found", "kind"]
  d_reach : DefAt K mg "reach" st_reach ["schema"]
  d_asked_kinds : DefAt K mg "asked_kinds" st_asked_kinds ["schema", "a", "b"]
  d_way : DefAt K mg "way" st_way ["schema", "a", "b"]
  d_is_way : DefAt K mg "is_way" st_is_way ["schema", "a", "b", "thing"]
  d_way_right : DefAt K mg "way_right" st_way_right ["schema", "a", "b", "paper"]
  d_led_list : DefAt K mg "led_list" st_led_list ["schema"]
  d_led : DefAt K mg "led" st_led ["schema", "f"]
  d__law_wv_pool : DefAt K mg "_law_wv_pool" st__law_wv_pool ["script"]
  d__law_wv_take : DefAt K mg "_law_wv_take" st__law_wv_take ["pool", "many"]
  d__law_wv_one : DefAt K mg "_law_wv_one" st__law_wv_one ["pool", "things"]
  d__law_wv_mixed : DefAt K mg "_law_wv_mixed" st__law_wv_mixed ["pool", "things"]
  d__law_wv_schema : DefAt K mg "_law_wv_schema" st__law_wv_schema ["pool"]
  d__law_wv_great_schema : DefAt K mg "_law_wv_great_schema" st__law_wv_great_schema ["pool"]
  d__law_wv_reached : DefAt K mg "_law_wv_reached" st__law_wv_reached ["schema", "kinds_now"]
  d__law_wv_led : DefAt K mg "_law_wv_led" st__law_wv_led ["schema", "f"]
  d__law_is_whole : DefAt K mg "_law_is_whole" st__law_is_whole ["thing"]
  d__law_same : DefAt K mg "_law_same" st__law_same ["heard_one", "owed"]
  d__law_lengths_from : DefAt K mg "_law_lengths_from" st__law_lengths_from ["schema", "kinds_now"]
  d__law_is_way : DefAt K mg "_law_is_way" st__law_is_way ["schema", "a", "b", "thing"]
  d__law_walked : DefAt K mg "_law_walked" st__law_walked ["pool", "schema", "a", "many"]
  d__law_bent_way : DefAt K mg "_law_bent_way" st__law_bent_way ["pool", "schema", "thing"]
  d__law_pair_right : DefAt K mg "_law_pair_right" st__law_pair_right ["pool", "schema", "a", "b"]
  d__law_refused_right : DefAtC K mg "_law_refused_right" st__law_refused_right ["pool", "schema"] c__law_refused_right
  d_law : DefAt K mg "law" st_law ["script"]
  n_bool : mg "bool" = none
  n_dict : mg "dict" = none
  n_enumerate : mg "enumerate" = none
  n_int : mg "int" = none
  n_isinstance : mg "isinstance" = none
  n_len : mg "len" = none
  n_list : mg "list" = none
  n_max : mg "max" = none
  n_range : mg "range" = none
  n_sorted : mg "sorted" = none
  n_str : mg "str" = none
  n_tuple : mg "tuple" = none
  c_MOST_FIELDS : ∃ t, mg "MOST_FIELDS" = some (.int 40 t)
  c_MOST_HANDS : ∃ t, mg "MOST_HANDS" = some (.int 6 t)
  c_MOST_KINDS : ∃ t, mg "MOST_KINDS" = some (.int 24 t)
  e_BadField : ExcAt P w K mg base "BadField"
  e_BadKind : ExcAt P w K mg base "BadKind"
  e_BadSchema : ExcAt P w K mg base "BadSchema"
  e_TooMany : ExcAt P w K mg base "TooMany"
  heard : HeardAt K mg "_law_heard" "deed" "refused_one" st__law_heard hds heardCs
  b__law_refused_right : TabB base mg c__law_refused_right t__law_refused_right
section
variable {P : Program} {w : World} {K : PySem.W.Frag} {mg : Str → Option Value} {base : Heap} {c__law_refused_right t__law_refused_right : Addr}
abbrev Tabl (t__law_refused_right : Addr) : Tbs := [(t__law_refused_right, (envOfC "_law_refused_right" (defScope st__law_refused_right) 0 0 .none).qual ++ "<lambda>")]
theorem ok_is_whole (Tx : Txt P w K mg base c__law_refused_right t__law_refused_right) : CallOk P w K mg base (Tabl t__law_refused_right) 1 "is_whole" 3 F_is_whole := call_ok Tx.d_is_whole sc_is_whole rfl rfl fun f cdv A outer s H E hr =>
    (ess_one (es_ret (ev_and (ev_isinst kit_int Tx.n_isinstance Tx.n_int rfl (ev_v 0)) (ev_and (ev_not (ev_isinst kit_bool Tx.n_isinstance Tx.n_bool rfl (ev_v 0))) (ev_one (ev_chain os_le os_le (ev_v 1) (ev_v 0) (ev_v 2)))))))
theorem ok_is_row (Tx : Txt P w K mg base c__law_refused_right t__law_refused_right) : CallOk P w K mg base (Tabl t__law_refused_right) 1 "is_row" 2 F_is_row := call_ok Tx.d_is_row sc_is_row rfl rfl fun f cdv A outer s H E hr =>
    (ess_one (es_ret (ev_and (ev_isinst kit_tuple Tx.n_isinstance Tx.n_tuple rfl (ev_v 0)) (ev_one (ev_cmp (os_eq hr) (ev_b1 os_len Tx.n_len rfl (ev_v 0)) (ev_v 1))))))
theorem ok_is_field (Tx : Txt P w K mg base c__law_refused_right t__law_refused_right) : CallOk P w K mg base (Tabl t__law_refused_right) 2 "is_field" 3 F_is_field := call_ok Tx.d_is_field sc_is_field rfl rfl fun f cdv A outer s H E hr =>
    (ess_one (es_ret (ev_and (ev_call (ok_is_row Tx) (takes_of rfl rfl rfl rfl) (hr.mono (by decide)) (ea_cons (ev_v 0) (ea_cons ev_int ea_nil))) (ev_and (ev_call (ok_is_whole Tx) (takes_of rfl rfl rfl rfl) (hr.mono (by decide)) (ea_cons (ev_ix os_ix (ev_v 0) ev_int) (ea_cons ev_int (ea_cons (ev_op os_sub (ev_v 2) ev_int) ea_nil)))) (ev_one (ev_call (ok_is_whole Tx) (takes_of rfl rfl rfl rfl) (hr.mono (by decide)) (ea_cons (ev_ix os_ix (ev_v 0) ev_int) (ea_cons (ev_v 1) (ea_cons (ev_op os_sub (ev_v 2) ev_int) ea_nil)))))))))
theorem ok_made_schema (Tx : Txt P w K mg base c__law_refused_right t__law_refused_right) : CallOk P w K mg base (Tabl t__law_refused_right) 3 "made_schema" 1 F_made_schema := call_ok Tx.d_made_schema sc_made_schema rfl rfl fun f cdv A outer s H E hr =>
    (ess_cons (es_if (et_not (et_e (ev_call (ok_is_row Tx) (takes_of rfl rfl rfl rfl) (hr.mono (by decide)) (ea_cons (ev_v 0) (ea_cons ev_int ea_nil))))) (ess_one (es_raise Tx.e_BadSchema rfl rfl (takes_of rfl rfl rfl rfl) (hr.mono (by decide)) (ev_un os_neg ev_int))) ess_nil)
    (ess_cons (es_asg (vs := [1, 2, 3]) (ev_v 0) (eg_tup rfl (egs_cons (eg_name 1 sc_made_schema.nd) (egs_cons (eg_name 2 sc_made_schema.nd) (egs_cons (eg_name 3 sc_made_schema.nd) egs_nil)))))
    (ess_cons (es_if (et_not (et_e (ev_call (ok_is_whole Tx) (takes_of rfl rfl rfl rfl) (hr.mono (by decide)) (ea_cons (ev_v 1) (ea_cons ev_int (ea_cons (ev_globI Tx.c_MOST_HANDS.choose_spec) ea_nil)))))) (ess_one (es_raise Tx.e_BadSchema rfl rfl (takes_of rfl rfl rfl rfl) (hr.mono (by decide)) ev_int)) ess_nil)
    (ess_cons (es_if (et_not (et_e (ev_call (ok_is_whole Tx) (takes_of rfl rfl rfl rfl) (hr.mono (by decide)) (ea_cons (ev_v 2) (ea_cons (ev_v 1) (ea_cons (ev_globI Tx.c_MOST_KINDS.choose_spec) ea_nil)))))) (ess_one (es_raise Tx.e_BadSchema rfl rfl (takes_of rfl rfl rfl rfl) (hr.mono (by decide)) ev_int)) ess_nil)
    (ess_cons (es_if (et_not (et_e (ev_isinst kit_tuple Tx.n_isinstance Tx.n_tuple rfl (ev_v 3)))) (ess_one (es_raise Tx.e_BadSchema rfl rfl (takes_of rfl rfl rfl rfl) (hr.mono (by decide)) ev_int)) ess_nil)
    (ess_cons (es_if (et_cmp os_gt (ev_b1 os_len Tx.n_len rfl (ev_v 3)) (ev_globI Tx.c_MOST_FIELDS.choose_spec)) (ess_one (es_raise Tx.e_TooMany rfl rfl (takes_of rfl rfl rfl rfl) (hr.mono (by decide)) (ev_b1 os_len Tx.n_len rfl (ev_v 3)))) ess_nil)
    (ess_cons (es_for (vs := [4, 5]) (passes_of rfl) rfl (ei_enum Tx.n_enumerate (ev_v 3)) (eg_tup rfl (egs_cons (eg_name 4 sc_made_schema.nd) (egs_cons (eg_name 5 sc_made_schema.nd) egs_nil))) (ess_one (es_if (et_not (et_e (ev_call (ok_is_field Tx) (takes_of rfl rfl rfl rfl) (hr.mono (by decide)) (ea_cons (ev_v 5) (ea_cons (ev_v 1) (ea_cons (ev_v 2) ea_nil)))))) (ess_one (es_raise Tx.e_BadSchema rfl rfl (takes_of rfl rfl rfl rfl) (hr.mono (by decide)) (ev_tup (ea_cons ev_int (ea_cons (ev_v 4) ea_nil))))) ess_nil)))
    (ess_one (es_ret (ev_tup (ea_cons (ev_v 1) (ea_cons (ev_v 2) (ea_cons (ev_t1 os_tuple Tx.n_tuple rfl (ev_comp rfl sc_made_schema.nd (ei_seq (ev_v 3)) (@blkOk_by N_made_schema (defScope st_made_schema) _ [("field", 5)] (by decide +kernel)) rfl (fun _ _ _ _ _ => (eg_name 5 sc_made_schema.nd)) (fun _ _ _ _ _ => ets_nil) (fun _ _ _ _ _ => (ev_t1 os_tuple Tx.n_tuple rfl (ev_v 5))))) ea_nil)))))))))))))
theorem ok_asked_kind (Tx : Txt P w K mg base c__law_refused_right t__law_refused_right) : CallOk P w K mg base (Tabl t__law_refused_right) 3 "asked_kind" 2 F_asked_kind := call_ok Tx.d_asked_kind sc_asked_kind rfl rfl fun f cdv A outer s H E hr =>
    (ess_one (es_if (et_not (et_e (ev_call (ok_is_whole Tx) (takes_of rfl rfl rfl rfl) (hr.mono (by decide)) (ea_cons (ev_v 1) (ea_cons ev_int (ea_cons (ev_op os_sub (ev_ix os_ix (ev_v 0) ev_int) ev_int) ea_nil)))))) (ess_one (es_raise Tx.e_BadKind rfl rfl (takes_of rfl rfl rfl rfl) (hr.mono (by decide)) (ev_v 1))) ess_nil))
theorem ok_asked_field (Tx : Txt P w K mg base c__law_refused_right t__law_refused_right) : CallOk P w K mg base (Tabl t__law_refused_right) 3 "asked_field" 2 F_asked_field := call_ok Tx.d_asked_field sc_asked_field rfl rfl fun f cdv A outer s H E hr =>
    (ess_one (es_if (et_not (et_e (ev_call (ok_is_whole Tx) (takes_of rfl rfl rfl rfl) (hr.mono (by decide)) (ea_cons (ev_v 1) (ea_cons ev_int (ea_cons (ev_op os_sub (ev_b1 os_len Tx.n_len rfl (ev_ix os_ix (ev_v 0) ev_int)) ev_int) ea_nil)))))) (ess_one (es_raise Tx.e_BadField rfl rfl (takes_of rfl rfl rfl rfl) (hr.mono (by decide)) (ev_v 1))) ess_nil))
theorem ok_held_by (Tx : Txt P w K mg base c__law_refused_right t__law_refused_right) : CallOk P w K mg base (Tabl t__law_refused_right) 1 "held_by" 1 F_held_by := call_ok Tx.d_held_by sc_held_by rfl rfl fun f cdv A outer s H E hr =>
    (ess_cons (es_comp rfl sc_held_by.nd rfl rfl (sw_true rfl rfl rfl (by decide +kernel)) (ei_rng Tx.n_range (ev_ix os_ix (ev_v 0) ev_int)) (@blkOk_by N_held_by (defScope st_held_by) _ [("kind", 5)] (by decide +kernel)) rfl (fun _ _ _ _ _ => (eg_name 5 sc_held_by.nd)) (fun _ _ _ _ _ => ets_nil) (fun _ _ _ _ _ => (ev_lst ea_nil)))
    (ess_cons (es_for (vs := [2, 3, 4]) (passes_of rfl) rfl (ei_enum Tx.n_enumerate (ev_ix os_ix (ev_v 0) ev_int)) (eg_tup rfl (egs_cons (eg_name 2 sc_held_by.nd) (egs_cons (eg_tup rfl (egs_cons (eg_name 3 sc_held_by.nd) (egs_cons (eg_name 4 sc_held_by.nd) egs_nil))) egs_nil))) (ess_one (es_expr (ev_m1 PySem.F.slot_list_append PySem.F.type_list_append os_append (ev_ix os_ix (ev_v 1) (ev_v 3)) (ev_v 2)))))
    (ess_one (es_ret (ev_v 1)))))
theorem ok_come_by (Tx : Txt P w K mg base c__law_refused_right t__law_refused_right) : CallOk P w K mg base (Tabl t__law_refused_right) 2 "come_by" 2 F_come_by := call_ok Tx.d_come_by sc_come_by rfl rfl fun f cdv A outer s H E hr =>
    (ess_cons (es_set 2 sc_come_by.nd (ev_call (ok_held_by Tx) (takes_of rfl rfl rfl rfl) (hr.mono (by decide)) (ea_cons (ev_v 0) ea_nil)))
    (ess_cons (es_dcomp rfl sc_come_by.nd rfl rfl (sw_trueD rfl rfl rfl (by decide +kernel)) (ei_seq (ev_v 1)) (@blkOk_by N_come_by (defScope st_come_by) _ [("kind", 3)] (by decide +kernel)) rfl (fun _ _ _ _ _ => (eg_name 3 sc_come_by.nd)) (fun _ _ _ _ _ => ets_nil) (fun _ _ _ _ _ => (ev_v 3)) (fun _ _ _ _ _ => ev_non))
    (ess_cons (es_set 5 sc_come_by.nd (ev_t1 os_list Tx.n_list rfl (ev_v 1)))
    (ess_cons (es_while (passes_of rfl) (et_cmp (os_ne hr) (ev_v 5) (ev_lst ea_nil)) (ess_cons (es_set 6 sc_come_by.nd (ev_lst ea_nil))
    (ess_cons (es_for (vs := [3]) (passes_of rfl) rfl (ei_seq (ev_v 5)) (eg_name 3 sc_come_by.nd) (ess_one (es_for (vs := [7]) (passes_of rfl) rfl (ei_seq (ev_ix os_ix (ev_v 2) (ev_v 3))) (eg_name 7 sc_come_by.nd) (ess_cons (es_set 8 sc_come_by.nd (ev_ix os_ix (ev_ix os_ix (ev_ix os_ix (ev_v 0) ev_int) (ev_v 7)) ev_int))
    (ess_one (es_if (et_ninD hr (ev_v 8) (ev_v 4)) (ess_cons (es_subD hr (ev_v 7) (ev_v 4) (ev_v 8))
    (ess_one (es_expr (ev_m1 PySem.F.slot_list_append PySem.F.type_list_append os_append (ev_v 6) (ev_v 8))))) ess_nil))))))
    (ess_one (es_set 5 sc_come_by.nd (ev_v 6))))))
    (ess_one (es_ret (ev_v 4)))))))
theorem ok_way_back (Tx : Txt P w K mg base c__law_refused_right t__law_refused_right) : CallOk P w K mg base (Tabl t__law_refused_right) 1 "way_back" 3 F_way_back := call_ok Tx.d_way_back sc_way_back rfl rfl fun f cdv A outer s H E hr =>
    (ess_cons (es_set 3 sc_way_back.nd (ev_lst ea_nil))
    (ess_cons (es_while (passes_of rfl) (et_cmp os_notN (ev_ixD hr (ev_v 1) (ev_v 2)) ev_non) (ess_cons (es_expr (ev_m1 PySem.F.slot_list_append PySem.F.type_list_append os_append (ev_v 3) (ev_ixD hr (ev_v 1) (ev_v 2))))
    (ess_one (es_set 2 sc_way_back.nd (ev_ix os_ix (ev_ix os_ix (ev_ix os_ix (ev_v 0) ev_int) (ev_ixD hr (ev_v 1) (ev_v 2))) ev_int)))))
    (ess_one (es_ret (ev_t1 os_tuple Tx.n_tuple rfl (ev_revA (ev_v 3)))))))
theorem ok_reach (Tx : Txt P w K mg base c__law_refused_right t__law_refused_right) : CallOk P w K mg base (Tabl t__law_refused_right) 3 "reach" 1 F_reach := call_ok Tx.d_reach sc_reach rfl rfl fun f cdv A outer s H E hr =>
    (ess_cons (es_set 1 sc_reach.nd (ev_lst ea_nil))
    (ess_cons (es_for (vs := [2]) (passes_of rfl) rfl (ei_rng Tx.n_range (ev_ix os_ix (ev_v 0) ev_int)) (eg_name 2 sc_reach.nd) (ess_cons (es_set 3 sc_reach.nd (ev_call (ok_come_by Tx) (takes_of rfl rfl rfl rfl) (hr.mono (by decide)) (ea_cons (ev_v 0) (ea_cons (ev_lst (ea_cons (ev_v 2) ea_nil)) ea_nil))))
    (ess_one (es_expr (ev_m1 PySem.F.slot_list_append PySem.F.type_list_append os_append (ev_v 1) (ev_comp rfl sc_reach.nd (ei_rng Tx.n_range (ev_ix os_ix (ev_v 0) ev_int)) (@blkOk_by N_reach (defScope st_reach) _ [("other", 4)] (by decide +kernel)) rfl (fun _ _ _ _ _ => (eg_name 4 sc_reach.nd)) (fun _ _ _ _ _ => ets_nil) (fun _ _ _ _ _ => (ev_inD hr (ev_v 4) (ev_v 3)))))))))
    (ess_one (es_ret (ev_v 1)))))
theorem ok_asked_kinds (Tx : Txt P w K mg base c__law_refused_right t__law_refused_right) : CallOk P w K mg base (Tabl t__law_refused_right) 4 "asked_kinds" 3 F_asked_kinds := call_ok Tx.d_asked_kinds sc_asked_kinds rfl rfl fun f cdv A outer s H E hr =>
    (ess_cons (es_expr (ev_call (ok_made_schema Tx) (takes_of rfl rfl rfl rfl) (hr.mono (by decide)) (ea_cons (ev_v 0) ea_nil)))
    (ess_cons (es_expr (ev_call (ok_asked_kind Tx) (takes_of rfl rfl rfl rfl) (hr.mono (by decide)) (ea_cons (ev_v 0) (ea_cons (ev_v 1) ea_nil))))
    (ess_one (es_expr (ev_call (ok_asked_kind Tx) (takes_of rfl rfl rfl rfl) (hr.mono (by decide)) (ea_cons (ev_v 0) (ea_cons (ev_v 2) ea_nil)))))))
theorem ok_way (Tx : Txt P w K mg base c__law_refused_right t__law_refused_right) : CallOk P w K mg base (Tabl t__law_refused_right) 5 "way" 3 F_way := call_ok Tx.d_way sc_way rfl rfl fun f cdv A outer s H E hr =>
    (ess_cons (es_expr (ev_call (ok_asked_kinds Tx) (takes_of rfl rfl rfl rfl) (hr.mono (by decide)) (ea_cons (ev_v 0) (ea_cons (ev_v 1) (ea_cons (ev_v 2) ea_nil)))))
    (ess_cons (es_set 3 sc_way.nd (ev_call (ok_come_by Tx) (takes_of rfl rfl rfl rfl) (hr.mono (by decide)) (ea_cons (ev_v 0) (ea_cons (ev_lst (ea_cons (ev_v 1) ea_nil)) ea_nil))))
    (ess_one (es_ret (ev_if (et_inD hr (ev_v 2) (ev_v 3)) (ev_call (ok_way_back Tx) (takes_of rfl rfl rfl rfl) (hr.mono (by decide)) (ea_cons (ev_v 0) (ea_cons (ev_v 3) (ea_cons (ev_v 2) ea_nil)))) ev_non)))))
theorem ok_is_way (Tx : Txt P w K mg base c__law_refused_right t__law_refused_right) : CallOk P w K mg base (Tabl t__law_refused_right) 2 "is_way" 4 F_is_way := call_ok Tx.d_is_way sc_is_way rfl rfl fun f cdv A outer s H E hr =>
    (ess_cons (es_if (et_not (et_e (ev_isinst kit_tuple Tx.n_isinstance Tx.n_tuple rfl (ev_v 3)))) (ess_one (es_ret ev_bl)) ess_nil)
    (ess_cons (es_set 4 sc_is_way.nd (ev_v 1))
    (ess_cons (es_for (vs := [5]) (passes_of rfl) rfl (ei_seq (ev_v 3)) (eg_name 5 sc_is_way.nd) (ess_cons (es_if (et_w (ew_or (et_not (et_e (ev_call (ok_is_whole Tx) (takes_of rfl rfl rfl rfl) (hr.mono (by decide)) (ea_cons (ev_v 5) (ea_cons ev_int (ea_cons (ev_op os_sub (ev_b1 os_len Tx.n_len rfl (ev_ix os_ix (ev_v 0) ev_int)) ev_int) ea_nil)))))) (ew_or1 (et_cmp (os_ne hr) (ev_ix os_ix (ev_ix os_ix (ev_ix os_ix (ev_v 0) ev_int) (ev_v 5)) ev_int) (ev_v 4))))) (ess_one (es_ret ev_bl)) ess_nil)
    (ess_one (es_set 4 sc_is_way.nd (ev_ix os_ix (ev_ix os_ix (ev_ix os_ix (ev_v 0) ev_int) (ev_v 5)) ev_int)))))
    (ess_one (es_ret (ev_cmp (os_eq hr) (ev_v 4) (ev_v 2)))))))
theorem ok_way_right (Tx : Txt P w K mg base c__law_refused_right t__law_refused_right) : CallOk P w K mg base (Tabl t__law_refused_right) 5 "way_right" 4 F_way_right := call_ok Tx.d_way_right sc_way_right rfl rfl fun f cdv A outer s H E hr =>
    (ess_cons (es_expr (ev_call (ok_asked_kinds Tx) (takes_of rfl rfl rfl rfl) (hr.mono (by decide)) (ea_cons (ev_v 0) (ea_cons (ev_v 1) (ea_cons (ev_v 2) ea_nil)))))
    (ess_one (es_ret (ev_call (ok_is_way Tx) (takes_of rfl rfl rfl rfl) (hr.mono (by decide)) (ea_cons (ev_v 0) (ea_cons (ev_v 1) (ea_cons (ev_v 2) (ea_cons (ev_v 3) ea_nil))))))))
theorem ok_led_list (Tx : Txt P w K mg base c__law_refused_right t__law_refused_right) : CallOk P w K mg base (Tabl t__law_refused_right) 4 "led_list" 1 F_led_list := call_ok Tx.d_led_list sc_led_list rfl rfl fun f cdv A outer s H E hr =>
    (ess_cons (es_set 1 sc_led_list.nd (ev_call (ok_reach Tx) (takes_of rfl rfl rfl rfl) (hr.mono (by decide)) (ea_cons (ev_v 0) ea_nil)))
    (ess_cons (es_set 2 sc_led_list.nd (ev_lst ea_nil))
    (ess_cons (es_for (vs := [3, 4, 5]) (passes_of rfl) rfl (ei_enum Tx.n_enumerate (ev_ix os_ix (ev_v 0) ev_int)) (eg_tup rfl (egs_cons (eg_name 3 sc_led_list.nd) (egs_cons (eg_tup rfl (egs_cons (eg_name 4 sc_led_list.nd) (egs_cons (eg_name 5 sc_led_list.nd) egs_nil))) egs_nil))) (ess_one (es_expr (ev_m1 PySem.F.slot_list_append PySem.F.type_list_append os_append (ev_v 2) (ev_comp rfl sc_led_list.nd (ei_enum Tx.n_enumerate (ev_ix os_ix (ev_v 0) ev_int)) (@blkOk_by N_led_list (defScope st_led_list) _ [("g", 6), ("other", 7), ("end", 8)] (by decide +kernel)) rfl (fun _ _ _ _ _ => (eg_tup rfl (egs_cons (eg_name 6 sc_led_list.nd) (egs_cons (eg_tup rfl (egs_cons (eg_name 7 sc_led_list.nd) (egs_cons (eg_name 8 sc_led_list.nd) egs_nil))) egs_nil)))) (fun _ _ _ _ _ => (ets_one (et_w (ew_or (et_cmp (os_eq hr) (ev_v 6) (ev_v 3)) (ew_or1 (et_e (ev_ix os_ix (ev_ix os_ix (ev_v 1) (ev_v 5)) (ev_v 7)))))))) (fun _ _ _ _ _ => (ev_v 6)))))))
    (ess_one (es_ret (ev_v 2))))))
theorem ok_led (Tx : Txt P w K mg base c__law_refused_right t__law_refused_right) : CallOk P w K mg base (Tabl t__law_refused_right) 5 "led" 2 F_led := call_ok Tx.d_led sc_led rfl rfl fun f cdv A outer s H E hr =>
    (ess_cons (es_expr (ev_call (ok_made_schema Tx) (takes_of rfl rfl rfl rfl) (hr.mono (by decide)) (ea_cons (ev_v 0) ea_nil)))
    (ess_cons (es_expr (ev_call (ok_asked_field Tx) (takes_of rfl rfl rfl rfl) (hr.mono (by decide)) (ea_cons (ev_v 0) (ea_cons (ev_v 1) ea_nil))))
    (ess_one (es_ret (ev_t1 os_tuple Tx.n_tuple rfl (ev_ix os_ix (ev_call (ok_led_list Tx) (takes_of rfl rfl rfl rfl) (hr.mono (by decide)) (ea_cons (ev_v 0) ea_nil)) (ev_v 1)))))))
theorem ok__law_wv_pool (Tx : Txt P w K mg base c__law_refused_right t__law_refused_right) : CallOk P w K mg base (Tabl t__law_refused_right) 1 "_law_wv_pool" 1 F__law_wv_pool := call_ok Tx.d__law_wv_pool sc__law_wv_pool rfl rfl fun f cdv A outer s H E hr =>
    (ess_cons (es_asg (vs := [1, 2]) (ev_tup (ea_cons ev_int (ea_cons ev_int ea_nil))) (eg_tup rfl (egs_cons (eg_name 1 sc__law_wv_pool.nd) (egs_cons (eg_name 2 sc__law_wv_pool.nd) egs_nil))))
    (ess_cons (es_for (vs := [3]) (passes_of rfl) rfl (ei_rng Tx.n_range (ev_b1 os_len Tx.n_len rfl (ev_v 0))) (eg_name 3 sc__law_wv_pool.nd) (ess_cons (es_set 4 sc__law_wv_pool.nd (ev_b2 (os_max2 rfl) Tx.n_max rfl (ev_ix os_ix (ev_v 0) (ev_v 3)) (ev_op os_sub (ev_un os_neg ev_int) (ev_ix os_ix (ev_v 0) (ev_v 3)))))
    (ess_cons (es_set 2 sc__law_wv_pool.nd (ev_op os_mod (ev_op os_add (ev_op os_add (ev_op os_mul (ev_v 2) ev_int) (ev_op os_mod (ev_v 4) ev_int)) ev_int) ev_int))
    (ess_one (es_set 1 sc__law_wv_pool.nd (ev_if (et_w (ew_and (et_cmp os_ge (ev_v 4) (ev_op os_pow ev_int ev_int)) (ew_and1 (et_cmp os_lt (ev_v 1) (ev_op os_pow ev_int ev_int))))) (ev_op os_add (ev_op os_mul (ev_v 1) (ev_op os_pow ev_int ev_int)) (ev_op os_mod (ev_v 4) (ev_op os_pow ev_int ev_int))) (ev_v 1)))))))
    (ess_one (es_ret (ev_lst (ea_cons (ev_v 1) (ea_cons (ev_v 2) ea_nil)))))))
theorem ok__law_wv_take (Tx : Txt P w K mg base c__law_refused_right t__law_refused_right) : CallOk P w K mg base (Tabl t__law_refused_right) 1 "_law_wv_take" 2 F__law_wv_take := call_ok Tx.d__law_wv_take sc__law_wv_take rfl rfl fun f cdv A outer s H E hr =>
    (ess_cons (es_if (et_cmp os_gt (ev_ix os_ix (ev_v 0) ev_int) ev_int) (ess_cons (es_set 2 sc__law_wv_take.nd (ev_op os_mod (ev_ix os_ix (ev_v 0) ev_int) (ev_v 1)))
    (ess_cons (es_subL (ev_op os_fdiv (ev_ix os_ix (ev_v 0) ev_int) (ev_v 1)) (ev_v 0) ev_int)
    (ess_one (es_ret (ev_v 2))))) ess_nil)
    (ess_cons (es_subL (ev_op os_mod (ev_op os_add (ev_op os_mul (ev_ix os_ix (ev_v 0) ev_int) ev_int) ev_int) ev_int) (ev_v 0) ev_int)
    (ess_one (es_ret (ev_op os_mod (ev_op os_fdiv (ev_op os_mod (ev_op os_mul (ev_ix os_ix (ev_v 0) ev_int) (ev_ix os_ix (ev_v 0) ev_int)) ev_int) ev_int) (ev_v 1))))))
theorem ok__law_wv_one (Tx : Txt P w K mg base c__law_refused_right t__law_refused_right) : CallOk P w K mg base (Tabl t__law_refused_right) 2 "_law_wv_one" 2 F__law_wv_one := call_ok Tx.d__law_wv_one sc__law_wv_one rfl rfl fun f cdv A outer s H E hr =>
    (ess_one (es_ret (ev_ix os_ix (ev_v 1) (ev_call (ok__law_wv_take Tx) (takes_of rfl rfl rfl rfl) (hr.mono (by decide)) (ea_cons (ev_v 0) (ea_cons (ev_b1 os_len Tx.n_len rfl (ev_v 1)) ea_nil))))))
theorem ok__law_wv_mixed (Tx : Txt P w K mg base c__law_refused_right t__law_refused_right) : CallOk P w K mg base (Tabl t__law_refused_right) 2 "_law_wv_mixed" 2 F__law_wv_mixed := call_ok Tx.d__law_wv_mixed sc__law_wv_mixed rfl rfl fun f cdv A outer s H E hr =>
    (ess_cons (es_par 2 3 rfl sc__law_wv_mixed.nd (ev_t1 os_list Tx.n_list rfl (ev_v 1)) (ev_lst ea_nil))
    (ess_cons (es_for (vs := [4]) (passes_of rfl) rfl (ei_rng Tx.n_range (ev_b1 os_len Tx.n_len rfl (ev_v 1))) (eg_name 4 sc__law_wv_mixed.nd) (ess_one (es_expr (ev_m1 PySem.F.slot_list_append PySem.F.type_list_append os_append (ev_v 3) (ev_m1 PySem.F.slot_list_pop PySem.F.type_list_pop os_popAt (ev_v 2) (ev_call (ok__law_wv_take Tx) (takes_of rfl rfl rfl rfl) (hr.mono (by decide)) (ea_cons (ev_v 0) (ea_cons (ev_b1 os_len Tx.n_len rfl (ev_v 2)) ea_nil))))))))
    (ess_one (es_ret (ev_v 3)))))
theorem ok__law_wv_schema (Tx : Txt P w K mg base c__law_refused_right t__law_refused_right) : CallOk P w K mg base (Tabl t__law_refused_right) 3 "_law_wv_schema" 1 F__law_wv_schema := call_ok Tx.d__law_wv_schema sc__law_wv_schema rfl rfl fun f cdv A outer s H E hr =>
    (ess_cons (es_set 1 sc__law_wv_schema.nd (ev_op os_add ev_int (ev_op os_fdiv (ev_call (ok__law_wv_take Tx) (takes_of rfl rfl rfl rfl) (hr.mono (by decide)) (ea_cons (ev_v 0) (ea_cons ev_int ea_nil))) ev_int)))
    (ess_cons (es_set 2 sc__law_wv_schema.nd (ev_op os_add (ev_op os_add (ev_v 1) ev_int) (ev_call (ok__law_wv_take Tx) (takes_of rfl rfl rfl rfl) (hr.mono (by decide)) (ea_cons (ev_v 0) (ea_cons ev_int ea_nil)))))
    (ess_cons (es_par 3 4 rfl sc__law_wv_schema.nd (ev_listRg rfl Tx.n_list Tx.n_range (ev_v 1)) (ev_lst ea_nil))
    (ess_cons (es_for (vs := [5]) (passes_of rfl) rfl (ei_rng Tx.n_range (ev_call (ok__law_wv_one Tx) (takes_of rfl rfl rfl rfl) (hr.mono (by decide)) (ea_cons (ev_v 0) (ea_cons (ev_lst (ea_cons ev_int (ea_cons ev_int (ea_cons ev_int (ea_cons ev_int (ea_cons ev_int (ea_cons ev_int (ea_cons ev_int (ea_cons ev_int (ea_cons ev_int (ea_cons ev_int (ea_cons ev_int (ea_cons ev_int ea_nil))))))))))))) ea_nil)))) (eg_name 5 sc__law_wv_schema.nd) (ess_cons (es_set 6 sc__law_wv_schema.nd (ev_if (et_cmp os_gt (ev_call (ok__law_wv_take Tx) (takes_of rfl rfl rfl rfl) (hr.mono (by decide)) (ea_cons (ev_v 0) (ea_cons ev_int ea_nil))) ev_int) (ev_call (ok__law_wv_one Tx) (takes_of rfl rfl rfl rfl) (hr.mono (by decide)) (ea_cons (ev_v 0) (ea_cons (ev_v 3) ea_nil))) (ev_call (ok__law_wv_take Tx) (takes_of rfl rfl rfl rfl) (hr.mono (by decide)) (ea_cons (ev_v 0) (ea_cons (ev_v 2) ea_nil)))))
    (ess_cons (es_set 7 sc__law_wv_schema.nd (ev_op os_add (ev_v 1) (ev_call (ok__law_wv_take Tx) (takes_of rfl rfl rfl rfl) (hr.mono (by decide)) (ea_cons (ev_v 0) (ea_cons (ev_op os_sub (ev_v 2) (ev_v 1)) ea_nil)))))
    (ess_cons (es_expr (ev_m1 PySem.F.slot_list_append PySem.F.type_list_append os_append (ev_v 4) (ev_tup (ea_cons (ev_v 6) (ea_cons (ev_v 7) ea_nil)))))
    (ess_one (es_expr (ev_m1 PySem.F.slot_list_extend PySem.F.type_list_extend os_extend (ev_v 3) (ev_if (et_cmp os_inS (ev_v 6) (ev_v 3)) (ev_lst (ea_cons (ev_v 7) ea_nil)) (ev_lst ea_nil)))))))))
    (ess_one (es_ret (ev_tup (ea_cons (ev_v 1) (ea_cons (ev_v 2) (ea_cons (ev_t1 os_tuple Tx.n_tuple rfl (ev_call (ok__law_wv_mixed Tx) (takes_of rfl rfl rfl rfl) (hr.mono (by decide)) (ea_cons (ev_v 0) (ea_cons (ev_v 4) ea_nil)))) ea_nil))))))))))
theorem ok__law_wv_great_schema (Tx : Txt P w K mg base c__law_refused_right t__law_refused_right) : CallOk P w K mg base (Tabl t__law_refused_right) 3 "_law_wv_great_schema" 1 F__law_wv_great_schema := call_ok Tx.d__law_wv_great_schema sc__law_wv_great_schema rfl rfl fun f cdv A outer s H E hr =>
    (ess_cons (es_set 1 sc__law_wv_great_schema.nd (ev_op os_add ev_int (ev_call (ok__law_wv_take Tx) (takes_of rfl rfl rfl rfl) (hr.mono (by decide)) (ea_cons (ev_v 0) (ea_cons ev_int ea_nil)))))
    (ess_cons (es_comp rfl sc__law_wv_great_schema.nd rfl rfl (sw_true rfl rfl rfl (by decide +kernel)) (ei_rng Tx.n_range ev_int) (@blkOk_by N__law_wv_great_schema (defScope st__law_wv_great_schema) _ [("go", 3)] (by decide +kernel)) rfl (fun _ _ _ _ _ => (eg_name 3 sc__law_wv_great_schema.nd)) (fun _ _ _ _ _ => ets_nil) (fun _ _ _ _ _ => (ev_tup (ea_cons (ev_call (ok__law_wv_take Tx) L2.takes0 (hr.mono (by decide)) (ea_cons (ev_v 0) (ea_cons (ev_v 1) ea_nil))) (ea_cons (ev_op os_add (ev_v 1) (ev_call (ok__law_wv_take Tx) L2.takes0 (hr.mono (by decide)) (ea_cons (ev_v 0) (ea_cons (ev_op os_sub ev_int (ev_v 1)) ea_nil)))) ea_nil)))))
    (ess_cons (es_expr (ev_m1 PySem.F.slot_list_extend PySem.F.type_list_extend os_extend (ev_v 2) (ev_comp rfl sc__law_wv_great_schema.nd (ei_rng Tx.n_range ev_int) (@blkOk_by N__law_wv_great_schema (defScope st__law_wv_great_schema) _ [("go", 3)] (by decide +kernel)) rfl (fun _ _ _ _ _ => (eg_name 3 sc__law_wv_great_schema.nd)) (fun _ _ _ _ _ => ets_nil) (fun _ _ _ _ _ => (ev_tup (ea_cons (ev_call (ok__law_wv_take Tx) L2.takes0 (hr.mono (by decide)) (ea_cons (ev_v 0) (ea_cons ev_int ea_nil))) (ea_cons (ev_op os_add (ev_v 1) (ev_call (ok__law_wv_take Tx) L2.takes0 (hr.mono (by decide)) (ea_cons (ev_v 0) (ea_cons (ev_op os_sub ev_int (ev_v 1)) ea_nil)))) ea_nil)))))))
    (ess_one (es_ret (ev_tup (ea_cons (ev_v 1) (ea_cons ev_int (ea_cons (ev_t1 os_tuple Tx.n_tuple rfl (ev_call (ok__law_wv_mixed Tx) (takes_of rfl rfl rfl rfl) (hr.mono (by decide)) (ea_cons (ev_v 0) (ea_cons (ev_v 2) ea_nil)))) ea_nil)))))))))
theorem ok__law_wv_reached (Tx : Txt P w K mg base c__law_refused_right t__law_refused_right) : CallOk P w K mg base (Tabl t__law_refused_right) 1 "_law_wv_reached" 2 F__law_wv_reached := call_ok Tx.d__law_wv_reached sc__law_wv_reached rfl rfl fun f cdv A outer s H E hr =>
    (ess_cons (es_asg (vs := [2, 3]) (ev_tup (ea_cons (ev_b1 (os_sorted rfl) Tx.n_sorted rfl (ev_v 1)) (ea_cons ev_non ea_nil))) (eg_tup rfl (egs_cons (eg_name 2 sc__law_wv_reached.nd) (egs_cons (eg_name 3 sc__law_wv_reached.nd) egs_nil))))
    (ess_cons (es_while (passes_of rfl) (et_cmp (os_ne hr) (ev_v 3) (ev_v 2)) (ess_cons (es_set 3 sc__law_wv_reached.nd (ev_v 2))
    (ess_cons (es_set 4 sc__law_wv_reached.nd (ev_comp rfl sc__law_wv_reached.nd (ei_seq (ev_ix os_ix (ev_v 0) ev_int)) (@blkOk_by N__law_wv_reached (defScope st__law_wv_reached) _ [("a", 5), ("b", 6)] (by decide +kernel)) rfl (fun _ _ _ _ _ => (eg_tup rfl (egs_cons (eg_name 5 sc__law_wv_reached.nd) (egs_cons (eg_name 6 sc__law_wv_reached.nd) egs_nil)))) (fun _ _ _ _ _ => (ets_one (et_cmp os_inS (ev_v 5) (ev_v 3)))) (fun _ _ _ _ _ => (ev_v 6))))
    (ess_one (es_comp rfl sc__law_wv_reached.nd rfl rfl (sw_true rfl rfl rfl (by decide +kernel)) (ei_rng Tx.n_range (ev_ix os_ix (ev_v 0) ev_int)) (@blkOk_by N__law_wv_reached (defScope st__law_wv_reached) _ [("kind", 7)] (by decide +kernel)) rfl (fun _ _ _ _ _ => (eg_name 7 sc__law_wv_reached.nd)) (fun _ _ _ _ _ => (ets_one (et_w (ew_or (et_cmp os_inS (ev_v 7) (ev_v 3)) (ew_or1 (et_cmp os_inS (ev_v 7) (ev_v 4))))))) (fun _ _ _ _ _ => (ev_v 7)))))))
    (ess_one (es_ret (ev_v 2)))))
theorem ok__law_wv_led (Tx : Txt P w K mg base c__law_refused_right t__law_refused_right) : CallOk P w K mg base (Tabl t__law_refused_right) 2 "_law_wv_led" 2 F__law_wv_led := call_ok Tx.d__law_wv_led sc__law_wv_led rfl rfl fun f cdv A outer s H E hr =>
    (ess_cons (es_set 2 sc__law_wv_led.nd (ev_call (ok__law_wv_reached Tx) (takes_of rfl rfl rfl rfl) (hr.mono (by decide)) (ea_cons (ev_v 0) (ea_cons (ev_lst (ea_cons (ev_ix os_ix (ev_ix os_ix (ev_ix os_ix (ev_v 0) ev_int) (ev_v 1)) ev_int) ea_nil)) ea_nil))))
    (ess_one (es_ret (ev_t1 os_tuple Tx.n_tuple rfl (ev_comp rfl sc__law_wv_led.nd (ei_rng Tx.n_range (ev_b1 os_len Tx.n_len rfl (ev_ix os_ix (ev_v 0) ev_int))) (@blkOk_by N__law_wv_led (defScope st__law_wv_led) _ [("g", 3)] (by decide +kernel)) rfl (fun _ _ _ _ _ => (eg_name 3 sc__law_wv_led.nd)) (fun _ _ _ _ _ => (ets_one (et_w (ew_or (et_cmp (os_eq hr) (ev_v 3) (ev_v 1)) (ew_or1 (et_cmp os_inS (ev_ix os_ix (ev_ix os_ix (ev_ix os_ix (ev_v 0) ev_int) (ev_v 3)) ev_int) (ev_v 2))))))) (fun _ _ _ _ _ => (ev_v 3)))))))
theorem ok__law_is_whole (Tx : Txt P w K mg base c__law_refused_right t__law_refused_right) : CallOk P w K mg base (Tabl t__law_refused_right) 1 "_law_is_whole" 1 F__law_is_whole := call_ok Tx.d__law_is_whole sc__law_is_whole rfl rfl fun f cdv A outer s H E hr =>
    (ess_one (es_ret (ev_and (ev_isinst kit_int Tx.n_isinstance Tx.n_int rfl (ev_v 0)) (ev_one (ev_not (ev_isinst kit_bool Tx.n_isinstance Tx.n_bool rfl (ev_v 0)))))))
theorem okR__law_same (Tx : Txt P w K mg base c__law_refused_right t__law_refused_right) : ∀ n : Nat, CallOk P w K mg base (Tabl t__law_refused_right) (n + 1) "_law_same" 2 (R__law_same n)
  | 0 => (call_bad Tx.d__law_same rfl).mono (Nat.zero_le _)
  | n + 1 => by
    have ih := okR__law_same Tx n
    exact (call_ok (k := n + 1) Tx.d__law_same sc__law_same rfl rfl fun f cdv A outer s H E hr =>
      (ess_cons (es_if (et_cmp os_isN (ev_v 1) ev_non) (ess_one (es_ret (ev_cmp os_isN (ev_v 0) ev_non))) ess_nil)
    (ess_cons (es_if (et_e (ev_isinst kit_bool Tx.n_isinstance Tx.n_bool rfl (ev_v 1))) (ess_one (es_ret (ev_if (et_e (ev_v 1)) (ev_cmp os_isB (ev_v 0) ev_bl) (ev_cmp os_isB (ev_v 0) ev_bl)))) ess_nil)
    (ess_cons (es_if (et_e (ev_isinst kit_int Tx.n_isinstance Tx.n_int rfl (ev_v 1))) (ess_one (es_ret (ev_and (ev_call (ok__law_is_whole Tx) (takes_of rfl rfl rfl rfl) (hr.mono (by omega)) (ea_cons (ev_v 0) ea_nil)) (ev_one (ev_cmp (os_eq hr) (ev_v 0) (ev_v 1)))))) ess_nil)
    (ess_cons (es_if (et_e (ev_isinst kit_str Tx.n_isinstance Tx.n_str rfl (ev_v 1))) (ess_one (es_ret (ev_and (ev_isinst kit_str Tx.n_isinstance Tx.n_str rfl (ev_v 0)) (ev_one (ev_cmp (os_eq hr) (ev_v 0) (ev_v 1)))))) ess_nil)
    (ess_cons (es_if (et_e (ev_isinst kit_dict Tx.n_isinstance Tx.n_dict rfl (ev_v 1))) (ess_cons (es_if (et_w (ew_or (et_not (et_e (ev_isinst kit_dict Tx.n_isinstance Tx.n_dict rfl (ev_v 0)))) (ew_or1 (et_cmp (os_ne hr) (ev_b1 os_len Tx.n_len rfl (ev_v 0)) (ev_b1 os_len Tx.n_len rfl (ev_v 1)))))) (ess_one (es_ret ev_bl)) ess_nil)
    (ess_one (es_ret (ev_cmp (os_eq hr) ev_bad (ev_lst ea_nil))))) ess_nil)
    (ess_cons (es_if (et_w (ew_and (et_not (et_e (ev_isinst kit_tuple Tx.n_isinstance Tx.n_tuple rfl (ev_v 1)))) (ew_and1 (et_not (et_e (ev_isinst kit_list Tx.n_isinstance Tx.n_list rfl (ev_v 1))))))) (ess_one (es_ret (ev_t1 os_bool Tx.n_bool rfl (ev_cmp (os_eq hr) (ev_v 0) (ev_v 1))))) ess_nil)
    (ess_cons (es_if (et_cmp (os_ne hr) (ev_isinst kit_tuple Tx.n_isinstance Tx.n_tuple rfl (ev_v 1)) (ev_isinst kit_tuple Tx.n_isinstance Tx.n_tuple rfl (ev_v 0))) (ess_one (es_ret ev_bl)) ess_nil)
    (ess_cons (es_if (et_cmp (os_ne hr) (ev_isinst kit_list Tx.n_isinstance Tx.n_list rfl (ev_v 1)) (ev_isinst kit_list Tx.n_isinstance Tx.n_list rfl (ev_v 0))) (ess_one (es_ret ev_bl)) ess_nil)
    (ess_cons (es_if (et_cmp (os_ne hr) (ev_b1 os_len Tx.n_len rfl (ev_v 0)) (ev_b1 os_len Tx.n_len rfl (ev_v 1))) (ess_one (es_ret ev_bl)) ess_nil)
    (ess_cons (es_for (vs := [2]) (passes_of rfl) rfl (ei_rng Tx.n_range (ev_b1 os_len Tx.n_len rfl (ev_v 1))) (eg_name 2 sc__law_same.nd) (ess_one (es_if (et_not (et_e (ev_call ih (takes_of rfl rfl rfl rfl) (hr.mono (by omega)) (ea_cons (ev_ix os_ix (ev_v 0) (ev_v 2)) (ea_cons (ev_ix os_ix (ev_v 1) (ev_v 2)) ea_nil))))) (ess_one (es_ret ev_bl)) ess_nil)))
    (ess_one (es_ret ev_bl))))))))))))).mono (by omega)
theorem ok__law_same (Tx : Txt P w K mg base c__law_refused_right t__law_refused_right) : CallOk P w K mg base (Tabl t__law_refused_right) 14 "_law_same" 2 F__law_same := (okR__law_same Tx 12).mono (by decide)
theorem ok__law_lengths_from (Tx : Txt P w K mg base c__law_refused_right t__law_refused_right) : CallOk P w K mg base (Tabl t__law_refused_right) 1 "_law_lengths_from" 2 F__law_lengths_from := call_ok Tx.d__law_lengths_from sc__law_lengths_from rfl rfl fun f cdv A outer s H E hr =>
    (ess_cons (es_par 2 3 rfl sc__law_lengths_from.nd (ev_t1 (os_dict rfl) Tx.n_dict rfl (ev_comp rfl sc__law_lengths_from.nd (ei_seq (ev_v 1)) (@blkOk_by N__law_lengths_from (defScope st__law_lengths_from) _ [("kind", 7)] (by decide +kernel)) rfl (fun _ _ _ _ _ => (eg_name 7 sc__law_lengths_from.nd)) (fun _ _ _ _ _ => ets_nil) (fun _ _ _ _ _ => (ev_tup (ea_cons (ev_v 7) (ea_cons ev_int ea_nil)))))) (ev_t1 os_list Tx.n_list rfl (ev_v 1)))
    (ess_cons (es_while (passes_of rfl) (et_cmp (os_ne hr) (ev_v 3) (ev_lst ea_nil)) (ess_cons (es_set 4 sc__law_lengths_from.nd (ev_m1 PySem.F.slot_list_pop PySem.F.type_list_pop os_popAt (ev_v 3) ev_int))
    (ess_one (es_for (vs := [5, 6]) (passes_of rfl) rfl (ei_seq (ev_ix os_ix (ev_v 0) ev_int)) (eg_tup rfl (egs_cons (eg_name 5 sc__law_lengths_from.nd) (egs_cons (eg_name 6 sc__law_lengths_from.nd) egs_nil))) (ess_one (es_if (et_w (ew_and (et_cmp (os_eq hr) (ev_v 5) (ev_v 4)) (ew_and1 (et_ninD hr (ev_v 6) (ev_v 2))))) (ess_cons (es_subD hr (ev_op os_add (ev_ixD hr (ev_v 2) (ev_v 4)) ev_int) (ev_v 2) (ev_v 6))
    (ess_one (es_expr (ev_m1 PySem.F.slot_list_append PySem.F.type_list_append os_append (ev_v 3) (ev_v 6))))) ess_nil))))))
    (ess_one (es_ret (ev_v 2)))))
theorem ok__law_is_way (Tx : Txt P w K mg base c__law_refused_right t__law_refused_right) : CallOk P w K mg base (Tabl t__law_refused_right) 2 "_law_is_way" 4 F__law_is_way := call_ok Tx.d__law_is_way sc__law_is_way rfl rfl fun f cdv A outer s H E hr =>
    (ess_cons (es_if (et_not (et_e (ev_isinst kit_tuple Tx.n_isinstance Tx.n_tuple rfl (ev_v 3)))) (ess_one (es_ret ev_bl)) ess_nil)
    (ess_cons (es_set 4 sc__law_is_way.nd (ev_v 1))
    (ess_cons (es_for (vs := [5]) (passes_of rfl) rfl (ei_seq (ev_v 3)) (eg_name 5 sc__law_is_way.nd) (ess_cons (es_if (et_w (ew_or (et_not (et_e (ev_call (ok__law_is_whole Tx) (takes_of rfl rfl rfl rfl) (hr.mono (by decide)) (ea_cons (ev_v 5) ea_nil)))) (ew_or (et_not (et_chain os_le os_lt ev_int (ev_v 5) (ev_b1 os_len Tx.n_len rfl (ev_ix os_ix (ev_v 0) ev_int)))) (ew_or1 (et_cmp (os_ne hr) (ev_ix os_ix (ev_ix os_ix (ev_ix os_ix (ev_v 0) ev_int) (ev_v 5)) ev_int) (ev_v 4)))))) (ess_one (es_ret ev_bl)) ess_nil)
    (ess_one (es_set 4 sc__law_is_way.nd (ev_ix os_ix (ev_ix os_ix (ev_ix os_ix (ev_v 0) ev_int) (ev_v 5)) ev_int)))))
    (ess_one (es_ret (ev_cmp (os_eq hr) (ev_v 4) (ev_v 2)))))))
theorem ok__law_walked (Tx : Txt P w K mg base c__law_refused_right t__law_refused_right) : CallOk P w K mg base (Tabl t__law_refused_right) 3 "_law_walked" 4 F__law_walked := call_ok Tx.d__law_walked sc__law_walked rfl rfl fun f cdv A outer s H E hr =>
    (ess_cons (es_asg (vs := [4, 5]) (ev_tup (ea_cons (ev_lst ea_nil) (ea_cons (ev_v 2) ea_nil))) (eg_tup rfl (egs_cons (eg_name 4 sc__law_walked.nd) (egs_cons (eg_name 5 sc__law_walked.nd) egs_nil))))
    (ess_cons (es_for (vs := [6]) (passes_of rfl) rfl (ei_rng Tx.n_range (ev_v 3)) (eg_name 6 sc__law_walked.nd) (ess_cons (es_comp rfl sc__law_walked.nd rfl rfl (sw_true rfl rfl rfl (by decide +kernel)) (ei_rng Tx.n_range (ev_b1 os_len Tx.n_len rfl (ev_ix os_ix (ev_v 1) ev_int))) (@blkOk_by N__law_walked (defScope st__law_walked) _ [("f", 8)] (by decide +kernel)) rfl (fun _ _ _ _ _ => (eg_name 8 sc__law_walked.nd)) (fun _ _ _ _ _ => (ets_one (et_cmp (os_eq hr) (ev_ix os_ix (ev_ix os_ix (ev_ix os_ix (ev_v 1) ev_int) (ev_v 8)) ev_int) (ev_v 5)))) (fun _ _ _ _ _ => (ev_v 8)))
    (ess_one (es_if (et_cmp (os_ne hr) (ev_v 7) (ev_lst ea_nil)) (ess_cons (es_expr (ev_m1 PySem.F.slot_list_append PySem.F.type_list_append os_append (ev_v 4) (ev_call (ok__law_wv_one Tx) (takes_of rfl rfl rfl rfl) (hr.mono (by decide)) (ea_cons (ev_v 0) (ea_cons (ev_v 7) ea_nil)))))
    (ess_one (es_set 5 sc__law_walked.nd (ev_ix os_ix (ev_ix os_ix (ev_ix os_ix (ev_v 1) ev_int) (ev_ix os_ix (ev_v 4) (ev_un os_neg ev_int))) ev_int)))) ess_nil))))
    (ess_one (es_ret (ev_tup (ea_cons (ev_t1 os_tuple Tx.n_tuple rfl (ev_v 4)) (ea_cons (ev_v 5) ea_nil)))))))
theorem ok__law_bent_way (Tx : Txt P w K mg base c__law_refused_right t__law_refused_right) : CallOk P w K mg base (Tabl t__law_refused_right) 3 "_law_bent_way" 3 F__law_bent_way := call_ok Tx.d__law_bent_way sc__law_bent_way rfl rfl fun f cdv A outer s H E hr =>
    (ess_cons (es_par 3 4 rfl sc__law_bent_way.nd (ev_call (ok__law_wv_take Tx) (takes_of rfl rfl rfl rfl) (hr.mono (by decide)) (ea_cons (ev_v 0) (ea_cons (ev_op os_add (ev_b1 os_len Tx.n_len rfl (ev_v 2)) ev_int) ea_nil))) (ev_b1 os_len Tx.n_len rfl (ev_ix os_ix (ev_v 1) ev_int)))
    (ess_cons (es_set 5 sc__law_bent_way.nd (ev_call (ok__law_wv_one Tx) (takes_of rfl rfl rfl rfl) (hr.mono (by decide)) (ea_cons (ev_v 0) (ea_cons (ev_lst (ea_cons (ev_v 4) (ea_cons (ev_un os_neg ev_int) (ea_cons ev_bl (ea_cons ev_non (ea_cons ev_str (ea_cons (ev_tup (ea_cons ev_int ea_nil)) (ea_cons (ev_call (ok__law_wv_take Tx) (takes_of rfl rfl rfl rfl) (hr.mono (by decide)) (ea_cons (ev_v 0) (ea_cons (ev_op os_add (ev_v 4) ev_int) ea_nil))) ea_nil)))))))) ea_nil))))
    (ess_cons (es_set 6 sc__law_bent_way.nd (ev_lst (ea_cons (ev_op os_add (ev_op os_add (ev_slice (ev_v 2) eo_none (eo_some (ev_v 3))) (ev_tup (ea_cons (ev_v 5) ea_nil))) (ev_slice (ev_v 2) (eo_some (ev_op os_add (ev_v 3) ev_int)) eo_none)) (ea_cons (ev_op os_add (ev_slice (ev_v 2) eo_none (eo_some (ev_v 3))) (ev_slice (ev_v 2) (eo_some (ev_op os_add (ev_v 3) ev_int)) eo_none)) (ea_cons (ev_op os_add (ev_op os_add (ev_slice (ev_v 2) eo_none (eo_some (ev_v 3))) (ev_tup (ea_cons (ev_v 5) ea_nil))) (ev_slice (ev_v 2) (eo_some (ev_v 3)) eo_none)) ea_nil)))))
    (ess_cons (es_set 6 sc__law_bent_way.nd (ev_op os_add (ev_v 6) (ev_lst (ea_cons (ev_revA (ev_v 2)) (ea_cons (ev_op os_add (ev_v 2) (ev_v 2)) (ea_cons (ev_t1 os_list Tx.n_list rfl (ev_v 2)) (ea_cons ev_non (ea_cons (ev_tup ea_nil) (ea_cons (ev_tup (ea_cons (ev_v 2) ea_nil)) (ea_cons ev_str (ea_cons ev_int (ea_cons (ev_lst (ea_cons (ev_lst ea_nil) ea_nil)) ea_nil))))))))))))
    (ess_one (es_ret (ev_call (ok__law_wv_one Tx) (takes_of rfl rfl rfl rfl) (hr.mono (by decide)) (ea_cons (ev_v 0) (ea_cons (ev_op os_add (ev_v 6) (ev_lst (ea_cons (ev_t1 os_tuple Tx.n_tuple rfl (ev_comp rfl sc__law_bent_way.nd (ei_seq (ev_v 2)) (@blkOk_by N__law_bent_way (defScope st__law_bent_way) _ [("f", 7)] (by decide +kernel)) rfl (fun _ _ _ _ _ => (eg_name 7 sc__law_bent_way.nd)) (fun _ _ _ _ _ => ets_nil) (fun _ _ _ _ _ => (ev_t1 os_str Tx.n_str rfl (ev_v 7))))) ea_nil))) ea_nil)))))))))
theorem ok__law_pair_right (Tx : Txt P w K mg base c__law_refused_right t__law_refused_right) : CallOk P w K mg base (Tabl t__law_refused_right) 15 "_law_pair_right" 4 F__law_pair_right := call_ok Tx.d__law_pair_right sc__law_pair_right rfl rfl fun f cdv A outer s H E hr =>
    (ess_cons (es_par 4 5 rfl sc__law_pair_right.nd (ev_call (ok__law_lengths_from Tx) (takes_of rfl rfl rfl rfl) (hr.mono (by decide)) (ea_cons (ev_v 1) (ea_cons (ev_lst (ea_cons (ev_v 2) ea_nil)) ea_nil))) (ev_call (ok_way Tx) (takes_of rfl rfl rfl rfl) (hr.mono (by decide)) (ea_cons (ev_v 1) (ea_cons (ev_v 2) (ea_cons (ev_v 3) ea_nil)))))
    (ess_cons (es_if (et_ninD hr (ev_v 3) (ev_v 4)) (ess_one (es_if (et_w (ew_or (et_cmp os_notN (ev_v 5) ev_non) (ew_or1 (et_cmp os_notB (ev_call (ok_way_right Tx) (takes_of rfl rfl rfl rfl) (hr.mono (by decide)) (ea_cons (ev_v 1) (ea_cons (ev_v 2) (ea_cons (ev_v 3) (ea_cons ev_non ea_nil))))) ev_bl)))) (ess_one (es_ret ev_bl)) ess_nil)) (ess_one (es_if (et_w (ew_or (et_not (et_e (ev_call (ok__law_is_way Tx) (takes_of rfl rfl rfl rfl) (hr.mono (by decide)) (ea_cons (ev_v 1) (ea_cons (ev_v 2) (ea_cons (ev_v 3) (ea_cons (ev_v 5) ea_nil))))))) (ew_or (et_cmp (os_ne hr) (ev_b1 os_len Tx.n_len rfl (ev_v 5)) (ev_ixD hr (ev_v 4) (ev_v 3))) (ew_or1 (et_not (et_e (ev_call (ok__law_same Tx) (takes_of rfl rfl rfl rfl) (hr.mono (by decide)) (ea_cons (ev_call (ok_way Tx) (takes_of rfl rfl rfl rfl) (hr.mono (by decide)) (ea_cons (ev_v 1) (ea_cons (ev_v 2) (ea_cons (ev_v 3) ea_nil)))) (ea_cons (ev_v 5) ea_nil))))))))) (ess_one (es_ret ev_bl)) ess_nil)))
    (ess_cons (es_asg (vs := [6, 7]) (ev_call (ok__law_walked Tx) (takes_of rfl rfl rfl rfl) (hr.mono (by decide)) (ea_cons (ev_v 0) (ea_cons (ev_v 1) (ea_cons (ev_v 2) (ea_cons (ev_call (ok__law_wv_take Tx) (takes_of rfl rfl rfl rfl) (hr.mono (by decide)) (ea_cons (ev_v 0) (ea_cons ev_int ea_nil))) ea_nil))))) (eg_tup rfl (egs_cons (eg_name 6 sc__law_pair_right.nd) (egs_cons (eg_name 7 sc__law_pair_right.nd) egs_nil))))
    (ess_cons (es_set 8 sc__law_pair_right.nd (ev_lst (ea_cons (ev_v 6) (ea_cons (ev_tup ea_nil) (ea_cons ev_non (ea_cons (ev_call (ok__law_bent_way Tx) (takes_of rfl rfl rfl rfl) (hr.mono (by decide)) (ea_cons (ev_v 0) (ea_cons (ev_v 1) (ea_cons (ev_v 6) ea_nil)))) ea_nil))))))
    (ess_cons (es_expr (ev_m1 PySem.F.slot_list_extend PySem.F.type_list_extend os_extend (ev_v 8) (ev_if (et_cmp os_notN (ev_v 5) ev_non) (ev_lst (ea_cons (ev_v 5) (ea_cons (ev_call (ok__law_bent_way Tx) (takes_of rfl rfl rfl rfl) (hr.mono (by decide)) (ea_cons (ev_v 0) (ea_cons (ev_v 1) (ea_cons (ev_v 5) ea_nil)))) ea_nil))) (ev_lst ea_nil))))
    (ess_cons (es_comp rfl sc__law_pair_right.nd rfl rfl (sw_true rfl rfl rfl (by decide +kernel)) (ei_seq (ev_v 8)) (@blkOk_by N__law_pair_right (defScope st__law_pair_right) _ [("thing", 10)] (by decide +kernel)) rfl (fun _ _ _ _ _ => (eg_name 10 sc__law_pair_right.nd)) (fun _ _ _ _ _ => ets_nil) (fun _ _ _ _ _ => (ev_call (ok__law_is_way Tx) L2.takes0 (hr.mono (by decide)) (ea_cons (ev_v 1) (ea_cons (ev_v 2) (ea_cons (ev_v 3) (ea_cons (ev_v 10) ea_nil)))))))
    (ess_cons (es_if (et_not (et_e (ev_call (ok__law_same Tx) (takes_of rfl rfl rfl rfl) (hr.mono (by decide)) (ea_cons (ev_comp rfl sc__law_pair_right.nd (ei_seq (ev_v 8)) (@blkOk_by N__law_pair_right (defScope st__law_pair_right) _ [("thing", 10)] (by decide +kernel)) rfl (fun _ _ _ _ _ => (eg_name 10 sc__law_pair_right.nd)) (fun _ _ _ _ _ => ets_nil) (fun _ _ _ _ _ => (ev_call (ok_way_right Tx) L2.takes0 (hr.mono (by decide)) (ea_cons (ev_v 1) (ea_cons (ev_v 2) (ea_cons (ev_v 3) (ea_cons (ev_v 10) ea_nil))))))) (ea_cons (ev_v 9) ea_nil))))) (ess_one (es_ret ev_bl)) ess_nil)
    (ess_one (es_ret (ev_call (ok__law_same Tx) (takes_of rfl rfl rfl rfl) (hr.mono (by decide)) (ea_cons (ev_call (ok_way_right Tx) (takes_of rfl rfl rfl rfl) (hr.mono (by decide)) (ea_cons (ev_v 1) (ea_cons (ev_v 2) (ea_cons (ev_v 7) (ea_cons (ev_v 6) ea_nil))))) (ea_cons ev_bl ea_nil))))))))))))
theorem ok__law_refused_right (Tx : Txt P w K mg base c__law_refused_right t__law_refused_right) : CallOk P w K mg base (Tabl t__law_refused_right) 15 "_law_refused_right" 2 F__law_refused_right := call_okC Tx.d__law_refused_right sc__law_refused_right rfl rfl fun f A outer s H E hr =>
    (ess_cons (es_asg (vs := [4, 3]) (ev_tup (ea_cons (ev_call (ok__law_wv_one Tx) (takes_of rfl rfl rfl rfl) (hr.mono (by decide)) (ea_cons (ev_v 0) (ea_cons (ev_lst (ea_cons ev_bl (ea_cons ev_bl (ea_cons ev_non (ea_cons ev_str (ea_cons (ev_tup (ea_cons ev_int ea_nil)) (ea_cons (ev_un os_neg ev_int) (ea_cons (ev_op os_pow ev_int ev_int) (ea_cons ev_int ea_nil))))))))) ea_nil))) (ea_cons (ev_call (ok__law_wv_take Tx) (takes_of rfl rfl rfl rfl) (hr.mono (by decide)) (ea_cons (ev_v 0) (ea_cons (ev_ix os_ix (ev_v 1) ev_int) ea_nil))) ea_nil))) (eg_tup rfl (egs_cons (eg_name 4 sc__law_refused_right.nd) (egs_cons (eg_name 3 sc__law_refused_right.nd) egs_nil))))
    (ess_cons (es_set 2 sc__law_refused_right.nd (ev_lst (ea_cons (ev_heard (k := 12) Tx.heard ⟨Tx.b__law_refused_right, rfl, List.Mem.head _, fun p hp _ => by cases List.mem_singleton.mp hp; rfl⟩ (hr.mono (by decide)) (@lamS_by (defScope st__law_refused_right) _ (by decide +kernel)) fun A outer s H E f c hr => (ev_call (ok_way Tx) (takes_of rfl rfl rfl rfl) (hr.mono (by decide)) (ea_cons (ev_v 1) (ea_cons (ev_v 4) (ea_cons ev_non ea_nil))))) ea_nil)))
    (ess_cons (es_expr (ev_m1 PySem.F.slot_list_append PySem.F.type_list_append os_append (ev_v 2) (ev_heard (k := 12) Tx.heard ⟨Tx.b__law_refused_right, rfl, List.Mem.head _, fun p hp _ => by cases List.mem_singleton.mp hp; rfl⟩ (hr.mono (by decide)) (@lamS_by (defScope st__law_refused_right) _ (by decide +kernel)) fun A outer s H E f c hr => (ev_call (ok_way Tx) (takes_of rfl rfl rfl rfl) (hr.mono (by decide)) (ea_cons (ev_v 1) (ea_cons (ev_v 3) (ea_cons (ev_v 4) ea_nil)))))))
    (ess_cons (es_expr (ev_m1 PySem.F.slot_list_append PySem.F.type_list_append os_append (ev_v 2) (ev_heard (k := 12) Tx.heard ⟨Tx.b__law_refused_right, rfl, List.Mem.head _, fun p hp _ => by cases List.mem_singleton.mp hp; rfl⟩ (hr.mono (by decide)) (@lamS_by (defScope st__law_refused_right) _ (by decide +kernel)) fun A outer s H E f c hr => (ev_call (ok_way_right Tx) (takes_of rfl rfl rfl rfl) (hr.mono (by decide)) (ea_cons (ev_v 1) (ea_cons (ev_v 4) (ea_cons (ev_v 3) (ea_cons (ev_tup ea_nil) ea_nil))))))))
    (ess_cons (es_expr (ev_m1 PySem.F.slot_list_append PySem.F.type_list_append os_append (ev_v 2) (ev_heard (k := 12) Tx.heard ⟨Tx.b__law_refused_right, rfl, List.Mem.head _, fun p hp _ => by cases List.mem_singleton.mp hp; rfl⟩ (hr.mono (by decide)) (@lamS_by (defScope st__law_refused_right) _ (by decide +kernel)) fun A outer s H E f c hr => (ev_call (ok_way_right Tx) (takes_of rfl rfl rfl rfl) (hr.mono (by decide)) (ea_cons (ev_v 1) (ea_cons (ev_v 3) (ea_cons (ev_v 4) (ea_cons ev_non ea_nil))))))))
    (ess_cons (es_expr (ev_m1 PySem.F.slot_list_append PySem.F.type_list_append os_append (ev_v 2) (ev_heard (k := 12) Tx.heard ⟨Tx.b__law_refused_right, rfl, List.Mem.head _, fun p hp _ => by cases List.mem_singleton.mp hp; rfl⟩ (hr.mono (by decide)) (@lamS_by (defScope st__law_refused_right) _ (by decide +kernel)) fun A outer s H E f c hr => (ev_call (ok_led Tx) (takes_of rfl rfl rfl rfl) (hr.mono (by decide)) (ea_cons (ev_v 1) (ea_cons (ev_v 4) ea_nil))))))
    (ess_one (es_ret (ev_call (ok__law_same Tx) (takes_of rfl rfl rfl rfl) (hr.mono (by decide)) (ea_cons (ev_v 2) (ea_cons (ev_op os_add (ev_op os_mul (ev_lst (ea_cons (ev_tup (ea_cons ev_str (ea_cons (ev_v 4) ea_nil))) ea_nil)) ev_int) (ev_lst (ea_cons (ev_tup (ea_cons ev_str (ea_cons (ev_v 4) ea_nil))) ea_nil))) ea_nil)))))))))))
theorem fn_law (Tx : Txt P w K mg base c__law_refused_right t__law_refused_right) {f : Addr} {fd : FuncData} (F : Fun K "law" "law" st_law f fd) : FnOk P w K mg base (L2.CX P w) 16 f fd ["script"] (spF K mg (Tabl t__law_refused_right) 1 F_law) := fn_okF F sc_law fun cdv A outer s H E hr =>
    (ess_cons (es_set 1 sc_law.nd (ev_call (ok__law_wv_pool Tx) (takes_of rfl rfl rfl rfl) (hr.mono (by decide)) (ea_cons (ev_v 0) ea_nil)))
    (ess_cons (es_for (vs := [2]) (passes_of rfl) rfl (ei_rng Tx.n_range ev_int) (eg_name 2 sc_law.nd) (ess_cons (es_set 3 sc_law.nd (ev_if (et_w (ew_and (et_cmp (os_eq hr) (ev_v 2) ev_int) (ew_and1 (et_cmp (os_eq hr) (ev_call (ok__law_wv_take Tx) (takes_of rfl rfl rfl rfl) (hr.mono (by decide)) (ea_cons (ev_v 1) (ea_cons ev_int ea_nil))) ev_int)))) (ev_call (ok__law_wv_great_schema Tx) (takes_of rfl rfl rfl rfl) (hr.mono (by decide)) (ea_cons (ev_v 1) ea_nil)) (ev_call (ok__law_wv_schema Tx) (takes_of rfl rfl rfl rfl) (hr.mono (by decide)) (ea_cons (ev_v 1) ea_nil))))
    (ess_cons (es_set 4 sc_law.nd (ev_listRg rfl Tx.n_list Tx.n_range (ev_b1 os_len Tx.n_len rfl (ev_ix os_ix (ev_v 3) ev_int))))
    (ess_cons (es_if (et_not (et_e (ev_call (ok__law_same Tx) (takes_of rfl rfl rfl rfl) (hr.mono (by decide)) (ea_cons (ev_comp rfl sc_law.nd (ei_seq (ev_v 4)) (@blkOk_by N_law (defScope st_law) _ [("f", 8)] (by decide +kernel)) rfl (fun _ _ _ _ _ => (eg_name 8 sc_law.nd)) (fun _ _ _ _ _ => ets_nil) (fun _ _ _ _ _ => (ev_call (ok_led Tx) L2.takes0 (hr.mono (by decide)) (ea_cons (ev_v 3) (ea_cons (ev_v 8) ea_nil))))) (ea_cons (ev_comp rfl sc_law.nd (ei_seq (ev_v 4)) (@blkOk_by N_law (defScope st_law) _ [("f", 8)] (by decide +kernel)) rfl (fun _ _ _ _ _ => (eg_name 8 sc_law.nd)) (fun _ _ _ _ _ => ets_nil) (fun _ _ _ _ _ => (ev_call (ok__law_wv_led Tx) L2.takes0 (hr.mono (by decide)) (ea_cons (ev_v 3) (ea_cons (ev_v 8) ea_nil))))) ea_nil))))) (ess_one (es_ret ev_bl)) ess_nil)
    (ess_cons (es_set 5 sc_law.nd (ev_listRg rfl Tx.n_list Tx.n_range (ev_ix os_ix (ev_v 3) ev_int)))
    (ess_cons (es_for (vs := [6]) (passes_of rfl) rfl (ei_seq (ev_if (et_cmp os_lt (ev_ix os_ix (ev_v 3) ev_int) ev_int) (ev_v 5) (ev_slice (ev_call (ok__law_wv_mixed Tx) (takes_of rfl rfl rfl rfl) (hr.mono (by decide)) (ea_cons (ev_v 1) (ea_cons (ev_v 5) ea_nil))) eo_none (eo_some ev_int)))) (eg_name 6 sc_law.nd) (ess_one (es_for (vs := [7]) (passes_of rfl) rfl (ei_seq (ev_v 5)) (eg_name 7 sc_law.nd) (ess_one (es_if (et_not (et_e (ev_call (ok__law_pair_right Tx) (takes_of rfl rfl rfl rfl) (hr.mono (by decide)) (ea_cons (ev_v 1) (ea_cons (ev_v 3) (ea_cons (ev_v 6) (ea_cons (ev_v 7) ea_nil))))))) (ess_one (es_ret ev_bl)) ess_nil)))))
    (ess_one (es_if (et_not (et_e (ev_call (ok__law_refused_right Tx) (takes_of rfl rfl rfl rfl) (hr.mono (by decide)) (ea_cons (ev_v 1) (ea_cons (ev_v 3) ea_nil))))) (ess_one (es_ret ev_bl)) ess_nil))))))))
    (ess_one (es_ret ev_bl))))
end
end WkL


set_option Elab.async false
set_option linter.all false
set_option maxRecDepth 100000
set_option autoImplicit false
/-! WkP: plain lemmas over the functional reading: how combinators compute, loops by invariants, what is kept of a store. -/
namespace Wk
open PySem (Str)

/-! ### combinators compute -/
section
variable (s : Env) (S : Store)
@[simp] theorem eV_eq (i : Nat) : eV i s S = match s[i]? with
  | some (some d) => .ok d S
  | _ => .bad := rfl
@[simp] theorem eC_eq (d : D) : eC d s S = .ok d S := rfl
@[simp] theorem eOp_eq (o : Op) (a b : FE) : eOp o a b s S = (a s S).bind fun x S1 => (b s S1).bind fun y S2 => o x y S2 := rfl
@[simp] theorem eUn_eq (o : D → Store → Res D) (a : FE) : eUn o a s S = (a s S).bind o := rfl
@[simp] theorem aNil_eq : aNil s S = .ok [] S := rfl
@[simp] theorem aCons_eq (a : FE) (r : FA) : aCons a r s S = (a s S).bind fun x S1 => (r s S1).bind fun xs S2 => .ok (x :: xs) S2 := rfl
@[simp] theorem eTup_eq (a : FA) : eTup a s S = (a s S).bind fun xs S1 => if xs.length ≤ LIM then .ok (.tup xs) S1 else .bad := rfl
@[simp] theorem eLst_eq (a : FA) : eLst a s S = (a s S).bind fun xs S1 => if xs.length ≤ LIM then .ok (.ref S1.length) (S1 ++ [.lst xs]) else .bad := rfl
@[simp] theorem eDictK_eq : eDictK s S = .ok (.ref S.length) (S ++ [.dk []]) := rfl
@[simp] theorem eCall_eq (F : Fn) (a : FA) : eCall F a s S = (a s S).bind F := rfl
@[simp] theorem tE_eq (a : FE) : tE a s S = (a s S).bind fun x S1 => match x with
  | .bl b => .ok b S1
  | _ => .bad := rfl
@[simp] theorem tAnd_eq (t u : FT) : tAnd t u s S = (t s S).bind fun b S1 => if b = true then u s S1 else .ok false S1 := rfl
@[simp] theorem tOr_eq (t u : FT) : tOr t u s S = (t s S).bind fun b S1 => if b = true then .ok true S1 else u s S1 := rfl
@[simp] theorem tNot_eq (t : FT) : Wk.tNot t s S = (t s S).bind fun b S1 => .ok (!b) S1 := rfl
@[simp] theorem eNot_eq (a : FE) : eNot a s S = (tE a s S).bind fun b S1 => .ok (.bl (!b)) S1 := rfl
@[simp] theorem eAnd_eq (a b : FE) : eAnd a b s S = (tE a s S).bind fun c S1 => if c = true then b s S1 else .ok (.bl false) S1 := rfl
@[simp] theorem eOr_eq (a b : FE) : eOr a b s S = (tE a s S).bind fun c S1 => if c = true then .ok (.bl true) S1 else b s S1 := rfl
@[simp] theorem eIf_eq (t : FT) (a b : FE) : eIf t a b s S = (t s S).bind fun c S1 => if c = true then a s S1 else b s S1 := rfl
@[simp] theorem eChain_eq (o o' : Op) (a b c : FE) : eChain o o' a b c s S = (a s S).bind fun x S1 => (b s S1).bind fun y S2 => (o x y S2).bind fun z S3 => match z with
  | .bl true => (c s S3).bind fun w S4 => o' y w S4
  | .bl false => .ok (.bl false) S3
  | _ => .bad := rfl
@[simp] theorem eBM_eq (o : Op) (a b : FE) : eBM o a b s S = (a s S).bind fun x S1 => if isLst x S1 then (b s S1).bind fun y S2 => o x y S2 else .bad := rfl
@[simp] theorem eHeard_eq (cs : List String) (f : FE) : eHeard cs f s S = heardR cs (f s S) := rfl
@[simp] theorem heardR_ok (cs : List String) (d : D) : heardR cs (.ok d S) = .ok (.tup [.str "told", d]) S := rfl
@[simp] theorem heardR_ex (cs : List String) (c : String) (w : D) : heardR cs (.ex c w S) = if cs.contains c then .ok (.tup [.str (Str.ofString c), w]) S else .bad := rfl
@[simp] theorem tTrue_eq : tTrue s S = .ok true S := rfl
@[simp] theorem gF_nm (i : Nat) (d : D) : gF (.nm i) d s = some (s.set i (some d)) := rfl
@[simp] theorem gF_tp (ts : List Tg) (ds : List D) : gF (.tp ts) (.tup ds) s = gFs ts ds s := rfl
@[simp] theorem gFs_nil : gFs [] [] s = some s := rfl
@[simp] theorem gFs_cons (t : Tg) (ts : List Tg) (d : D) (ds : List D) : gFs (t :: ts) (d :: ds) s = match gF t d s with
  | some s' => gFs ts ds s'
  | none => none := rfl
@[simp] theorem sSkip_eq : sSkip s S = .nx s S := rfl
@[simp] theorem sSeq_eq (f g : FS) : sSeq f g s S = match f s S with
  | .nx s' S' => g s' S'
  | r => r := rfl
@[simp] theorem sSet_eq (i : Nat) (e : FE) : sSet i e s S = ofE (e s S) s fun d S1 => .nx (s.set i (some d)) S1 := rfl
@[simp] theorem sAsg_eq (g : Tg) (e : FE) : sAsg g e s S = ofE (e s S) s fun d S1 => match gF g d s with
  | some s' => .nx s' S1
  | none => .bad := rfl
@[simp] theorem sPar_eq (i j : Nat) (a b : FE) : sPar i j a b s S = ofE (a s S) s fun x S1 => ofE (b s S1) s fun y S2 => .nx ((s.set i (some x)).set j (some y)) S2 := rfl
@[simp] theorem sExpr_eq (e : FE) : sExpr e s S = ofE (e s S) s fun _ S1 => .nx s S1 := rfl
@[simp] theorem sRet_eq (e : FE) : sRet e s S = ofE (e s S) s fun d S1 => .rt d S1 := rfl
@[simp] theorem sRetN_eq : sRetN s S = .rt .non S := rfl
@[simp] theorem sIf_eq (t : FT) (f g : FS) : sIf t f g s S = ofE (t s S) s fun b S1 => if b = true then f s S1 else g s S1 := rfl
@[simp] theorem sBreak_eq : Wk.sBreak s S = .bk s S := rfl
@[simp] theorem sCont_eq : Wk.sCont s S = .ct s S := rfl
@[simp] theorem sRaise_eq (c : String) (e : FE) : sRaise c e s S = ofE (e s S) s fun d S1 => .ex c d s S1 := rfl
@[simp] theorem sSub_eq (u : Up) (o i v : FE) : sSub u o i v s S = ofE (v s S) s fun x S1 => ofE (o s S1) s fun y S2 => ofE (i s S2) s fun z S3 => match u y z x S3 with
  | some S4 => .nx s S4
  | none => .bad := rfl
@[simp] theorem sFor_eq (it : FI) (g : Tg) (b : FS) : sFor it g b s S = ofE (it s S) s fun I S1 => forL I.chk g b I.items s S1 := rfl
@[simp] theorem sWhile_eq (t : FT) (b : FS) : Wk.sWhile t b s S = whileL t b FUEL s S := rfl
@[simp] theorem iSeq_eq (e : FE) : iSeq e s S = (e s S).bind fun x S1 => match x with
  | .tup ds => .ok ⟨ds, []⟩ S1
  | .frz ds => .ok ⟨ds, []⟩ S1
  | .ref l => match S1[l]? with
    | some (.lst ds) => .ok ⟨ds, [(l, .lst ds)]⟩ S1
    | _ => .bad
  | _ => .bad := rfl
@[simp] theorem iRng_eq (e : FE) : iRng e s S = (e s S).bind fun x S1 => match x with
  | .int j => if -(2 ^ 62) ≤ j ∧ j ≤ 16777216 then .ok ⟨rngD 0 j, []⟩ S1 else .bad
  | _ => .bad := rfl
@[simp] theorem iEnum_eq (e : FE) : iEnum e s S = (e s S).bind fun x S1 => match x with
  | .tup ds => .ok ⟨enumD ds, []⟩ S1
  | .ref l => match S1[l]? with
    | some (.lst ds) => .ok ⟨enumD ds, [(l, .lst ds)]⟩ S1
    | _ => .bad
  | _ => .bad := rfl
@[simp] theorem eComp_eq (it : FI) (g : Tg) (t : FT) (e : FE) (vs : List Nat) : eComp it g t e vs s S = (it s S).bind fun I S1 =>
  (noEx (compL I.chk g t e (wipeE s vs) I.items S1)).bind fun ys S2 => .ok (.ref S2.length) (S2 ++ [.lst ys]) := rfl
@[simp] theorem eDComp_eq (it : FI) (g : Tg) (t : FT) (k e : FE) (vs : List Nat) : eDComp it g t k e vs s S = (it s S).bind fun I S1 =>
  (noEx (compD I.chk g t k e (wipeE s vs) I.items S1)).bind fun ys S2 => .ok (.ref S2.length) (S2 ++ [.dk (mergeD [] ys)]) := rfl
@[simp] theorem wipeE_nil : wipeE s [] = s := rfl
@[simp] theorem wipeE_cons (v : Nat) (vs : List Nat) : wipeE s (v :: vs) = (wipeE s vs).set v none := rfl
end
theorem mkF_eq (k n : Nat) (b : FS) (ds : List D) (S : Store) (h : ds.length = k) : mkF k n b ds S = match b (startE n ds) S with
  | .nx _ S' => .ok .non S'
  | .rt d S' => .ok d S'
  | .ex c w _ S' => .ex c w S'
  | _ => .bad := if_pos h
/-! ### operations compute -/
section
variable (S : Store)
@[simp] theorem oAdd_int (i j : Int) : oAdd (.int i) (.int j) S = .ok (.int (i + j)) S := rfl
@[simp] theorem oSub_int (i j : Int) : oSub (.int i) (.int j) S = .ok (.int (i - j)) S := rfl
@[simp] theorem oMul_int (i j : Int) : oMul (.int i) (.int j) S = if bigOk i && bigOk j then .ok (.int (i * j)) S else .bad := rfl
@[simp] theorem oMod_int (i j : Int) : oMod (.int i) (.int j) S = if 0 < j then .ok (.int (i % j)) S else .bad := rfl
@[simp] theorem oFdiv_int (i j : Int) : oFdiv (.int i) (.int j) S = if 0 < j ∧ j.natAbs.log2 < 9000 then .ok (.int (i / j)) S else .bad := rfl
@[simp] theorem oPow_int (i j : Int) : oPow (.int i) (.int j) S = if 0 ≤ j ∧ j ≤ 1000000 ∧ i.natAbs < 2 ^ 64 then .ok (.int (i ^ j.toNat)) S else .bad := rfl
@[simp] theorem oLt_int (i j : Int) : oLt (.int i) (.int j) S = .ok (.bl (decide (i < j))) S := rfl
@[simp] theorem oLe_int (i j : Int) : oLe (.int i) (.int j) S = .ok (.bl (decide (i ≤ j))) S := rfl
@[simp] theorem oGt_int (i j : Int) : oGt (.int i) (.int j) S = .ok (.bl (decide (j < i))) S := rfl
@[simp] theorem oGe_int (i j : Int) : oGe (.int i) (.int j) S = .ok (.bl (decide (j ≤ i))) S := rfl
@[simp] theorem oMax_int (i j : Int) : oMax (.int i) (.int j) S = .ok (.int (if j > i then j else i)) S := rfl
@[simp] theorem uNeg_int (i : Int) : uNeg (.int i) S = .ok (.int (-i)) S := rfl
@[simp] theorem oEq_int (i j : Int) : oEq (.int i) (.int j) S = .ok (.bl (i == j)) S := rfl
@[simp] theorem notR_ok (b : Bool) : notR (.ok (.bl b) S) = .ok (.bl (!b)) S := rfl
@[simp] theorem oNe_eq (x y : D) : oNe x y S = notR (oEq x y S) := rfl
@[simp] theorem oNinS_eq (x y : D) : oNinS x y S = notR (oInS x y S) := rfl
@[simp] theorem oNinD_eq (x y : D) : oNinD x y S = notR (oInD x y S) := rfl
@[simp] theorem oIsN_eq (x : D) : oIsN x .non S = .ok (.bl (isNon x)) S := rfl
@[simp] theorem oNotN_eq (x : D) : oNotN x .non S = .ok (.bl (!isNon x)) S := rfl
@[simp] theorem isNon_non : isNon .non = true := rfl
@[simp] theorem isNon_int (i : Int) : isNon (.int i) = false := rfl
@[simp] theorem isNon_bl (i : Bool) : isNon (.bl i) = false := rfl
@[simp] theorem isNon_str (i : Str) : isNon (.str i) = false := rfl
@[simp] theorem isNon_tup (i : List D) : isNon (.tup i) = false := rfl
@[simp] theorem isNon_ref (i : Nat) : isNon (.ref i) = false := rfl
@[simp] theorem oIx_tup (ds : List D) (i : Int) : oIx (.tup ds) (.int i) S = match atI ds i with
  | some d => .ok d S
  | none => .bad := rfl
@[simp] theorem oIx_frz (ds : List D) (i : Int) : oIx (.frz ds) (.int i) S = match atI ds i with
  | some d => .ok d S
  | none => .bad := rfl
@[simp] theorem oIx_ref (l : Nat) (i : Int) : oIx (.ref l) (.int i) S = match S[l]? with
  | some (.lst ds) => match atI ds i with
    | some d => .ok d S
    | none => .bad
  | _ => .bad := rfl
@[simp] theorem fLen_tup (ds : List D) : fLen (.tup ds) S = .ok (.int ds.length) S := rfl
@[simp] theorem fLen_frz (ds : List D) : fLen (.frz ds) S = .ok (.int ds.length) S := rfl
theorem fLen_lst {S : Store} {l : Nat} {ds : List D} (h : S[l]? = some (.lst ds)) : fLen (.ref l) S = .ok (.int ds.length) S := by
  unfold fLen seqD; dsimp only; rw [h]
theorem fLen_dk {S : Store} {l : Nat} {ds : List (Kk × D)} (h : S[l]? = some (.dk ds)) : fLen (.ref l) S = .ok (.int ds.length) S := by
  unfold fLen; dsimp only; rw [h]
@[simp] theorem fTuple_tup (ds : List D) : fTuple (.tup ds) S = .ok (.tup ds) S := rfl
theorem fTuple_lst {S : Store} {l : Nat} {ds : List D} (h : S[l]? = some (.lst ds)) : fTuple (.ref l) S = .ok (.tup ds) S := by
  unfold fTuple seqD; dsimp only; rw [h]
@[simp] theorem fList_tup (ds : List D) : fList (.tup ds) S = .ok (.ref S.length) (S ++ [.lst ds]) := rfl
theorem fList_lst {S : Store} {l : Nat} {ds : List D} (h : S[l]? = some (.lst ds)) : fList (.ref l) S = .ok (.ref S.length) (S ++ [.lst ds]) := by
  unfold fList seqD; dsimp only; rw [h]
theorem isLst_lst {S : Store} {l : Nat} {ds : List D} (h : S[l]? = some (.lst ds)) : isLst (.ref l) S = true := by
  unfold isLst; dsimp only; rw [h]
theorem isDk_dk {S : Store} {l : Nat} {ds : List (Kk × D)} (h : S[l]? = some (.dk ds)) : isDk (.ref l) S = true := by
  unfold isDk; dsimp only; rw [h]
theorem oAppend_lst {S : Store} {l : Nat} {ds : List D} {y : D} (h : S[l]? = some (.lst ds)) (hz : ds.length < LIM) : oAppend (.ref l) y S = .ok .non (S.set l (.lst (ds ++ [y]))) := by
  unfold oAppend; dsimp only; rw [h]; dsimp only; rw [if_pos hz]
theorem oExtend_lst {S : Store} {l m : Nat} {ds es : List D} (h : S[l]? = some (.lst ds)) (h2 : S[m]? = some (.lst es)) (hz : ds.length + es.length ≤ LIM) : oExtend (.ref l) (.ref m) S = .ok .non (S.set l (.lst (ds ++ es))) := by
  unfold oExtend; dsimp only; rw [h, h2]; dsimp only; rw [if_pos hz]
@[simp] theorem fListRg_int (b : Int) : fListRg (.int b) S = if -(2 ^ 62) ≤ b ∧ b ≤ 16777216 then .ok (.ref S.length) (S ++ [.lst (rngD 0 b)]) else .bad := rfl
@[simp] theorem tyD_non : tyD S .non = some "NoneType" := rfl
@[simp] theorem tyD_bl (b : Bool) : tyD S (.bl b) = some "bool" := rfl
@[simp] theorem tyD_int (b : Int) : tyD S (.int b) = some "int" := rfl
@[simp] theorem tyD_str (b : Str) : tyD S (.str b) = some "str" := rfl
@[simp] theorem tyD_tup (b : List D) : tyD S (.tup b) = some "tuple" := rfl
theorem tyD_lst {S : Store} {l : Nat} {ds : List D} (h : S[l]? = some (.lst ds)) : tyD S (.ref l) = some "list" := by
  unfold tyD; dsimp only; rw [h]
theorem tyD_dk {S : Store} {l : Nat} {ds : List (Kk × D)} (h : S[l]? = some (.dk ds)) : tyD S (.ref l) = some "dict" := by
  unfold tyD; dsimp only; rw [h]
@[simp] theorem fIsInst_eq (n : String) (x : D) : fIsInst n x S = match tyD S x with
  | some t => .ok (.bl (isTy t n)) S
  | none => .bad := rfl
end
theorem LIM_val : LIM = 16777216 := rfl
/-! ### places -/
@[simp] theorem atI_nat {α : Type} (xs : List α) (i : Nat) : atI xs (i : Int) = xs[i]? := by
  unfold atI ixN
  rw [if_pos (Int.natCast_nonneg i)]
  by_cases h : i < xs.length
  · rw [if_pos (by omega)]; simp
  · rw [if_neg (by omega)]; simp [List.getElem?_eq_none (Nat.le_of_not_lt h)]
@[simp] theorem atI_zero {α : Type} (xs : List α) : atI xs 0 = xs[0]? := atI_nat xs 0
@[simp] theorem atI_one {α : Type} (xs : List α) : atI xs 1 = xs[1]? := atI_nat xs 1
@[simp] theorem atI_two {α : Type} (xs : List α) : atI xs 2 = xs[2]? := atI_nat xs 2
theorem ixN_nat (n i : Nat) (h : i < n) : ixN n (i : Int) = some i := by
  unfold ixN
  rw [if_pos (Int.natCast_nonneg i), if_pos (by omega)]
  simp
/-- ints from 0 -/
theorem rngD_nat (n : Nat) : rngD 0 (n : Int) = (List.range n).map fun (i : Nat) => D.int (i : Int) := by
  unfold rngD
  simp

/-! ### what is kept of a store -/
/-- all but the things numbered in X is as it was -/
def Keep (X : List Nat) (S S' : Store) : Prop := S.length ≤ S'.length ∧ ∀ i, i < S.length → i ∉ X → S'[i]? = S[i]?
theorem Keep.refl (X : List Nat) (S : Store) : Keep X S S := ⟨Nat.le_refl _, fun _ _ _ => rfl⟩
theorem Keep.trans {X : List Nat} {S S' S'' : Store} (h : Keep X S S') (k : Keep X S' S'') : Keep X S S'' := ⟨Nat.le_trans h.1 k.1, fun i hi hx => (k.2 i (Nat.lt_of_lt_of_le hi h.1) hx).trans (h.2 i hi hx)⟩
theorem Keep.mono {X Y : List Nat} {S S' : Store} (h : Keep X S S') (xy : ∀ i ∈ X, i ∈ Y) : Keep Y S S' := ⟨h.1, fun i hi hy => h.2 i hi fun z => hy (xy i z)⟩
theorem Keep.get {X : List Nat} {S S' : Store} (h : Keep X S S') {i : Nat} {o : Ob} (e : S[i]? = some o) (hx : i ∉ X) : S'[i]? = some o := by
  rw [h.2 i (List.getElem?_eq_some_iff.mp e).1 hx]; exact e
theorem Keep.push (S T : Store) (X : List Nat) : Keep X S (S ++ T) := ⟨by simp, fun i hi _ => List.getElem?_append_left hi⟩
theorem Keep.set {X : List Nat} (S : Store) {p : Nat} {o : Ob} (hp : p ∈ X ∨ S.length ≤ p) : Keep X S (S.set p o) := ⟨by simp, fun i hi hx => by
  rw [List.getElem?_set_ne]
  rintro rfl
  rcases hp with h | h
  · exact hx h
  · omega⟩
/-- things that are new may change -/
theorem Keep.new {X Y : List Nat} {S S' S'' : Store} (h : Keep X S S') (k : Keep Y S' S'') (hy : ∀ i ∈ Y, i ∈ X ∨ S.length ≤ i) : Keep X S S'' := ⟨Nat.le_trans h.1 k.1, fun i hi hx => (k.2 i (Nat.lt_of_lt_of_le hi h.1) fun z => (hy i z).elim hx fun q => by omega).trans (h.2 i hi hx)⟩
theorem lt_of_get {S : Store} {i : Nat} {o : Ob} (e : S[i]? = some o) : i < S.length := (List.getElem?_eq_some_iff.mp e).1
theorem get_last (S : Store) (o : Ob) : (S ++ [o])[S.length]? = some o := by simp
theorem get_set_self {S : Store} {i : Nat} {o u : Ob} (e : S[i]? = some o) : (S.set i u)[i]? = some u := List.getElem?_set_self (lt_of_get e)

/-! ### loops -/
section
variable {c : Chk} {g : Tg} {b : FS}
/-- a for that goes through: I, of what is left -/
theorem forL_run (I : List D → Env → Store → Prop) (hc : ∀ ds s S, I ds s S → okC c S = true)
    (hs : ∀ d ds s S, I (d :: ds) s S → ∃ s1 s2 S2, gF g d s = some s1 ∧ (b s1 S = .nx s2 S2 ∨ b s1 S = .ct s2 S2) ∧ I ds s2 S2) :
    ∀ ds s S, I ds s S → ∃ s' S', forL c g b ds s S = .nx s' S' ∧ I [] s' S'
  | [], s, S, h => ⟨s, S, by unfold forL; rw [if_pos (hc _ _ _ h)], h⟩
  | d :: ds, s, S, h => by
    obtain ⟨s1, s2, S2, e1, e2, h2⟩ := hs d ds s S h
    obtain ⟨s', S', e3, h3⟩ := forL_run I hc hs ds s2 S2 h2
    refine ⟨s', S', ?_, h3⟩
    unfold forL
    rw [if_pos (hc _ _ _ h), e1]
    dsimp only
    rcases e2 with e2 | e2 <;> rw [e2] <;> exact e3
/-- a while that goes through -/
theorem whileL_run {t : FT} (I : Env → Store → Prop) (Q : Env → Store → Prop) (μ : Env → Store → Nat)
    (hs : ∀ s S, I s S → (∃ S1, t s S = .ok false S1 ∧ Q s S1) ∨ ∃ S1 s2 S2, t s S = .ok true S1 ∧ (b s S1 = .nx s2 S2 ∨ b s S1 = .ct s2 S2) ∧ I s2 S2 ∧ μ s2 S2 < μ s S) :
    ∀ n s S, I s S → μ s S < n → ∃ s' S', whileL t b n s S = .nx s' S' ∧ Q s' S'
  | 0, _, _, _, h => absurd h (Nat.not_lt_zero _)
  | n + 1, s, S, h, hm => by
    unfold whileL
    rcases hs s S h with ⟨S1, e, q⟩ | ⟨S1, s2, S2, e, e2, h2, h3⟩
    · exact ⟨s, S1, by rw [e]; rfl, q⟩
    · obtain ⟨s', S', e3, q⟩ := whileL_run I Q μ hs n s2 S2 h2 (by omega)
      refine ⟨s', S', ?_, q⟩
      rw [e, ofE_ok, if_pos rfl]
      rcases e2 with e2 | e2 <;> rw [e2] <;> exact e3
end
section
variable {c : Chk} {g : Tg} {t : FT} {e : FE} {sw : Env}
/-- a comprehension whose test and element keep the store -/
theorem compL_pure {S : Store} {p : D → Bool} {f : D → D} (hc : okC c S = true) : ∀ ds : List D, (∀ d ∈ ds, ∃ s1, gF g d sw = some s1 ∧ t s1 S = .ok (p d) S ∧ (p d = true → e s1 S = .ok (f d) S)) →
    compL c g t e sw ds S = .ok ((ds.filter p).map f) S
  | [], _ => by unfold compL; rw [if_pos hc]; rfl
  | d :: ds, h => by
    obtain ⟨s1, e1, e2, e3⟩ := h d List.mem_cons_self
    have ih := compL_pure hc ds fun x hx => h x (List.mem_cons_of_mem _ hx)
    unfold compL
    rw [if_pos hc, e1]
    dsimp only
    rw [e2, Res.bind_ok]
    cases hp : p d with
    | true => rw [if_pos rfl, e3 hp, Res.bind_ok, ih, Res.bind_ok, List.filter_cons, hp]; rfl
    | false => rw [if_neg (by decide), ih, List.filter_cons, hp]; rfl
/-- a comprehension by an invariant: of what is left, what has been told, the store -/
theorem compL_run (I : List D → List D → Store → Prop) (hc : ∀ ds acc S, I ds acc S → okC c S = true)
    (hs : ∀ d ds acc S, I (d :: ds) acc S → ∃ s1 S1, gF g d sw = some s1 ∧ ((t s1 S = .ok false S1 ∧ I ds acc S1) ∨ ∃ y S2, t s1 S = .ok true S1 ∧ e s1 S1 = .ok y S2 ∧ I ds (acc ++ [y]) S2)) :
    ∀ ds acc S, I ds acc S → ∃ ys S', compL c g t e sw ds S = .ok ys S' ∧ I [] (acc ++ ys) S'
  | [], acc, S, h => ⟨[], S, by unfold compL; rw [if_pos (hc _ _ _ h)], by simpa using h⟩
  | d :: ds, acc, S, h => by
    obtain ⟨s1, S1, e1, h1⟩ := hs d ds acc S h
    unfold compL
    rw [if_pos (hc _ _ _ h), e1]
    dsimp only
    rcases h1 with ⟨e2, h2⟩ | ⟨y, S2, e2, e3, h2⟩
    · obtain ⟨ys, S', e4, h4⟩ := compL_run I hc hs ds acc S1 h2
      exact ⟨ys, S', by rw [e2, Res.bind_ok, if_neg (by decide)]; exact e4, h4⟩
    · obtain ⟨ys, S', e4, h4⟩ := compL_run I hc hs ds (acc ++ [y]) S2 h2
      exact ⟨y :: ys, S', by rw [e2, Res.bind_ok, if_pos rfl, e3, Res.bind_ok, e4]; rfl, by simpa using h4⟩
theorem compL_map {S : Store} {f : D → D} (hc : okC c S = true) (ds : List D) (h : ∀ d ∈ ds, ∃ s1, gF g d sw = some s1 ∧ e s1 S = .ok (f d) S) : compL c g tTrue e sw ds S = .ok (ds.map f) S := by
  rw [compL_pure (t := tTrue) (p := fun _ => true) (f := f) hc ds fun d hd => let ⟨s1, a, b⟩ := h d hd; ⟨s1, a, rfl, fun _ => b⟩]
  rw [List.filter_eq_self.mpr (fun _ _ => rfl)]
end
theorem forL_nil {c : Chk} {g : Tg} {b : FS} {s : Env} {S : Store} (h : okC c S = true) : forL c g b [] s S = .nx s S := by
  unfold forL; rw [if_pos h]
theorem forL_cons {c : Chk} {g : Tg} {b : FS} {s s1 s2 : Env} {S S2 : Store} {d : D} {ds : List D} (h : okC c S = true) (hg : gF g d s = some s1) (hb : b s1 S = .nx s2 S2) : forL c g b (d :: ds) s S = forL c g b ds s2 S2 := by
  rw [show forL c g b (d :: ds) s S = if okC c S then (match gF g d s with
    | none => .bad
    | some s1 => match b s1 S with
      | .nx s2 S2 => forL c g b ds s2 S2
      | .ct s2 S2 => forL c g b ds s2 S2
      | .bk s2 S2 => .nx s2 S2
      | r => r) else .bad from rfl, if_pos h, hg]
  dsimp only
  rw [hb]
/-- a while that goes through, its measure in the invariant -/
theorem whileL_runN {t : FT} {b : FS} (I : Nat → Env → Store → Prop) (Q : Env → Store → Prop)
    (hs : ∀ m s S, I m s S → (∃ S1, t s S = .ok false S1 ∧ Q s S1) ∨ ∃ S1 s2 S2 m2, t s S = .ok true S1 ∧ (b s S1 = .nx s2 S2 ∨ b s S1 = .ct s2 S2) ∧ I m2 s2 S2 ∧ m2 < m) :
    ∀ n m s S, I m s S → m < n → ∃ s' S', whileL t b n s S = .nx s' S' ∧ Q s' S'
  | 0, _, _, _, _, h => absurd h (Nat.not_lt_zero _)
  | n + 1, m, s, S, h, hm => by
    unfold whileL
    rcases hs m s S h with ⟨S1, e, q⟩ | ⟨S1, s2, S2, m2, e, e2, h2, h3⟩
    · exact ⟨s, S1, by rw [e]; rfl, q⟩
    · obtain ⟨s', S', e3, q⟩ := whileL_runN I Q hs n m2 s2 S2 h2 (by omega)
      refine ⟨s', S', ?_, q⟩
      rw [e, ofE_ok, if_pos rfl]
      rcases e2 with e2 | e2 <;> rw [e2] <;> exact e3
theorem compD_map {c : Chk} {g : Tg} {fk fe : FE} {sw : Env} {S : Store} {kf : D → Kk} {vf : D → D} (hc : okC c S = true) : ∀ ds : List D, (∀ d ∈ ds, ∃ s1 x, gF g d sw = some s1 ∧ fk s1 S = .ok x S ∧ fe s1 S = .ok (vf d) S ∧ keyD x = some (kf d)) →
    compD c g tTrue fk fe sw ds S = .ok (ds.map fun d => (kf d, vf d)) S
  | [], _ => by unfold compD; rw [if_pos hc]; rfl
  | d :: ds, h => by
    obtain ⟨s1, x, e1, e2, e3, e4⟩ := h d List.mem_cons_self
    have ih := compD_map hc ds fun y hy => h y (List.mem_cons_of_mem _ hy)
    unfold compD
    rw [if_pos hc, e1]
    dsimp only
    rw [tTrue_eq, Res.bind_ok, if_pos rfl, e2, Res.bind_ok, e3, Res.bind_ok, e4]
    dsimp only
    rw [ih]; rfl
theorem nx_seq {f g : FS} {s s1 : Env} {S S1 : Store} {r : Rs} (h : f s S = .nx s1 S1) (k : g s1 S1 = r) : sSeq f g s S = r := by rw [sSeq_eq, h]; exact k
end Wk


set_option Elab.async false
set_option linter.all false
set_option maxRecDepth 100000
set_option autoImplicit false
/-! PvPool: what pool, take, one, mixed of the law's drawing do. -/
namespace WkL
open PySem (Str)
open Wk
/-- a pool of numbers -/
structure PoolI (dg st : Int) : Prop where
  d0 : 0 ≤ dg
  s0 : 0 ≤ st
  s1 : st < 2147483647
/-- the pool stands at p -/
def Pool (p : Nat) (S : Store) : Prop := ∃ dg st, S[p]? = some (.lst [.int dg, .int st]) ∧ PoolI dg st
theorem Pool.keep {p : Nat} {X : List Nat} {S S' : Store} (h : Pool p S) (k : Keep X S S') (hp : p ∉ X) : Pool p S' := by
  obtain ⟨dg, st, e, i⟩ := h
  exact ⟨dg, st, k.get e hp, i⟩
theorem log2_lt {n k : Nat} (hk : 0 < k) (h : n < 2 ^ k) : n.log2 < k := by
  by_cases h0 : n = 0
  · rw [h0]; simpa using hk
  · exact (Nat.log2_lt h0).mpr h
theorem bigOk_small {i : Int} (k : Nat) (hk : 0 < k) (hk2 : k ≤ 400000) (h : i.natAbs < 2 ^ k) : bigOk i = true := decide_eq_true (Nat.lt_of_lt_of_le (log2_lt hk h) hk2)
theorem log_ok {i : Int} (h0 : 0 < i) (h : i ≤ 1000000) : i.natAbs.log2 < 9000 := Nat.lt_trans (log2_lt (k := 64) (by decide) (by show i.natAbs < 18446744073709551616; omega)) (by decide)
@[simp] theorem big_48271 : bigOk 48271 = true := bigOk_small 64 (by decide) (by decide) (by decide)
@[simp] theorem big_39373 : bigOk 39373 = true := bigOk_small 64 (by decide) (by decide) (by decide)
@[simp] theorem log2_32 : Nat.log2 32 = 5 := by decide
theorem big31 {i : Int} (h0 : 0 ≤ i) (h1 : i < 2147483647) : bigOk i = true := bigOk_small 64 (by decide) (by decide) (by show i.natAbs < 18446744073709551616; omega)
theorem set_two {S : Store} {p : Nat} {x y : D} (h : S[p]? = some (.lst [x, y])) (i : Nat) (z : D) (hi : i < 2) : uSetL (.ref p) (.int (i : Int)) z S = some (S.set p (.lst ([x, y].set i z))) := by
  unfold uSetL; dsimp only; rw [h]; dsimp only; rw [ixN_nat _ _ (by exact hi)]
theorem take_ok {p : Nat} {S : Store} {many : Int} (h : Pool p S) (hm : 0 < many) (hm2 : many ≤ 1000000) :
    ∃ (k : Int) (S' : Store), F__law_wv_take [.ref p, .int many] S = .ok (.int k) S' ∧ 0 ≤ k ∧ k < many ∧ Keep [p] S S' ∧ Pool p S' ∧ S'.length = S.length := by
  obtain ⟨dg, st, e, i⟩ := h
  have hl := lt_of_get e
  have i0 := i.d0; have i1 := i.s0; have i2 := i.s1
  have u0 : ∀ z, uSetL (.ref p) (.int 0) z S = _ := fun z => set_two e 0 z (by decide)
  have u1 : ∀ z, uSetL (.ref p) (.int 1) z S = _ := fun z => set_two e 1 z (by decide)
  have lg := log_ok hm hm2
  by_cases hd : 0 < dg
  · refine ⟨dg % many, S.set p (.lst [.int (dg / many), .int st]), ?_, Int.emod_nonneg _ (by omega), Int.emod_lt_of_pos _ hm, Keep.set _ (.inl (by simp)), ⟨dg / many, st, get_set_self e, ⟨Int.ediv_nonneg i0 (by omega), i1, i2⟩⟩, by simp⟩
    simp [F__law_wv_take, mkF, startE, e, hd, hm, lg, u0]
  · have b1 := big31 i1 i2
    have m1 : 0 ≤ (st * 39373 + 7) % 2147483647 := Int.emod_nonneg _ (by decide)
    have m2 : (st * 39373 + 7) % 2147483647 < 2147483647 := Int.emod_lt_of_pos _ (by decide)
    have b2 := big31 m1 m2
    refine ⟨((st * 39373 + 7) % 2147483647) * ((st * 39373 + 7) % 2147483647) % 2147483629 / 32 % many, S.set p (.lst [.int dg, .int ((st * 39373 + 7) % 2147483647)]), ?_, Int.emod_nonneg _ (by omega), Int.emod_lt_of_pos _ hm, Keep.set _ (.inl (by simp)), ⟨dg, _, get_set_self e, ⟨i0, m1, m2⟩⟩, by simp⟩
    have g1 : (S.set p (.lst [.int dg, .int ((st * 39373 + 7) % 2147483647)]))[p]? = _ := get_set_self e
    simp [F__law_wv_take, mkF, startE, e, hd, hm, u1, b1, b2, g1]
theorem one_ok {p l : Nat} {S : Store} {ds : List D} (h : Pool p S) (hl : S[l]? = some (.lst ds)) (hlp : l ≠ p) (hne : 0 < ds.length) (hz : ds.length ≤ 1000000) :
    ∃ (d : D) (S' : Store), F__law_wv_one [.ref p, .ref l] S = .ok d S' ∧ d ∈ ds ∧ Keep [p] S S' ∧ Pool p S' ∧ S'.length = S.length := by
  obtain ⟨k, S', e, k0, k1, hk, hp, hL⟩ := take_ok (many := (ds.length : Int)) h (by omega) (by omega)
  obtain ⟨j, rfl⟩ := Int.eq_ofNat_of_zero_le k0
  have hj : j < ds.length := by omega
  have g := hk.get hl (by simpa using hlp)
  refine ⟨ds[j], S', ?_, List.getElem_mem hj, hk, hp, hL⟩
  simp [F__law_wv_one, mkF, startE, fLen_lst hl, e, g, hj]
theorem eraseIdx_perm {α : Type} : ∀ {xs : List α} {j : Nat} {x : α}, xs[j]? = some x → (x :: xs.eraseIdx j).Perm xs
  | [], j, x, h => by simp at h
  | a :: xs, 0, x, h => by simp at h; subst h; exact List.Perm.refl _
  | a :: xs, j + 1, x, h => by
    have ih := eraseIdx_perm (xs := xs) (j := j) (x := x) (by simpa using h)
    exact (List.Perm.swap a x _).trans (ih.cons a)
theorem mixed_ok {p l : Nat} {S : Store} {ds : List D} (h : Pool p S) (hl : S[l]? = some (.lst ds)) (hlp : l ≠ p) (hz : ds.length ≤ 1000000) :
    ∃ (n : Nat) (es : List D) (S' : Store), F__law_wv_mixed [.ref p, .ref l] S = .ok (.ref n) S' ∧ S'[n]? = some (.lst es) ∧ es.Perm ds ∧ Keep [p] S S' ∧ Pool p S' ∧ S.length ≤ n := by
  have hl' := lt_of_get hl
  have hp' : p < S.length := by obtain ⟨_, _, e, _⟩ := h; exact lt_of_get e
  -- the store with spare, found
  have e1 : (S ++ [Ob.lst ds] ++ [Ob.lst []])[S.length]? = some (.lst ds) := by simp
  have e2 : (S ++ [Ob.lst ds] ++ [Ob.lst []])[S.length + 1]? = some (.lst []) := by simp
  have k0 : Keep [p] S (S ++ [Ob.lst ds] ++ [Ob.lst []]) := by rw [List.append_assoc]; exact Keep.push S _ _
  obtain ⟨s', S', hr, h'⟩ := forL_run (c := []) (g := .nm 4) (b := sExpr (eBM oAppend (eV 3) (eBM oPopAt (eV 2) (eCall F__law_wv_take (aCons (eV 0) (aCons (eUn fLen (eV 2)) aNil))))))
    (fun rest s T => ∃ (sp fd : List D) (x : Option D), s = [some (.ref p), some (.ref l), some (.ref S.length), some (.ref (S.length + 1)), x] ∧ T[S.length]? = some (.lst sp) ∧ T[S.length + 1]? = some (.lst fd) ∧ sp.length = rest.length ∧ (fd ++ sp).Perm ds ∧ Keep [p] S T ∧ Pool p T)
    (fun _ _ _ _ => rfl) (by
    rintro d rest s T ⟨sp, fd, x, rfl, h1, h2, h3, h4, h5, h6⟩
    have hn : 0 < sp.length := by rw [h3]; simp
    have hle : (fd ++ sp).length = ds.length := h4.length_eq
    rw [List.length_append] at hle
    obtain ⟨k, T1, e, k0', k1, hk, hp, hL⟩ := take_ok (many := (sp.length : Int)) h6 (by omega) (by omega)
    obtain ⟨j, rfl⟩ := Int.eq_ofNat_of_zero_le k0'
    have hj : j < sp.length := by omega
    have n1 : S.length ≠ p := by omega
    have n2 : S.length + 1 ≠ p := by omega
    have g1 := hk.get h1 (by simpa using n1)
    have g2 := hk.get h2 (by simpa using n2)
    have il := isLst_lst h1
    have il2 := isLst_lst h2
    have hjj : sp[j]? = some sp[j] := List.getElem?_eq_getElem hj
    have p1 : oPopAt (.ref S.length) (.int (j : Int)) T1 = .ok sp[j] (T1.set S.length (.lst (sp.eraseIdx j))) := by
      unfold oPopAt; dsimp only; rw [g1]; dsimp only; rw [ixN_nat _ _ hj]; dsimp only; rw [hjj]
    have g3 : (T1.set S.length (.lst (sp.eraseIdx j)))[S.length + 1]? = some (.lst fd) := by rw [List.getElem?_set_ne (by omega)]; exact g2
    have p2 := oAppend_lst (y := sp[j]) g3 (by rw [LIM_val]; omega)
    have kk : Keep [p] S ((T1.set S.length (.lst (sp.eraseIdx j))).set (S.length + 1) (.lst (fd ++ [sp[j]]))) := ((h5.trans hk).new (Y := [S.length, S.length + 1]) ((Keep.set _ (.inl (by simp))).trans (Keep.set _ (.inl (by simp)))) (by intro i hi; simp at hi; omega))
    refine ⟨_, _, _, rfl, .inl (by simp [il, il2, fLen_lst h1, e, p1, p2]; rfl), sp.eraseIdx j, fd ++ [sp[j]], some d, by simp, ?_, ?_, ?_, ?_, kk, ?_⟩
    · rw [List.getElem?_set_ne (by omega)]; exact get_set_self g1
    · exact get_set_self g3
    · rw [List.length_eraseIdx_of_lt hj]; simp at h3; omega
    · rw [List.append_assoc]
      exact ((eraseIdx_perm hjj).append_left fd).trans h4
    · exact hp.keep (X := [S.length, S.length + 1]) ((Keep.set _ (.inl (by simp))).trans (Keep.set _ (.inl (by simp)))) (by simp; omega)) ((List.range ds.length).map fun (i : Nat) => D.int (i : Int)) [some (.ref p), some (.ref l), some (.ref S.length), some (.ref (S.length + 1)), none] (S ++ [Ob.lst ds] ++ [Ob.lst []])
    ⟨ds, [], none, rfl, e1, e2, by simp, by simp, k0, h.keep (Keep.push S _ []) (by simp) |> fun z => by rw [List.append_assoc]; exact z⟩
  · obtain ⟨sp, fd, x, rfl, h1, h2, h3, h4, h5, h6⟩ := h'
    have sp0 : sp = [] := List.eq_nil_of_length_eq_zero (by simpa using h3)
    subst sp0
    refine ⟨S.length + 1, fd, S', ?_, h2, by simpa using h4, h5, h6, by omega⟩
    have r1 : -(4611686018427387904 : Int) ≤ (ds.length : Int) := by omega
    have r2 : (ds.length : Int) ≤ 16777216 := by omega
    have g1 : (S ++ [Ob.lst ds] ++ [Ob.lst []])[l]? = some (.lst ds) := k0.get hl (by simpa using hlp)
    have g2 : (S ++ [Ob.lst ds, Ob.lst []])[l]? = some (.lst ds) := by simpa using g1
    have hr' := hr
    simp only [List.append_assoc, List.cons_append, List.nil_append] at hr'
    simp [F__law_wv_mixed, mkF, startE, fList_lst hl, fLen_lst g2, LIM_val, rngD_nat, r1, r2, hr']
@[simp] theorem big_e60 : bigOk 1000000000000000000000000000000000000000000000000000000000000 = true := bigOk_small 256 (by decide) (by decide) (by decide)
@[simp] theorem pow60 : (10 : Int) ^ 60 = 1000000000000000000000000000000000000000000000000000000000000 := by decide
@[simp] theorem pow12 : (10 : Int) ^ 12 = 1000000000000 := by decide
theorem pool_ok {x : D} {S : Store} {ns : List Int} (hz : ns.length ≤ 1000000) (hl : fLen x S = .ok (.int ns.length) S) (hx : ∀ (i : Nat) (z : Int), ns[i]? = some z → oIx x (.int (i : Int)) S = .ok (.int z) S) :
    ∃ (p : Nat) (S' : Store), F__law_wv_pool [x] S = .ok (.ref p) S' ∧ Pool p S' ∧ Keep [] S S' ∧ S.length ≤ p := by
  obtain ⟨s', S', hr, h'⟩ := forL_run (c := []) (g := .nm 3) (b := (sSeq (sSet 4 (eOp oMax (eOp oIx (eV 0) (eV 3)) (eOp oSub (eUn uNeg (eC (.int 1))) (eOp oIx (eV 0) (eV 3)))))
    (sSeq (sSet 2 (eOp oMod (eOp oAdd (eOp oAdd (eOp oMul (eV 2) (eC (.int 48271))) (eOp oMod (eV 4) (eC (.int 2147483629)))) (eC (.int 11))) (eC (.int 2147483647))))
    (sSet 1 (eIf (tAnd (tE (eOp oGe (eV 4) (eOp oPow (eC (.int 10)) (eC (.int 12))))) (tE (eOp oLt (eV 1) (eOp oPow (eC (.int 10)) (eC (.int 60)))))) (eOp oAdd (eOp oMul (eV 1) (eOp oPow (eC (.int 10)) (eC (.int 60)))) (eOp oMod (eV 4) (eOp oPow (eC (.int 10)) (eC (.int 60))))) (eV 1))))))
    (fun rest s T => ∃ (i : Nat) (dg st : Int) (y z : Option D), rest = ((List.range ns.length).drop i).map (fun (j : Nat) => D.int (j : Int)) ∧ s = [some x, some (.int dg), some (.int st), y, z] ∧ T = S ∧ PoolI dg st)
    (fun _ _ _ _ => rfl) (by
      rintro d rest s T ⟨i, dg, st, y, z, hd, rfl, rfl, I⟩
      have hi : i < ns.length := by
        refine Decidable.byContradiction fun q => ?_
        rw [List.drop_of_length_le (by simp; omega)] at hd
        simp at hd
      have hdr : (List.range ns.length).drop i = i :: (List.range ns.length).drop (i + 1) := by
        rw [List.drop_eq_getElem_cons (by simpa using hi)]; simp
      rw [hdr, List.map_cons, List.cons.injEq] at hd
      obtain ⟨rfl, rfl⟩ := hd
      have hxi := hx i ns[i] (List.getElem?_eq_getElem hi)
      have i0 := I.d0; have i1 := I.s0; have i2 := I.s1
      have b1 := big31 i1 i2
      have m1 : ∀ a : Int, 0 ≤ a % 2147483647 := fun a => Int.emod_nonneg _ (by decide)
      have m2 : ∀ a : Int, a % 2147483647 < 2147483647 := fun a => Int.emod_lt_of_pos _ (by decide)
      generalize hc : (if -1 - ns[i] > ns[i] then -1 - ns[i] else ns[i]) = c
      have hc' : (if ns[i] < -1 - ns[i] then -1 - ns[i] else ns[i]) = c := hc
      by_cases hb : 1000000000000 ≤ c ∧ dg < 1000000000000000000000000000000000000000000000000000000000000
      · have bd : bigOk dg = true := bigOk_small 256 (by decide) (by decide) (by
          have h1 : dg.natAbs < 1000000000000000000000000000000000000000000000000000000000000 := by have := hb.2; omega
          exact Nat.lt_trans h1 (by decide))
        have m3 : 0 ≤ c % 1000000000000000000000000000000000000000000000000000000000000 := Int.emod_nonneg _ (by decide)
        refine ⟨_, _, _, rfl, .inl (?_ : _ = Rs.nx [some x, some (.int (dg * 1000000000000000000000000000000000000000000000000000000000000 + c % 1000000000000000000000000000000000000000000000000000000000000)), some (.int ((st * 48271 + c % 2147483629 + 11) % 2147483647)), some (.int (i : Int)), some (.int c)] T), i + 1, _, _, _, _, rfl, rfl, rfl, ⟨by omega, m1 _, m2 _⟩⟩
        simp [hxi, hc', b1, hb.1, hb.2, bd]
      · refine ⟨_, _, _, rfl, .inl (?_ : _ = Rs.nx [some x, some (.int dg), some (.int ((st * 48271 + c % 2147483629 + 11) % 2147483647)), some (.int (i : Int)), some (.int c)] T), i + 1, dg, _, _, _, rfl, rfl, rfl, ⟨i0, m1 _, m2 _⟩⟩
        by_cases h1 : 1000000000000 ≤ c
        · have h2 : ¬ dg < 1000000000000000000000000000000000000000000000000000000000000 := fun q => hb ⟨h1, q⟩
          simp [hxi, hc', b1, h1, h2]
        · simp [hxi, hc', b1, h1]) ((List.range ns.length).map fun (i : Nat) => D.int (i : Int)) [some x, some (.int 0), some (.int 7), none, none] S
    ⟨0, 0, 7, none, none, by simp, rfl, rfl, ⟨by decide, by decide, by decide⟩⟩
  obtain ⟨i, dg, st, y, z, _, rfl, rfl, I⟩ := h'
  refine ⟨S'.length, S' ++ [.lst [.int dg, .int st]], ?_, ⟨dg, st, get_last _ _, I⟩, Keep.push _ _ _, Nat.le_refl _⟩
  have r1 : -(4611686018427387904 : Int) ≤ (ns.length : Int) := by omega
  have r2 : (ns.length : Int) ≤ 16777216 := by omega
  simp [F__law_wv_pool, mkF, startE, LIM_val, hl, rngD_nat, r1, r2, hr]
end WkL

set_option Elab.async false
set_option linter.all false
set_option maxRecDepth 100000
set_option autoImplicit false
/-! PvSchema: the drawn schemas. -/
namespace WkL
open PySem (Str)
open Wk
structure Sch where
  h : Nat
  k : Nat
  fs : List (Nat × Nat)
def fD (f : Nat × Nat) : D := .tup [.int (f.1 : Int), .int (f.2 : Int)]
def Sch.d (c : Sch) : D := .tup [.int (c.h : Int), .int (c.k : Int), .tup (c.fs.map fD)]
structure Sch.Ok (c : Sch) : Prop where
  h1 : 1 ≤ c.h
  h6 : c.h ≤ 6
  hk : c.h ≤ c.k
  k24 : c.k ≤ 24
  f40 : c.fs.length ≤ 40
  fs : ∀ f ∈ c.fs, f.1 < c.k ∧ c.h ≤ f.2 ∧ f.2 < c.k
theorem fD_list {P : Nat × Nat → Prop} : ∀ {es : List D}, (∀ e ∈ es, ∃ f, P f ∧ e = fD f) → ∃ fs : List (Nat × Nat), es = fs.map fD ∧ ∀ f ∈ fs, P f
  | [], _ => ⟨[], rfl, by simp⟩
  | e :: es, h => by
    obtain ⟨f, hf, rfl⟩ := h e List.mem_cons_self
    obtain ⟨fs, rfl, h2⟩ := fD_list (es := es) fun x hx => h x (List.mem_cons_of_mem _ hx)
    exact ⟨f :: fs, rfl, fun g hg => (List.mem_cons.mp hg).elim (fun q => q ▸ hf) (h2 g)⟩
theorem keep2 {p a b : Nat} {S T : Store} (h : Keep [p] S T) (ha : S.length ≤ a) (hb : S.length ≤ b) (o u : Ob) : Keep [p] S ((T.set a o).set b u) :=
  h.new (Y := [a, b]) ((Keep.set _ (.inl (by simp))).trans (Keep.set _ (.inl (by simp)))) (by intro i hi; simp at hi; omega)
theorem keep1 {p a : Nat} {S T : Store} (h : Keep [p] S T) (ha : S.length ≤ a) (o : Ob) : Keep [p] S (T.set a o) :=
  h.new (Y := [a]) (Keep.set _ (.inl (by simp))) (by intro i hi; simp at hi; omega)
theorem Pool.set {p a : Nat} {T : Store} {o : Ob} (h : Pool p T) (n : a ≠ p) : Pool p (T.set a o) := h.keep (X := [a]) (Keep.set _ (.inl (by simp))) (by simp; omega)
theorem Pool.push {p : Nat} {T X : Store} (h : Pool p T) : Pool p (T ++ X) := h.keep (Keep.push T X []) (by simp)
theorem Pool.lt {p : Nat} {T : Store} (h : Pool p T) : p < T.length := by obtain ⟨_, _, e, _⟩ := h; exact lt_of_get e
def isNat (n : Nat) (d : D) : Prop := ∃ a : Nat, a < n ∧ d = .int (a : Int)
theorem isNat_flat {n : Nat} {ds : List D} (h : ∀ d ∈ ds, isNat n d) : ds.all flatD = true := by
  rw [List.all_eq_true]
  intro d hd
  obtain ⟨a, _, rfl⟩ := h d hd
  rfl
/-- the loop that draws the fields -/
theorem fields_loop {p m f hh kk : Nat} {S : Store} (h1 : 1 ≤ hh) (hk : hh < kk) (k24 : kk ≤ 24) (hm : S.length ≤ m) (hf : S.length ≤ f) (hmf : m ≠ f) (hp : p < S.length) :
    ∀ (ds : List D) (s : Env) (T : Store), ds.length ≤ 100 →
      (∃ (met fd : List D) (x y z : Option D), s = [some (.ref p), some (.int (hh : Int)), some (.int (kk : Int)), some (.ref m), some (.ref f), x, y, z] ∧ T[m]? = some (.lst met) ∧ T[f]? = some (.lst fd) ∧ 0 < met.length ∧ met.length + ds.length ≤ 200 ∧ (∀ d ∈ met, isNat kk d) ∧
        (∀ d ∈ fd, ∃ q : Nat × Nat, (q.1 < kk ∧ hh ≤ q.2 ∧ q.2 < kk) ∧ d = fD q) ∧ fd.length + ds.length ≤ 40 ∧ Keep [p] S T ∧ Pool p T) →
      ∃ s' T', forL [] (.nm 5) (sSeq (sSet 6 (eIf (tE (eOp oGt (eCall F__law_wv_take (aCons (eV 0) (aCons (eC (.int 5)) aNil))) (eC (.int 0)))) (eCall F__law_wv_one (aCons (eV 0) (aCons (eV 3) aNil))) (eCall F__law_wv_take (aCons (eV 0) (aCons (eV 2) aNil)))))
    (sSeq (sSet 7 (eOp oAdd (eV 1) (eCall F__law_wv_take (aCons (eV 0) (aCons (eOp oSub (eV 2) (eV 1)) aNil)))))
    (sSeq (sExpr (eBM oAppend (eV 4) (eTup (aCons (eV 6) (aCons (eV 7) aNil)))))
    (sExpr (eBM oExtend (eV 3) (eIf (tE (eOp oInS (eV 6) (eV 3))) (eLst (aCons (eV 7) aNil)) (eLst aNil))))))) ds s T = .nx s' T' ∧
      ∃ (fd : List D) (x y z : Option D), s' = [some (.ref p), some (.int (hh : Int)), some (.int (kk : Int)), some (.ref m), some (.ref f), x, y, z] ∧ T'[f]? = some (.lst fd) ∧ (∀ d ∈ fd, ∃ q : Nat × Nat, (q.1 < kk ∧ hh ≤ q.2 ∧ q.2 < kk) ∧ d = fD q) ∧ fd.length ≤ 40 ∧ Keep [p] S T' ∧ Pool p T' := by
  intro ds s T hz h
  obtain ⟨s', T', e, h'⟩ := forL_run (c := []) (g := .nm 5) (b := (sSeq (sSet 6 (eIf (tE (eOp oGt (eCall F__law_wv_take (aCons (eV 0) (aCons (eC (.int 5)) aNil))) (eC (.int 0)))) (eCall F__law_wv_one (aCons (eV 0) (aCons (eV 3) aNil))) (eCall F__law_wv_take (aCons (eV 0) (aCons (eV 2) aNil)))))
    (sSeq (sSet 7 (eOp oAdd (eV 1) (eCall F__law_wv_take (aCons (eV 0) (aCons (eOp oSub (eV 2) (eV 1)) aNil)))))
    (sSeq (sExpr (eBM oAppend (eV 4) (eTup (aCons (eV 6) (aCons (eV 7) aNil)))))
    (sExpr (eBM oExtend (eV 3) (eIf (tE (eOp oInS (eV 6) (eV 3))) (eLst (aCons (eV 7) aNil)) (eLst aNil))))))))
    (fun ds s T => ∃ (met fd : List D) (x y z : Option D), s = [some (.ref p), some (.int (hh : Int)), some (.int (kk : Int)), some (.ref m), some (.ref f), x, y, z] ∧ T[m]? = some (.lst met) ∧ T[f]? = some (.lst fd) ∧ 0 < met.length ∧ met.length + ds.length ≤ 200 ∧ (∀ d ∈ met, isNat kk d) ∧
        (∀ d ∈ fd, ∃ q : Nat × Nat, (q.1 < kk ∧ hh ≤ q.2 ∧ q.2 < kk) ∧ d = fD q) ∧ fd.length + ds.length ≤ 40 ∧ Keep [p] S T ∧ Pool p T) (fun _ _ _ _ => rfl) (by
      rintro d rest s T ⟨met, fd, x, y, z, rfl, em, ef, hm0, hml, hmet, hfd, hfl, kST, hP⟩
      simp only [List.length_cons] at hml hfl
      have nm : m ≠ p := by omega
      have nf : f ≠ p := by omega
      obtain ⟨k5, T1, e1, k50, k51, K1, P1, L1⟩ := take_ok (many := 5) hP (by decide) (by decide)
      have em1 := K1.get em (by simpa using nm)
      have ef1 := K1.get ef (by simpa using nf)
      -- the holder
      have hold : ∃ (a : Nat) (T2 : Store), a < kk ∧ (if 0 < k5 then F__law_wv_one [.ref p, .ref m] T1 else F__law_wv_take [.ref p, .int (kk : Int)] T1) = .ok (.int (a : Int)) T2 ∧ Keep [p] T1 T2 ∧ Pool p T2 := by
        by_cases hk5 : 0 < k5
        · rw [if_pos hk5]
          obtain ⟨d, T2, e2, hd, K2, P2, _⟩ := one_ok P1 em1 nm hm0 (by omega)
          obtain ⟨a, ha, rfl⟩ := hmet d hd
          exact ⟨a, T2, ha, e2, K2, P2⟩
        · rw [if_neg hk5]
          obtain ⟨a, T2, e2, a0, a1, K2, P2, _⟩ := take_ok (many := (kk : Int)) P1 (by omega) (by omega)
          obtain ⟨a, rfl⟩ := Int.eq_ofNat_of_zero_le a0
          exact ⟨a, T2, by omega, e2, K2, P2⟩
      obtain ⟨a, T2, ha, e2, K2, P2⟩ := hold
      have em2 := K2.get em1 (by simpa using nm)
      have ef2 := K2.get ef1 (by simpa using nf)
      obtain ⟨b, T3, e3, b0, b1, K3, P3, L3⟩ := take_ok (many := (kk : Int) - (hh : Int)) P2 (by omega) (by omega)
      obtain ⟨b, rfl⟩ := Int.eq_ofNat_of_zero_le b0
      have em3 := K3.get em2 (by simpa using nm)
      have ef3 := K3.get ef2 (by simpa using nf)
      have K := ((kST.trans K1).trans K2).trans K3
      have il := isLst_lst ef3
      have ap := oAppend_lst (y := .tup [.int (a : Int), .int ((hh : Int) + (b : Int))]) ef3 (by rw [LIM_val]; omega)
      generalize hT4 : T3.set f (.lst (fd ++ [.tup [.int (a : Int), .int ((hh : Int) + (b : Int))]])) = T4 at ap
      have em4 : T4[m]? = some (.lst met) := by rw [← hT4, List.getElem?_set_ne (Ne.symm hmf)]; exact em3
      have ef4 : T4[f]? = some (.lst (fd ++ [.tup [.int (a : Int), .int ((hh : Int) + (b : Int))]])) := by rw [← hT4]; exact get_set_self ef3
      have K4 : Keep [p] S T4 := by rw [← hT4]; exact keep1 K hf _
      have P4 : Pool p T4 := by rw [← hT4]; exact P3.set nf
      have il4 := isLst_lst em4
      have inS : oInS (.int (a : Int)) (.ref m) T4 = .ok (.bl (inF (.int (a : Int)) met)) T4 := by
        unfold oInS oInL; dsimp only; rw [em4]; dsimp only; rw [isNat_flat hmet]; rfl
      have hfd' : ∀ d ∈ fd ++ [D.tup [.int (a : Int), .int ((hh : Int) + (b : Int))]], ∃ q : Nat × Nat, (q.1 < kk ∧ hh ≤ q.2 ∧ q.2 < kk) ∧ d = fD q := by
        intro d hd
        rcases List.mem_append.mp hd with q | q
        · exact hfd d q
        · have : d = .tup [.int (a : Int), .int ((hh : Int) + (b : Int))] := by simpa using q
          subst this
          exact ⟨(a, hh + b), ⟨ha, by show hh ≤ hh + b; omega, by show hh + b < kk; omega⟩, by simp [fD]⟩
      have l4 := lt_of_get em4
      have lf4 := lt_of_get ef4
      cases hin : inF (.int (a : Int)) met with
      | true =>
        have g4 : (T4 ++ [Ob.lst [.int ((hh : Int) + (b : Int))]])[m]? = some (.lst met) := by rw [List.getElem?_append_left l4]; exact em4
        have ex := oExtend_lst g4 (get_last T4 _) (by simp [LIM_val]; omega)
        refine ⟨_, _, _, rfl, .inl (?_ : _ = Rs.nx [some (.ref p), some (.int (hh : Int)), some (.int (kk : Int)), some (.ref m), some (.ref f), some d, some (.int (a : Int)), some (.int ((hh : Int) + (b : Int)))] ((T4 ++ [Ob.lst [.int ((hh : Int) + (b : Int))]]).set m (.lst (met ++ [.int ((hh : Int) + (b : Int))])))),
          met ++ [.int ((hh : Int) + (b : Int))], _, _, _, _, rfl, get_set_self g4, ?_, ?_, ?_, ?_, hfd', ?_, ?_, ?_⟩
        · simp [e1, e2, e3, il, ap, LIM_val, il4, inS, hin, ex]
        · rw [List.getElem?_set_ne hmf, List.getElem?_append_left lf4]; exact ef4
        · simp
        · simp; omega
        · intro d hd
          rcases List.mem_append.mp hd with q | q
          · exact hmet d q
          · have : d = .int ((hh : Int) + (b : Int)) := by simpa using q
            subst this
            exact ⟨hh + b, by omega, by simp⟩
        · simp; omega
        · exact keep1 (K4.trans (Keep.push T4 _ _)) hm _
        · exact (P4.push).set nm
      | false =>
        have g4 : (T4 ++ [Ob.lst []])[m]? = some (.lst met) := by rw [List.getElem?_append_left l4]; exact em4
        have ex := oExtend_lst g4 (get_last T4 (.lst [])) (by simp [LIM_val]; omega)
        refine ⟨_, _, _, rfl, .inl (?_ : _ = Rs.nx [some (.ref p), some (.int (hh : Int)), some (.int (kk : Int)), some (.ref m), some (.ref f), some d, some (.int (a : Int)), some (.int ((hh : Int) + (b : Int)))] ((T4 ++ [Ob.lst []]).set m (.lst (met ++ [])))),
          met ++ [], _, _, _, _, rfl, get_set_self g4, ?_, ?_, ?_, ?_, hfd', ?_, ?_, ?_⟩
        · simp [e1, e2, e3, il, ap, LIM_val, il4, inS, hin] at ex ⊢
          rw [ex]; rfl
        · rw [List.getElem?_set_ne hmf, List.getElem?_append_left lf4]; exact ef4
        · simpa using hm0
        · simp; omega
        · simpa using hmet
        · simp; omega
        · exact keep1 (K4.trans (Keep.push T4 _ _)) hm _
        · exact (P4.push).set nm) ds s T h
  obtain ⟨met, fd, x, y, z, rfl, _, ef, _, _, _, hfd, hl, hK, hP⟩ := h'
  exact ⟨_, T', e, fd, x, y, z, rfl, ef, hfd, by simpa using hl, hK, hP⟩
@[simp] theorem log2_3 : Nat.log2 3 = 1 := by decide
theorem rng_isNat {n m : Nat} (h : n ≤ m) : ∀ d ∈ rngD 0 (n : Int), isNat m d := by
  intro d hd
  rw [rngD_nat] at hd
  obtain ⟨i, hi, rfl⟩ := List.mem_map.mp hd
  exact ⟨i, by have := List.mem_range.mp hi; omega, rfl⟩
theorem rngD_len (n : Nat) : (rngD 0 (n : Int)).length = n := by rw [rngD_nat]; simp
theorem perm_fD {P : Nat × Nat → Prop} {es fd : List D} (h : es.Perm fd) (hf : ∀ d ∈ fd, ∃ q, P q ∧ d = fD q) : ∃ fs : List (Nat × Nat), es = fs.map fD ∧ (∀ f ∈ fs, P f) ∧ fs.length = fd.length := by
  obtain ⟨fs, e, h2⟩ := fD_list (P := P) (es := es) fun e he => hf e (h.mem_iff.mp he)
  exact ⟨fs, e, h2, by rw [← h.length_eq, e, List.length_map]⟩
theorem schema_ok {p : Nat} {S : Store} (h : Pool p S) : ∃ (c : Sch) (S' : Store), F__law_wv_schema [.ref p] S = .ok c.d S' ∧ c.Ok ∧ Keep [p] S S' ∧ Pool p S' := by
  have hp := h.lt
  obtain ⟨k1, T1, e1, a0, a1, K1, P1, L1⟩ := take_ok (many := 4) h (by decide) (by decide)
  obtain ⟨k2, T2, e2, b0, b1, K2, P2, L2⟩ := take_ok (many := 4) P1 (by decide) (by decide)
  obtain ⟨hh, hhe⟩ := Int.eq_ofNat_of_zero_le (show 0 ≤ 1 + k1 / 3 by omega)
  obtain ⟨kk, kke⟩ := Int.eq_ofNat_of_zero_le (show 0 ≤ 1 + k1 / 3 + 1 + k2 by omega)
  have h1 : 1 ≤ hh := by omega
  have h2 : hh ≤ 2 := by omega
  have hk : hh < kk := by omega
  have k6 : kk ≤ 6 := by omega
  -- met, found, the list of how many
  generalize hl : ([.int 1, .int 2, .int 2, .int 3, .int 3, .int 4, .int 4, .int 5, .int 5, .int 6, .int 7, .int 0] : List D) = L
  have hLl : L.length = 12 := by rw [← hl]; rfl
  have hL : ∀ d ∈ L, isNat 8 d := by
    rw [← hl]
    intro d hd
    simp only [List.mem_cons, List.not_mem_nil, or_false] at hd
    rcases hd with rfl | rfl | rfl | rfl | rfl | rfl | rfl | rfl | rfl | rfl | rfl | rfl
    · exact ⟨1, by decide, rfl⟩
    · exact ⟨2, by decide, rfl⟩
    · exact ⟨2, by decide, rfl⟩
    · exact ⟨3, by decide, rfl⟩
    · exact ⟨3, by decide, rfl⟩
    · exact ⟨4, by decide, rfl⟩
    · exact ⟨4, by decide, rfl⟩
    · exact ⟨5, by decide, rfl⟩
    · exact ⟨5, by decide, rfl⟩
    · exact ⟨6, by decide, rfl⟩
    · exact ⟨7, by decide, rfl⟩
    · exact ⟨0, by decide, rfl⟩
  generalize hT3 : T2 ++ [Ob.lst (rngD 0 (hh : Int)), Ob.lst [], Ob.lst L] = T3
  have K3 : Keep [p] S T3 := by rw [← hT3]; exact (K1.trans K2).trans (Keep.push _ _ _)
  have P3 : Pool p T3 := by rw [← hT3]; exact P2.push
  have g0 : T3[T2.length]? = some (.lst (rngD 0 (hh : Int))) := by rw [← hT3]; simp
  have g1 : T3[T2.length + 1]? = some (.lst []) := by rw [← hT3]; simp
  have g2 : T3[T2.length + 2]? = some (.lst L) := by rw [← hT3]; simp
  have z1 : S.length ≤ T2.length := (K1.trans K2).1
  obtain ⟨d, T4, e4, hd, K4, P4, L4⟩ := one_ok P3 g2 (by omega) (by omega) (by omega)
  obtain ⟨n, hn, rfl⟩ := hL d hd
  have g0' := K4.get g0 (by simp; omega)
  have g1' := K4.get g1 (by simp; omega)
  obtain ⟨s', T5, e5, fd, x, y, z, rfl, ef, hfd, hfl, K5, P5⟩ := fields_loop (S := S) h1 hk (by omega) z1 (by omega) (by omega) hp ((List.range n).map fun (i : Nat) => D.int (i : Int)) [some (.ref p), some (.int (hh : Int)), some (.int (kk : Int)), some (.ref T2.length), some (.ref (T2.length + 1)), none, none, none] T4 (by simp; omega)
    ⟨rngD 0 (hh : Int), [], none, none, none, rfl, g0', g1', by rw [rngD_len]; omega, by rw [rngD_len]; simp; omega, rng_isNat (by omega), by simp, by simp; omega, K3.trans K4, P4⟩
  rw [← rngD_nat] at e5
  have kke' : (hh : Int) + 1 + k2 = (kk : Int) := by omega
  obtain ⟨m, es, T6, e6, em, hpm, K6, P6, _⟩ := mixed_ok P5 ef (by omega) (by omega)
  obtain ⟨fs, rfl, hfs, hfsl⟩ := perm_fD hpm hfd
  refine ⟨⟨hh, kk, fs⟩, T6, ?_, ⟨h1, by show hh ≤ 6; omega, by show hh ≤ kk; omega, by show kk ≤ 24; omega, by show fs.length ≤ 40; omega, hfs⟩, K5.trans K6, P6⟩
  have hT3' : T2 ++ [Ob.lst (rngD 0 (hh : Int))] ++ [Ob.lst []] ++ [Ob.lst L] = T3 := by rw [← hT3]; simp
  have r1 : -(4611686018427387904 : Int) ≤ (hh : Int) := by omega
  have r2 : (hh : Int) ≤ 16777216 := by omega
  have r3 : -(4611686018427387904 : Int) ≤ (n : Int) := by omega
  have r4 : (n : Int) ≤ 16777216 := by omega
  simp [F__law_wv_schema, mkF, startE, e1, e2, hhe, kke', LIM_val, r1, r2, hl, hLl, hT3, e4, r3, r4, e5, e6, fTuple_lst em, Sch.d]
/-- pairs drawn in a comprehension -/
theorem drawn_pairs {p hh : Nat} {many : FE} {m : Int} {S : Store} {x y : Option D} (h1 : 1 ≤ hh) (h6 : hh ≤ 6) (m0 : 0 < m) (m24 : m ≤ 24) (hmany : ∀ (z : Option D) (T : Store), many [some (.ref p), some (.int (hh : Int)), x, z] T = .ok (.int m) T) (n : Nat) (T : Store) (hk : Keep [p] S T) (hP : Pool p T) :
    ∃ ys T', compL [] (.nm 3) tTrue (eTup (aCons (eCall F__law_wv_take (aCons (eV 0) (aCons many aNil))) (aCons (eOp oAdd (eV 1) (eCall F__law_wv_take (aCons (eV 0) (aCons (eOp oSub (eC (.int 24)) (eV 1)) aNil)))) aNil))) [some (.ref p), some (.int (hh : Int)), x, y] (rngD 0 (n : Int)) T = .ok ys T' ∧
      (∀ d ∈ ys, ∃ q : Nat × Nat, (q.1 < 24 ∧ hh ≤ q.2 ∧ q.2 < 24) ∧ d = fD q) ∧ ys.length = n ∧ Keep [p] S T' ∧ Pool p T' := by
  obtain ⟨ys, T', e, h⟩ := compL_run (c := []) (g := .nm 3) (t := tTrue) (e := eTup (aCons (eCall F__law_wv_take (aCons (eV 0) (aCons many aNil))) (aCons (eOp oAdd (eV 1) (eCall F__law_wv_take (aCons (eV 0) (aCons (eOp oSub (eC (.int 24)) (eV 1)) aNil)))) aNil))) (sw := [some (.ref p), some (.int (hh : Int)), x, y])
    (fun ds acc T => (∀ d ∈ acc, ∃ q : Nat × Nat, (q.1 < 24 ∧ hh ≤ q.2 ∧ q.2 < 24) ∧ d = fD q) ∧ acc.length + ds.length = n ∧ Keep [p] S T ∧ Pool p T) (fun _ _ _ _ => rfl) (by
      rintro d ds acc T ⟨i1, i2, i3, i4⟩
      obtain ⟨a, T1, e1, a0, a1, K1, P1, L1⟩ := take_ok (many := m) i4 m0 (by omega)
      obtain ⟨b, T2, e2, b0, b1, K2, P2, L2⟩ := take_ok (many := 24 - (hh : Int)) P1 (by omega) (by omega)
      obtain ⟨a, rfl⟩ := Int.eq_ofNat_of_zero_le a0
      obtain ⟨b, rfl⟩ := Int.eq_ofNat_of_zero_le b0
      refine ⟨_, T, rfl, .inr ⟨.tup [.int (a : Int), .int ((hh : Int) + (b : Int))], T2, rfl, by simp [hmany, e1, e2, LIM_val], ?_, ?_, (i3.trans K1).trans K2, P2⟩⟩
      · intro z hz
        rcases List.mem_append.mp hz with q | q
        · exact i1 z q
        · have : z = .tup [.int (a : Int), .int ((hh : Int) + (b : Int))] := by simpa using q
          subst this
          exact ⟨(a, hh + b), ⟨by show a < 24; omega, by show hh ≤ hh + b; omega, by show hh + b < 24; omega⟩, by simp [fD]⟩
      · simp at i2 ⊢; omega) (rngD 0 (n : Int)) [] T ⟨by simp, by rw [rngD_len]; simp, hk, hP⟩
  obtain ⟨i1, i2, i3, i4⟩ := h
  exact ⟨ys, T', e, by simpa using i1, by simpa using i2, i3, i4⟩
theorem great_ok {p : Nat} {S : Store} (h : Pool p S) : ∃ (c : Sch) (S' : Store), F__law_wv_great_schema [.ref p] S = .ok c.d S' ∧ c.Ok ∧ Keep [p] S S' ∧ Pool p S' := by
  have hp := h.lt
  obtain ⟨k1, T1, e1, a0, a1, K1, P1, L1⟩ := take_ok (many := 6) h (by decide) (by decide)
  obtain ⟨hh, hhe⟩ := Int.eq_ofNat_of_zero_le (show 0 ≤ 1 + k1 by omega)
  have h1 : 1 ≤ hh := by omega
  have h6 : hh ≤ 6 := by omega
  obtain ⟨ys, T2, e2, y1, y2, K2, P2⟩ := drawn_pairs (p := p) (hh := hh) (many := eV 1) (m := (hh : Int)) (x := none) (y := none) h1 h6 (by omega) (by omega) (fun _ _ => rfl) 8 T1 K1 P1
  have z2 := K2.1
  have K3 : Keep [p] S (T2 ++ [.lst ys]) := K2.trans (Keep.push _ _ _)
  obtain ⟨zs, T4, e4, w1, w2, K4, P4⟩ := drawn_pairs (p := p) (hh := hh) (many := eC (.int 24)) (m := 24) (x := some (.ref T2.length)) (y := none) h1 h6 (by decide) (by decide) (fun _ _ => rfl) 32 (T2 ++ [.lst ys]) K3 P2.push
  have e4' := e4
  have k4 : Keep [p] (T2 ++ [.lst ys]) T4 := by
    obtain ⟨zs', T4', e4'', _, _, K4', _⟩ := drawn_pairs (S := T2 ++ [.lst ys]) (p := p) (hh := hh) (many := eC (.int 24)) (m := 24) (x := some (.ref T2.length)) (y := none) h1 h6 (by decide) (by decide) (fun _ _ => rfl) 32 (T2 ++ [.lst ys]) (Keep.refl _ _) P2.push
    rw [e4] at e4''
    cases e4''
    exact K4'
  have np : T2.length ≠ p := by omega
  have g0 : (T2 ++ [.lst ys])[T2.length]? = some (.lst ys) := get_last _ _
  have g4 := k4.get g0 (by simpa using np)
  have l4 := lt_of_get g4
  have g5 : (T4 ++ [.lst zs])[T2.length]? = some (.lst ys) := by rw [List.getElem?_append_left l4]; exact g4
  have ex := oExtend_lst g5 (get_last T4 (.lst zs)) (by rw [LIM_val]; omega)
  generalize hT5 : (T4 ++ [Ob.lst zs]).set T2.length (Ob.lst (ys ++ zs)) = T5 at ex
  have g6 : T5[T2.length]? = some (.lst (ys ++ zs)) := by rw [← hT5]; exact get_set_self g5
  have K5 : Keep [p] S T5 := by rw [← hT5]; exact keep1 (K4.trans (Keep.push _ _ _)) z2 _
  have P5 : Pool p T5 := by rw [← hT5]; exact P4.push.set np
  obtain ⟨m, es, T6, e6, em, hpm, K6, P6, _⟩ := mixed_ok P5 g6 np (by simp; omega)
  obtain ⟨fs, rfl, hfs, hfsl⟩ := perm_fD (P := fun q => q.1 < 24 ∧ hh ≤ q.2 ∧ q.2 < 24) hpm (by
    intro d hd
    rcases List.mem_append.mp hd with q | q
    · exact y1 d q
    · exact w1 d q)
  rw [List.length_append] at hfsl
  refine ⟨⟨hh, 24, fs⟩, T6, ?_, ⟨h1, h6, by show hh ≤ 24; omega, Nat.le_refl _, by show fs.length ≤ 40; omega, hfs⟩, K5.trans K6, P6⟩
  have i0 := isLst_lst g0
  have e2' : compL [] (.nm 3) tTrue (eTup (aCons (eCall F__law_wv_take (aCons (eV 0) (aCons (eV 1) aNil))) (aCons (eOp oAdd (eV 1) (eCall F__law_wv_take (aCons (eV 0) (aCons (eOp oSub (eC (.int 24)) (eV 1)) aNil)))) aNil))) [some (.ref p), some (.int (hh : Int)), none, none] (rngD 0 8) T1 = .ok ys T2 := e2
  have e4'' : compL [] (.nm 3) tTrue (eTup (aCons (eCall F__law_wv_take (aCons (eV 0) (aCons (eC (.int 24)) aNil))) (aCons (eOp oAdd (eV 1) (eCall F__law_wv_take (aCons (eV 0) (aCons (eOp oSub (eC (.int 24)) (eV 1)) aNil)))) aNil))) [some (.ref p), some (.int (hh : Int)), some (.ref T2.length), none] (rngD 0 32) (T2 ++ [.lst ys]) = .ok zs T4 := e4
  simp [F__law_wv_great_schema, mkF, startE, e1, hhe, LIM_val, e2', e4'', i0, ex, e6, fTuple_lst em, Sch.d]
end WkL


set_option Elab.async false
set_option linter.all false
set_option maxRecDepth 100000
set_option maxHeartbeats 1000000
set_option autoImplicit false
/-! PvSame: _law_same tells True of equal data. -/
namespace WkL
open PySem (Str)
open Wk
/-- equal data, lists by the store, to a depth -/
def SameN (S : Store) : Nat → D → D → Prop
  | _, .non, .non => True
  | _, .bl a, .bl b => a = b
  | _, .int a, .int b => a = b
  | _, .str a, .str b => a = b
  | n + 1, .tup xs, .tup ys => xs.length = ys.length ∧ xs.length ≤ 1000000 ∧ ∀ (i : Nat) (a b : D), xs[i]? = some a → ys[i]? = some b → SameN S n a b
  | n + 1, .ref l, .ref m => ∃ xs ys, S[l]? = some (.lst xs) ∧ S[m]? = some (.lst ys) ∧ xs.length = ys.length ∧ xs.length ≤ 1000000 ∧ ∀ (i : Nat) (a b : D), xs[i]? = some a → ys[i]? = some b → SameN S n a b
  | _, _, _ => False
@[simp] theorem oIsB_bl (a b : Bool) (S : Store) : oIsB (.bl a) (.bl b) S = .ok (.bl (decide (a = b))) S := rfl
@[simp] theorem oEq_bl (a b : Bool) (S : Store) : oEq (.bl a) (.bl b) S = .ok (.bl (a == b)) S := rfl
@[simp] theorem oEq_str (a b : Str) (S : Store) : oEq (.str a) (.str b) S = .ok (.bl (a == b)) S := rfl
@[simp] theorem is_whole_int (i : Int) (S : Store) : F__law_is_whole [.int i] S = .ok (.bl true) S := by simp [F__law_is_whole, mkF, startE, isTy]
/-- the loop over the items -/
theorem same_loop {F : Fn} {x y : D} {xs ys : List D} {S : Store} {z : Option D} (hx : ∀ (i : Nat) (a : D), xs[i]? = some a → oIx x (.int (i : Int)) S = .ok a S) (hy : ∀ (i : Nat) (a : D), ys[i]? = some a → oIx y (.int (i : Int)) S = .ok a S) (hl : xs.length = ys.length)
    (h : ∀ (i : Nat) (a b : D), xs[i]? = some a → ys[i]? = some b → F [a, b] S = .ok (.bl true) S) :
    ∃ s' , forL [] (.nm 2) (sIf (Wk.tNot (tE (eCall F (aCons (eOp oIx (eV 0) (eV 2)) (aCons (eOp oIx (eV 1) (eV 2)) aNil))))) (sRet (eC (.bl false))) sSkip) (rngD 0 (ys.length : Int)) [some x, some y, z, none] S = .nx s' S := by
  obtain ⟨s', S', e, w, _, rfl⟩ := forL_run (c := []) (g := .nm 2) (b := sIf (Wk.tNot (tE (eCall F (aCons (eOp oIx (eV 0) (eV 2)) (aCons (eOp oIx (eV 1) (eV 2)) aNil))))) (sRet (eC (.bl false))) sSkip)
    (fun rest s T => (∃ (i : Nat) (w : Option D), rest = ((List.range ys.length).drop i).map (fun (j : Nat) => D.int (j : Int)) ∧ s = [some x, some y, w, none]) ∧ T = S) (fun _ _ _ _ => rfl) (by
      rintro d rest s T ⟨⟨i, w, hd, rfl⟩, rfl⟩
      have hi : i < ys.length := by
        refine Decidable.byContradiction fun q => ?_
        rw [List.drop_of_length_le (by simp; omega)] at hd
        simp at hd
      have hdr : (List.range ys.length).drop i = i :: (List.range ys.length).drop (i + 1) := by
        rw [List.drop_eq_getElem_cons (by simpa using hi)]; simp
      rw [hdr, List.map_cons, List.cons.injEq] at hd
      obtain ⟨rfl, rfl⟩ := hd
      have gx : xs[i]? = some xs[i] := List.getElem?_eq_getElem (by omega)
      have gy : ys[i]? = some ys[i] := List.getElem?_eq_getElem hi
      refine ⟨_, _, T, rfl, .inl (?_ : _ = Rs.nx [some x, some y, some (.int (i : Int)), none] T), ⟨i + 1, _, rfl, rfl⟩, rfl⟩
      simp [hx i _ gx, hy i _ gy, h i _ _ gx gy]) (rngD 0 (ys.length : Int)) [some x, some y, z, none] S ⟨⟨0, z, by rw [rngD_nat]; simp, rfl⟩, rfl⟩
  exact ⟨s', e⟩
theorem same_ok {S : Store} : ∀ (n m : Nat) (x y : D), n < m → SameN S n x y → R__law_same m [x, y] S = .ok (.bl true) S
  | n, 0, _, _, h, _ => absurd h (Nat.not_lt_zero _)
  | n, m + 1, x, y, hm, h => by
    cases x with
    | non => cases y <;> first | (cases n <;> exact (show False from h).elim) | skip
             simp [R__law_same, mkF, startE]
    | bl a => cases y <;> first | (cases n <;> exact (show False from h).elim) | skip
              rename_i b
              obtain rfl : a = b := by cases n <;> exact h
              cases a <;> simp [R__law_same, mkF, startE, isTy]
    | int a => cases y <;> first | (cases n <;> exact (show False from h).elim) | skip
               rename_i b
               obtain rfl : a = b := by cases n <;> exact h
               simp [R__law_same, mkF, startE, isTy]
    | str a => cases y <;> first | (cases n <;> exact (show False from h).elim) | skip
               rename_i b
               obtain rfl : a = b := by cases n <;> exact h
               simp [R__law_same, mkF, startE, isTy]
    | tup xs =>
      cases y <;> first | (cases n <;> exact (show False from h).elim) | skip
      rename_i ys
      cases n with
      | zero => exact (show False from h).elim
      | succ n =>
        obtain ⟨hl, hz, hs⟩ := h
        obtain ⟨s', e⟩ := same_loop (F := R__law_same m) (x := .tup xs) (y := .tup ys) (xs := xs) (ys := ys) (S := S) (z := none) (fun i a ha => by simp [ha]) (fun i a ha => by simp [ha]) hl fun i a b ha hb => same_ok n m a b (by omega) (hs i a b ha hb)
        have r1 : -(4611686018427387904 : Int) ≤ (ys.length : Int) := by omega
        have r2 : (ys.length : Int) ≤ 16777216 := by omega
        simp [R__law_same, mkF, startE, isTy, hl, r1, r2, e]
    | frz xs => cases y <;> cases n <;> exact (show False from h).elim
    | ref l =>
      cases y <;> first | (cases n <;> exact (show False from h).elim) | skip
      rename_i l2
      cases n with
      | zero => exact (show False from h).elim
      | succ n =>
        obtain ⟨xs, ys, g1, g2, hl, hz, hs⟩ := h
        obtain ⟨s', e⟩ := same_loop (F := R__law_same m) (x := .ref l) (y := .ref l2) (xs := xs) (ys := ys) (S := S) (z := none) (fun i a ha => by simp [ha, g1]) (fun i a ha => by simp [ha, g2]) hl fun i a b ha hb => same_ok n m a b (by omega) (hs i a b ha hb)
        have r1 : -(4611686018427387904 : Int) ≤ (ys.length : Int) := by omega
        have r2 : (ys.length : Int) ≤ 16777216 := by omega
        simp [R__law_same, mkF, startE, isTy, tyD_lst g1, tyD_lst g2, fLen_lst g1, fLen_lst g2, hl, r1, r2, e]
theorem same_true {S : Store} {x y : D} (n : Nat) (hn : n < 12) (h : SameN S n x y) : F__law_same [x, y] S = .ok (.bl true) S := same_ok n 12 x y hn h
/-- a thing is the same as itself, where its lists stand -/
def Plain : Nat → D → Prop
  | _, .non => True
  | _, .bl _ => True
  | _, .int _ => True
  | _, .str _ => True
  | n + 1, .tup xs => xs.length ≤ 1000000 ∧ ∀ x ∈ xs, Plain n x
  | _, _ => False
theorem same_refl {S : Store} : ∀ (n : Nat) (x : D), Plain n x → SameN S n x x
  | n, .non, _ => by cases n <;> exact True.intro
  | n, .bl _, _ => by cases n <;> exact rfl
  | n, .int _, _ => by cases n <;> exact rfl
  | n, .str _, _ => by cases n <;> exact rfl
  | 0, .tup xs, h => (show False from h).elim
  | n + 1, .tup xs, h => ⟨rfl, h.1, fun i a b ha hb => by
      rw [ha] at hb; cases hb
      exact same_refl n a (h.2 a (List.mem_of_getElem? ha))⟩
  | n, .frz xs, h => by cases n <;> exact (show False from h).elim
  | n, .ref l, h => by cases n <;> exact (show False from h).elim
end WkL


set_option Elab.async false
set_option linter.all false
set_option maxRecDepth 100000
set_option maxHeartbeats 1000000
set_option autoImplicit false
/-! PvForms: forms, made_schema, asked_kind, held_by. -/
namespace WkL
open PySem (Str)
open Wk
@[simp] theorem is_row_tup (xs : List D) (n : Int) (S : Store) : F_is_row [.tup xs, .int n] S = .ok (.bl ((xs.length : Int) == n)) S := by simp [F_is_row, mkF, startE, isTy]
@[simp] theorem is_whole_in (i lo hi : Int) (S : Store) : F_is_whole [.int i, .int lo, .int hi] S = .ok (.bl (decide (lo ≤ i) && decide (i ≤ hi))) S := by
  by_cases h : lo ≤ i <;> simp [F_is_whole, mkF, startE, isTy, h]
/-- no whole number -/
def NoWhole : D → Prop
  | .int _ => False
  | .frz _ => False
  | .ref _ => False
  | _ => True
theorem is_whole_no {x : D} (h : NoWhole x) (lo hi : D) (S : Store) : F_is_whole [x, lo, hi] S = .ok (.bl false) S := by
  cases x with
  | non => simp [F_is_whole, mkF, startE, isTy]
  | bl b => simp [F_is_whole, mkF, startE, isTy]
  | str b => simp [F_is_whole, mkF, startE, isTy]
  | tup b => simp [F_is_whole, mkF, startE, isTy]
  | int i => exact h.elim
  | frz i => exact h.elim
  | ref i => exact h.elim
theorem is_field_ok {a b h k : Nat} (h1 : a < k) (h2 : h ≤ b) (h3 : b < k) (S : Store) : F_is_field [fD (a, b), .int (h : Int), .int (k : Int)] S = .ok (.bl true) S := by
  have q1 : (a : Int) ≤ (k : Int) - 1 := by omega
  have q2 : (b : Int) ≤ (k : Int) - 1 := by omega
  simp [F_is_field, fD, mkF, startE, q1, q2, h2]
theorem enum_get {ds : List D} {i : Nat} : (enumD ds)[i]? = (ds[i]?).map fun d => D.tup [.int (i : Int), d] := by
  unfold enumD; rw [List.getElem?_mapIdx]
theorem enum_len {ds : List D} : (enumD ds).length = ds.length := by unfold enumD; simp
theorem drop_cons {α : Type} {xs : List α} {i : Nat} {d : α} {rest : List α} (h : d :: rest = xs.drop i) : i < xs.length ∧ xs[i]? = some d ∧ rest = xs.drop (i + 1) := by
  have hi : i < xs.length := by
    refine Decidable.byContradiction fun q => ?_
    rw [List.drop_of_length_le (by omega)] at h
    cases h
  rw [List.drop_eq_getElem_cons hi] at h
  injection h with h1 h2
  exact ⟨hi, by rw [List.getElem?_eq_getElem hi, h1], h2⟩
theorem map_fD_get {fs : List (Nat × Nat)} {i : Nat} {d : D} (h : (fs.map fD)[i]? = some d) : ∃ f, fs[i]? = some f ∧ d = fD f := by
  rw [List.getElem?_map] at h
  cases e : fs[i]? with
  | none => rw [e] at h; cases h
  | some f => rw [e] at h; exact ⟨f, rfl, (Option.some.inj h).symm⟩
theorem made_ok {c : Sch} (hc : c.Ok) (S : Store) : F_made_schema [c.d] S = .ok c.d (S ++ [.lst (c.fs.map fD)]) := by
  have h1 := hc.h1; have h6 := hc.h6; have hk := hc.hk; have k24 := hc.k24; have f40 := hc.f40
  obtain ⟨s', S', e, x, y, rfl, _, rfl⟩ := forL_run (c := []) (g := .tp [(.nm 4), (.nm 5)]) (b := sIf (Wk.tNot (tE (eCall F_is_field (aCons (eV 5) (aCons (eV 1) (aCons (eV 2) aNil)))))) (sRaise "BadSchema" (eTup (aCons (eC (.int 2)) (aCons (eV 4) aNil)))) sSkip)
    (fun rest s T => ∃ x y, s = [some c.d, some (.int (c.h : Int)), some (.int (c.k : Int)), some (.tup (c.fs.map fD)), x, y] ∧ (∃ i, rest = (enumD (c.fs.map fD)).drop i) ∧ T = S) (fun _ _ _ _ => rfl) (by
      rintro d rest s T ⟨x, y, rfl, ⟨i, hd⟩, rfl⟩
      obtain ⟨hi, hg, rfl⟩ := drop_cons hd
      rw [enum_get] at hg
      cases e : (c.fs.map fD)[i]? with
      | none => rw [e] at hg; cases hg
      | some d' =>
        rw [e] at hg
        obtain rfl : D.tup [.int (i : Int), d'] = d := Option.some.inj hg
        obtain ⟨f, hf, rfl⟩ := map_fD_get e
        obtain ⟨q1, q2, q3⟩ := hc.fs f (List.mem_of_getElem? hf)
        have := is_field_ok q1 q2 q3 T
        exact ⟨_, _, _, rfl, .inl ((by simp [this]) : _ = Rs.nx [some c.d, some (.int (c.h : Int)), some (.int (c.k : Int)), some (.tup (c.fs.map fD)), some (.int (i : Int)), some (fD f)] T), _, _, rfl, ⟨i + 1, rfl⟩, rfl⟩) (enumD (c.fs.map fD)) [some c.d, some (.int (c.h : Int)), some (.int (c.k : Int)), some (.tup (c.fs.map fD)), none, none] S ⟨none, none, rfl, ⟨0, by simp⟩, rfl⟩
  have cp : ∀ (sw : Env) (hs : sw = [some c.d, some (.int (c.h : Int)), some (.int (c.k : Int)), some (.tup (c.fs.map fD)), x, none]), compL [] (.nm 5) tTrue (eUn fTuple (eV 5)) sw (c.fs.map fD) S' = .ok (c.fs.map fD) S' := by
    intro sw hs
    subst hs
    have := compL_map (c := []) (g := .nm 5) (e := eUn fTuple (eV 5)) (sw := [some c.d, some (.int (c.h : Int)), some (.int (c.k : Int)), some (.tup (c.fs.map fD)), x, none]) (S := S') (f := id) rfl (c.fs.map fD) (by
      intro d hd
      obtain ⟨f, _, rfl⟩ := List.mem_map.mp hd
      exact ⟨_, rfl, by simp [fD]⟩)
    simpa using this
  have hk' : (c.h : Int) ≤ (c.k : Int) := by omega
  have k24' : (c.k : Int) ≤ 24 := by omega
  have h1' : (1 : Int) ≤ (c.h : Int) := by omega
  have h6' : (c.h : Int) ≤ 6 := by omega
  have f40' : ¬ (40 : Int) < (c.fs.length : Int) := by omega
  have e' := e
  unfold Sch.d at e' cp ⊢
  simp [F_made_schema, mkF, startE, isTy, h1', h6', hk', k24', f40', LIM_val, e', cp, fTuple_lst]
theorem asked_ok {c : Sch} {a : Nat} (ha : a < c.k) (S : Store) : F_asked_kind [c.d, .int (a : Int)] S = .ok .non S := by
  have q : (a : Int) ≤ (c.k : Int) - 1 := by omega
  simp [F_asked_kind, Sch.d, mkF, startE, q]
/-- no kind of a schema of k -/
def NoKind (k : Nat) (x : D) : Prop := NoWhole x ∨ ∃ i : Int, x = .int i ∧ (i < 0 ∨ (k : Int) ≤ i)
theorem asked_no {c : Sch} {x : D} (h : NoKind c.k x) (S : Store) : F_asked_kind [c.d, x] S = .ex "BadKind" x S := by
  rcases h with h | ⟨i, rfl, h⟩
  · have := fun (lo hi : D) => is_whole_no h lo hi S
    simp [F_asked_kind, Sch.d, mkF, startE, this]
  · rcases h with h | h
    · have q : ¬ (0 ≤ i) := by omega
      simp [F_asked_kind, Sch.d, mkF, startE, q]
    · have q : ¬ (i ≤ (c.k : Int) - 1) := by omega
      simp [F_asked_kind, Sch.d, mkF, startE, q]
end WkL


set_option Elab.async false
set_option linter.all false
set_option maxRecDepth 100000
set_option maxHeartbeats 1000000
set_option autoImplicit false
/-! PvHeld: held_by, fields_of. -/
namespace WkL
open PySem (Str)
open Wk
/-- the fields below i whose holder is a -/
def fo (fs : List (Nat × Nat)) (i a : Nat) : List Nat := (List.range i).filter fun f => (fs[f]?.map (·.1)) == some a
theorem fo_succ (fs : List (Nat × Nat)) {i a : Nat} {f : Nat × Nat} (h : fs[i]? = some f) : fo fs (i + 1) a = if f.1 = a then fo fs i a ++ [i] else fo fs i a := by
  unfold fo
  rw [List.range_succ, List.filter_append]
  by_cases e : f.1 = a
  · rw [if_pos e]
    simp [h, e]
  · rw [if_neg e]
    simp [h, e]
theorem mem_fo {fs : List (Nat × Nat)} {i a f : Nat} : f ∈ fo fs i a ↔ f < i ∧ ∃ b, fs[f]? = some (a, b) := by
  unfold fo
  rw [List.mem_filter, List.mem_range]
  constructor
  · rintro ⟨h, e⟩
    refine ⟨h, ?_⟩
    cases q : fs[f]? with
    | none => rw [q] at e; simp at e
    | some p =>
      rw [q] at e
      simp at e
      exact ⟨p.2, by rw [← e]⟩
  · rintro ⟨h, b, e⟩
    exact ⟨h, by rw [e]; simp⟩
abbrev intsN (l : List Nat) : List D := l.map fun (f : Nat) => D.int (f : Int)
/-- the lists of the fields by their holders stand at b, b + 1 .. , their list at l -/
structure Held (c : Sch) (l b : Nat) (T : Store) : Prop where
  top : T[l]? = some (.lst ((List.range c.k).map fun (a : Nat) => D.ref (b + a)))
  row : ∀ a, a < c.k → T[b + a]? = some (.lst (intsN (fo c.fs c.fs.length a)))
theorem rep_get {S : Store} {n a : Nat} {o : Ob} {X : Store} (h : a < n) : (S ++ List.replicate n o ++ X)[S.length + a]? = some o := by
  rw [List.append_assoc, List.getElem?_append_right (by omega), Nat.add_sub_cancel_left, List.getElem?_append_left (by simpa using h)]
  simp [h]
theorem new_rows (c : Sch) (S : Store) (k : Nat) (s : Env) (hs : ∃ x y z w v, s = [x, y, z, w, v, none]) :
    compL [] (.nm 5) tTrue (eLst aNil) s (rngD 0 (k : Int)) S = .ok ((List.range k).map fun (a : Nat) => D.ref (S.length + a)) (S ++ List.replicate k (.lst [])) := by
  obtain ⟨ys, T', e, n, rfl, rfl, hn⟩ := compL_run (c := []) (g := .nm 5) (t := tTrue) (e := eLst aNil) (sw := s)
    (fun ds acc T => ∃ n, acc = (List.range n).map (fun (a : Nat) => D.ref (S.length + a)) ∧ T = S ++ List.replicate n (.lst []) ∧ n + ds.length = k) (fun _ _ _ _ => rfl) (by
      rintro d ds acc T ⟨n, rfl, rfl, hn⟩
      refine ⟨_, _, rfl, .inr ⟨.ref (S.length + n), S ++ List.replicate (n + 1) (.lst []), rfl, ?_, n + 1, ?_, rfl, ?_⟩⟩
      · simp [LIM_val, List.replicate_succ']
      · rw [List.range_succ, List.map_append]; rfl
      · simp at hn ⊢; omega) (rngD 0 (k : Int)) [] S ⟨0, rfl, by simp, by rw [rngD_len]; simp⟩
  simp at hn
  subst hn
  simpa using e
theorem held_ok {c : Sch} (hc : c.Ok) (S : Store) : ∃ T, F_held_by [c.d] S = .ok (.ref (S.length + c.k)) T ∧ Held c (S.length + c.k) S.length T ∧ Keep [] S T ∧ T.length = S.length + c.k + 1 := by
  have k24 := hc.k24
  have hb1 := new_rows c S c.k [some c.d, none, none, none, none, none] ⟨_, _, _, _, _, rfl⟩
  generalize hT0 : S ++ List.replicate c.k (Ob.lst []) ++ [Ob.lst ((List.range c.k).map fun (a : Nat) => D.ref (S.length + a))] = T0
  have g0 : T0[S.length + c.k]? = some (.lst ((List.range c.k).map fun (a : Nat) => D.ref (S.length + a))) := by rw [← hT0]; simp
  obtain ⟨s', T, e, x, y, z, i, rfl, hi, hl, htop, hrow, hkeep⟩ := forL_run (c := []) (g := .tp [(.nm 2), (.tp [(.nm 3), (.nm 4)])]) (b := sExpr (eBM oAppend (eOp oIx (eV 1) (eV 3)) (eV 2)))
    (fun rest s T => ∃ x y z i, s = [some c.d, some (.ref (S.length + c.k)), x, y, z, none] ∧ rest = (enumD (c.fs.map fD)).drop i ∧ T.length = S.length + c.k + 1 ∧ T[S.length + c.k]? = some (.lst ((List.range c.k).map fun (a : Nat) => D.ref (S.length + a))) ∧
      (∀ a, a < c.k → T[S.length + a]? = some (.lst (intsN (fo c.fs i a)))) ∧ Keep [] S T) (fun _ _ _ _ => rfl) (by
      rintro d rest s T ⟨x, y, z, i, rfl, hd, hl, htop, hrow, hkeep⟩
      obtain ⟨hi, hg, rfl⟩ := drop_cons hd
      rw [enum_get] at hg
      cases e : (c.fs.map fD)[i]? with
      | none => rw [e] at hg; cases hg
      | some d' =>
        rw [e] at hg
        obtain rfl : D.tup [.int (i : Int), d'] = d := Option.some.inj hg
        obtain ⟨f, hf, rfl⟩ := map_fD_get e
        obtain ⟨q1, q2, q3⟩ := hc.fs f (List.mem_of_getElem? hf)
        have hlt : i < 40 := by
          have := (List.getElem?_eq_some_iff.mp hf).1
          have := hc.f40
          omega
        have gr := hrow f.1 q1
        have hfl : (fo c.fs i f.1).length ≤ i := by unfold fo; exact Nat.le_trans (List.length_filter_le _ _) (by simp)
        have ap := oAppend_lst (y := .int (i : Int)) gr (by rw [LIM_val]; simp; omega)
        have il := isLst_lst gr
        refine ⟨_, _, _, rfl, .inl ((by simp [fD, htop, q1, il, ap]) : _ = Rs.nx [some c.d, some (.ref (S.length + c.k)), some (.int (i : Int)), some (.int (f.1 : Int)), some (.int (f.2 : Int)), none] (T.set (S.length + f.1) (.lst (intsN (fo c.fs i f.1) ++ [.int (i : Int)])))), _, _, _, i + 1, rfl, rfl, by simpa using hl, ?_, fun a ha => ?_, ?_⟩
        · rw [List.getElem?_set_ne (by omega)]; exact htop
        · rw [fo_succ c.fs hf]
          by_cases ea : f.1 = a
          · subst ea
            rw [if_pos rfl, get_set_self gr]
            simp
          · rw [if_neg ea, List.getElem?_set_ne (by omega)]; exact hrow a ha
        · exact hkeep.new (Y := [S.length + f.1]) (Keep.set _ (.inl (by simp))) (by intro i hi; simp at hi; omega)) (enumD (c.fs.map fD)) [some c.d, some (.ref (S.length + c.k)), none, none, none, none] T0
    ⟨none, none, none, 0, rfl, by simp, by rw [← hT0]; simp; omega, g0, fun a ha => by rw [← hT0, rep_get ha]; simp [fo], by rw [← hT0, List.append_assoc]; exact Keep.push _ _ _⟩
  have hi' : i ≥ c.fs.length := by
    refine Decidable.byContradiction fun q => ?_
    have : i < (enumD (c.fs.map fD)).length := by rw [enum_len]; simp; omega
    rw [List.drop_eq_getElem_cons this] at hi
    cases hi
  have fo_top : ∀ a, fo c.fs i a = fo c.fs c.fs.length a := by
    intro a
    unfold fo
    obtain ⟨m, rfl⟩ : ∃ m, i = c.fs.length + m := ⟨i - c.fs.length, by omega⟩
    rw [List.range_add, List.filter_append]
    have : ((List.range m).map (c.fs.length + ·)).filter (fun f => (c.fs[f]?.map (·.1)) == some a) = [] := by
      rw [List.filter_eq_nil_iff]
      intro x hx
      obtain ⟨j, _, rfl⟩ := List.mem_map.mp hx
      rw [List.getElem?_eq_none (by omega)]
      simp
    rw [this, List.append_nil]
  refine ⟨T, ?_, ⟨htop, fun a ha => by rw [← fo_top a]; exact hrow a ha⟩, hkeep, hl⟩
  have r1 : -(4611686018427387904 : Int) ≤ (c.k : Int) := by omega
  have r2 : (c.k : Int) ≤ 16777216 := by omega
  have hT0' : S ++ (List.replicate c.k (Ob.lst []) ++ [Ob.lst ((List.range c.k).map fun (a : Nat) => D.ref (S.length + a))]) = T0 := by rw [← hT0]; simp
  have e' := e
  unfold Sch.d at e' hb1 ⊢
  simp [F_held_by, mkF, startE, r1, r2, hb1, hT0', e']
end WkL


set_option Elab.async false
set_option linter.all false
set_option maxRecDepth 100000
set_option autoImplicit false
/-! PvReach: what is led to, by how many fields; plain lists. -/
namespace WkL
open PySem (Str)
open Wk
section
variable (fs : List (Nat × Nat)) (src : Nat → Prop)
/-- led to by at most n fields -/
def Rch : Nat → Nat → Prop
  | 0, v => src v
  | n + 1, v => Rch n v ∨ ∃ a, Rch n a ∧ (a, v) ∈ fs
def Reach (v : Nat) : Prop := ∃ n, Rch fs src n v
/-- n is the least such number -/
def IsDist (n v : Nat) : Prop := Rch fs src n v ∧ ∀ m, Rch fs src m v → n ≤ m
end
section
variable {fs : List (Nat × Nat)} {src : Nat → Prop}
theorem Rch.up {n v : Nat} (h : Rch fs src n v) : Rch fs src (n + 1) v := .inl h
theorem Rch.mono {n v : Nat} (h : Rch fs src n v) : ∀ m, n ≤ m → Rch fs src m v
  | 0, q => by
    have : n = 0 := by omega
    subst this; exact h
  | m + 1, q => by
    by_cases e : n = m + 1
    · subst e; exact h
    · exact (Rch.mono h m (by omega)).up
theorem Reach.of_src {v : Nat} (h : src v) : Reach fs src v := ⟨0, h⟩
theorem Reach.step {a v : Nat} (h : Reach fs src a) (e : (a, v) ∈ fs) : Reach fs src v := by
  obtain ⟨n, h⟩ := h
  exact ⟨n + 1, .inr ⟨a, h, e⟩⟩
theorem Rch.ind {P : Nat → Prop} (h0 : ∀ v, src v → P v) (hs : ∀ a v, P a → (a, v) ∈ fs → P v) : ∀ (n v : Nat), Rch fs src n v → P v
  | 0, v, h => h0 v h
  | n + 1, v, h => h.elim (Rch.ind h0 hs n v) fun ⟨a, ha, e⟩ => hs a v (Rch.ind h0 hs n a ha) e
theorem Reach.ind {P : Nat → Prop} (h0 : ∀ v, src v → P v) (hs : ∀ a v, P a → (a, v) ∈ fs → P v) {v : Nat} (h : Reach fs src v) : P v := by
  obtain ⟨n, h⟩ := h
  exact Rch.ind h0 hs n v h
theorem IsDist.uniq {n m v : Nat} (h : IsDist fs src n v) (k : IsDist fs src m v) : n = m := Nat.le_antisymm (h.2 m k.1) (k.2 n h.1)
/-- numbers that are right from below and closed upwards are the distances -/
theorem dist_of {val : Nat → Nat → Prop} (sound : ∀ v n, val v n → Rch fs src n v) (h0 : ∀ v, src v → ∃ n, val v n ∧ n ≤ 0) (hs : ∀ a v n, val a n → (a, v) ∈ fs → ∃ m, val v m ∧ m ≤ n + 1) (u : ∀ v n m, val v n → val v m → n = m) :
    (∀ v n, val v n → IsDist fs src n v) ∧ ∀ v, Reach fs src v → ∃ n, val v n := by
  have key : ∀ (n v : Nat), Rch fs src n v → ∃ m, val v m ∧ m ≤ n := by
    intro n
    induction n with
    | zero => intro v h; exact h0 v h
    | succ n ih =>
      intro v h
      rcases h with h | ⟨a, ha, e⟩
      · obtain ⟨m, h1, h2⟩ := ih v h
        exact ⟨m, h1, by omega⟩
      · obtain ⟨m, h1, h2⟩ := ih a ha
        obtain ⟨q, h3, h4⟩ := hs a v m h1 e
        exact ⟨q, h3, by omega⟩
  refine ⟨fun v n h => ⟨sound v n h, fun m hm => ?_⟩, fun v ⟨n, h⟩ => ?_⟩
  · obtain ⟨q, h1, h2⟩ := key m v hm
    rw [u v n q h h1]
    exact h2
  · obtain ⟨q, h1, _⟩ := key n v h
    exact ⟨q, h1⟩
end
open Classical in
/-- the kinds below k that are led to, in order -/
noncomputable def reachL (fs : List (Nat × Nat)) (k : Nat) (src : Nat → Prop) : List Nat := (List.range k).filter fun v => decide (Reach fs src v)
theorem mem_reachL {fs : List (Nat × Nat)} {k : Nat} {src : Nat → Prop} {v : Nat} : v ∈ reachL fs k src ↔ v < k ∧ Reach fs src v := by
  unfold reachL
  rw [List.mem_filter, List.mem_range]
  simp
theorem filter_reachL {fs : List (Nat × Nat)} {k : Nat} {src : Nat → Prop} {p : Nat → Bool} (h : ∀ v, v < k → (p v = true ↔ Reach fs src v)) : (List.range k).filter p = reachL fs k src := by
  unfold reachL
  apply List.filter_congr
  intro v hv
  have := h v (List.mem_range.mp hv)
  by_cases q : p v = true
  · rw [q]; simp [this.mp q]
  · have n : ¬ Reach fs src v := fun z => q (this.mpr z)
    simp [n]
    simpa using q
/-- truths set -/
theorem count_set : ∀ {F : List Bool} {b : Nat}, F[b]? = some false → (F.set b true).count false + 1 = F.count false
  | [], _, h => by simp at h
  | x :: F, 0, h => by simp at h; subst h; simp
  | x :: F, b + 1, h => by
    have ih := count_set (F := F) (b := b) (by simpa using h)
    simp only [List.set_cons_succ, List.count_cons]
    omega

/-! ### lists of numbers compared -/
theorem mapM_ints (S : Store) (n : Nat) : ∀ xs : List Int, (xs.map D.int).mapM (toP S n) = some (xs.map P.int)
  | [] => rfl
  | x :: xs => by
    rw [List.map_cons, List.mapM_cons, mapM_ints S n xs]
    cases n <;> rfl
theorem eqvs_ints : ∀ xs ys : List Int, P.eqvs (xs.map P.int) (ys.map P.int) = decide (xs = ys)
  | [], [] => by rfl
  | [], _ :: _ => by rfl
  | _ :: _, [] => by rfl
  | x :: xs, y :: ys => by
    simp only [List.map_cons, P.eqvs, P.eqv, eqvs_ints xs ys, List.cons.injEq, Bool.decide_and]
    rfl
theorem toP_ints {S : Store} {l : Nat} {xs : List Int} (h : S[l]? = some (.lst (xs.map D.int))) (n : Nat) : toP S (n + 1) (.ref l) = some (.lst (xs.map P.int)) := by
  unfold toP
  rw [h]
  dsimp only
  rw [mapM_ints]
theorem oEq_lists {S : Store} {l m : Nat} {xs ys : List Int} (h : S[l]? = some (.lst (xs.map D.int))) (k : S[m]? = some (.lst (ys.map D.int))) : oEq (.ref l) (.ref m) S = .ok (.bl (decide (xs = ys))) S := by
  show oEqG _ _ _ = _
  unfold oEqG
  rw [toP_ints h 59, toP_ints k 59]
  dsimp only
  rw [show P.eqv (.lst (xs.map P.int)) (.lst (ys.map P.int)) = P.eqvs (xs.map P.int) (ys.map P.int) from by simp only [P.eqv], eqvs_ints]
theorem oEq_non_list {S : Store} {m : Nat} {ys : List Int} (k : S[m]? = some (.lst (ys.map D.int))) : oEq .non (.ref m) S = .ok (.bl false) S := by
  show oEqG _ _ _ = _
  unfold oEqG
  rw [toP_ints k 59]
  rfl
theorem intsN_int (l : List Nat) : (l.map fun (f : Nat) => D.int (f : Int)) = (l.map fun (f : Nat) => (f : Int)).map D.int := by simp
theorem castL_inj {l m : List Nat} : (l.map fun (f : Nat) => (f : Int)) = (m.map fun (f : Nat) => (f : Int)) ↔ l = m := by
  constructor
  · intro h
    have := congrArg (List.map Int.toNat) h
    simpa [Function.comp_def] using this
  · rintro rfl; rfl
theorem oEq_nats {S : Store} {l m : Nat} {xs ys : List Nat} (h : S[l]? = some (.lst (xs.map fun (f : Nat) => D.int (f : Int)))) (k : S[m]? = some (.lst (ys.map fun (f : Nat) => D.int (f : Int)))) : oEq (.ref l) (.ref m) S = .ok (.bl (decide (xs = ys))) S := by
  rw [intsN_int] at h k
  rw [oEq_lists h k, decide_eq_decide.mpr castL_inj]
end WkL


set_option Elab.async false
set_option linter.all false
set_option maxRecDepth 100000
set_option maxHeartbeats 1000000
set_option autoImplicit false
/-! PvBase: small things of lists in the store. -/
namespace WkL
open PySem (Str)
open Wk
abbrev blsN (F : List Bool) : List D := F.map D.bl
theorem edge_get {fs : List (Nat × Nat)} {f : Nat} {q : Nat × Nat} (h : fs[f]? = some q) : (a b : Nat) → q = (a, b) → (a, b) ∈ fs := fun a b e => by rw [← e]; exact List.mem_of_getElem? h
theorem edge_ix {fs : List (Nat × Nat)} {a b : Nat} (h : (a, b) ∈ fs) : ∃ f, f ∈ fo fs fs.length a ∧ fs[f]? = some (a, b) := by
  obtain ⟨f, hf, e⟩ := List.getElem_of_mem h
  have e' : fs[f]? = some (a, b) := by rw [List.getElem?_eq_getElem hf, e]
  exact ⟨f, mem_fo.mpr ⟨hf, b, e'⟩, e'⟩
theorem oIx_lst {S : Store} {l i : Nat} {ds : List D} {d : D} (h : S[l]? = some (.lst ds)) (g : ds[i]? = some d) : oIx (.ref l) (.int (i : Int)) S = .ok d S := by
  rw [oIx_ref, h]; dsimp only; rw [atI_nat, g]
theorem uSetL_nat {S : Store} {l i : Nat} {ds : List D} (h : S[l]? = some (.lst ds)) (hi : i < ds.length) (v : D) : uSetL (.ref l) (.int (i : Int)) v S = some (S.set l (.lst (ds.set i v))) := by
  unfold uSetL; dsimp only; rw [h]; dsimp only; rw [ixN_nat _ _ hi]
theorem intsN_snoc {W : List Nat} (h : W ≠ []) : ∃ W0 u, W = W0 ++ [u] := ⟨W.dropLast, W.getLast h, (List.dropLast_concat_getLast h).symm⟩
theorem uPop_snoc {S : Store} {l : Nat} {W : List Nat} {u : Nat} (h : S[l]? = some (.lst (intsN (W ++ [u])))) : uPop (.ref l) S = .ok (.int (u : Int)) (S.set l (.lst (intsN W))) := by
  unfold uPop
  dsimp only
  rw [h]
  simp
end WkL


set_option Elab.async false
set_option linter.all false
set_option maxRecDepth 100000
set_option maxHeartbeats 1000000
set_option autoImplicit false
/-! PvReached: the law's own closure. -/
namespace WkL
open PySem (Str)
open Wk
theorem insI_le {a : Int} : ∀ {l : List Int}, (∀ b ∈ l, a ≤ b) → insI a l = a :: l
  | [], _ => rfl
  | b :: l, h => by unfold insI; rw [if_pos (h b List.mem_cons_self)]
theorem sortI_sorted : ∀ {l : List Int}, l.Pairwise (· ≤ ·) → sortI l = l
  | [], _ => rfl
  | a :: l, h => by
    unfold sortI
    rw [List.pairwise_cons] at h
    rw [sortI_sorted h.2, insI_le h.1]
theorem intsD_map : ∀ l : List Int, intsD (l.map D.int) = some l
  | [] => rfl
  | a :: l => by rw [List.map_cons]; unfold intsD; rw [intsD_map l]
theorem range_sorted (n : Nat) : ((List.range n).map fun (i : Nat) => (i : Int)).Pairwise (· ≤ ·) := by
  rw [List.pairwise_map]
  exact (List.pairwise_lt_range (n := n)).imp fun h => by omega
theorem inF_nats (a : Nat) (l : List Nat) : inF (.int (a : Int)) (intsN l) = decide (a ∈ l) := by
  unfold inF
  rw [List.any_map]
  induction l with
  | nil => rfl
  | cons b l ih =>
    rw [List.any_cons, ih]
    simp only [Function.comp_apply, eqF, List.mem_cons, Bool.decide_or]
    congr 1
    by_cases h : a = b
    · subst h; simp
    · have : ¬ b = a := fun z => h z.symm
      simp [h]; omega
theorem nats_flat (l : List Nat) : (intsN l).all flatD = true := by
  rw [List.all_map]; simp [flatD, Function.comp_def]
theorem oInS_nats {S : Store} {l : Nat} {L : List Nat} (h : S[l]? = some (.lst (intsN L))) (a : Nat) : oInS (.int (a : Int)) (.ref l) S = .ok (.bl (decide (a ∈ L))) S := by
  unfold oInS oInL; dsimp only; rw [h]; dsimp only; rw [nats_flat, inF_nats]; rfl
open Classical in
noncomputable def rchL (fs : List (Nat × Nat)) (k : Nat) (src : Nat → Prop) (n : Nat) : List Nat := (List.range k).filter fun v => decide (Rch fs src n v)
theorem mem_rchL {fs : List (Nat × Nat)} {k : Nat} {src : Nat → Prop} {n v : Nat} : v ∈ rchL fs k src n ↔ v < k ∧ Rch fs src n v := by
  unfold rchL; rw [List.mem_filter, List.mem_range]; simp
theorem rchL_sub (fs : List (Nat × Nat)) (k : Nat) (src : Nat → Prop) (n : Nat) : (rchL fs k src n).Sublist (rchL fs k src (n + 1)) := by
  have : rchL fs k src n = (rchL fs k src (n + 1)).filter fun v => @decide (Rch fs src n v) (Classical.propDecidable _) := by
    unfold rchL
    rw [List.filter_filter]
    apply List.filter_congr
    intro v _
    by_cases h : Rch fs src n v
    · simp [h, h.up]
    · simp [h]
  rw [this]
  exact List.filter_sublist
theorem rchL_lt {fs : List (Nat × Nat)} {k : Nat} {src : Nat → Prop} {n : Nat} (h : rchL fs k src n ≠ rchL fs k src (n + 1)) : (rchL fs k src n).length < (rchL fs k src (n + 1)).length :=
  Nat.lt_of_le_of_ne (rchL_sub fs k src n).length_le fun e => h ((rchL_sub fs k src n).eq_of_length e)
theorem rchL_le (fs : List (Nat × Nat)) (k : Nat) (src : Nat → Prop) (n : Nat) : (rchL fs k src n).length ≤ k := by
  unfold rchL; exact Nat.le_trans (List.length_filter_le _ _) (by simp)
theorem rchL_fix {fs : List (Nat × Nat)} {k : Nat} {src : Nat → Prop} {n : Nat} (hfs : ∀ f ∈ fs, f.1 < k ∧ f.2 < k) (hsrc : ∀ v, src v → v < k) (h : rchL fs k src n = rchL fs k src (n + 1)) : rchL fs k src (n + 1) = reachL fs k src := by
  unfold rchL reachL
  apply List.filter_congr
  intro v hv
  have key : Reach fs src v → v < k ∧ Rch fs src n v := fun hr => Reach.ind (P := fun v => v < k ∧ Rch fs src n v) (fun v hv => ⟨hsrc v hv, (show Rch fs src 0 v from hv).mono n (Nat.zero_le _)⟩) (fun a v ⟨ha, hr⟩ e => by
    have q : v ∈ rchL fs k src (n + 1) := mem_rchL.mpr ⟨(hfs _ e).2, .inr ⟨a, hr, e⟩⟩
    rw [← h] at q
    exact mem_rchL.mp q) hr
  by_cases q : Reach fs src v
  · simp [q, (key q).2.up]
  · have : ¬ Rch fs src (n + 1) v := fun z => q ⟨_, z⟩
    simp [q, this]
theorem rchL_range {fs : List (Nat × Nat)} {h k : Nat} (hhk : h ≤ k) : rchL fs k (fun v => v < h) 0 = List.range h := by
  have e0 : rchL fs k (fun v => v < h) 0 = (List.range k).filter (fun v => decide (v < h)) := by
    unfold rchL
    apply List.filter_congr
    intro v _
    by_cases q : v < h
    · simp [q, Rch]
    · simp [q, Rch]
  rw [e0]
  obtain ⟨m, hm⟩ : ∃ m, k = h + m := ⟨k - h, by omega⟩
  rw [hm, List.range_add, List.filter_append, List.filter_eq_self.mpr (by intro a ha; simpa using ha)]
  rw [List.filter_eq_nil_iff.mpr, List.append_nil]
  intro a ha
  obtain ⟨j, _, rfl⟩ := List.mem_map.mp ha
  simp
theorem filter_one {x : Nat} : ∀ {k : Nat}, x < k → (List.range k).filter (fun v => decide (v = x)) = [x]
  | k + 1, h => by
    rw [List.range_succ, List.filter_append]
    by_cases e : x = k
    · subst e
      rw [List.filter_eq_nil_iff.mpr (by intro a ha; have := List.mem_range.mp ha; simp; omega)]
      simp
    · rw [filter_one (show x < k by omega)]
      have : ¬ k = x := fun z => e z.symm
      simp [this]
theorem rchL_one {fs : List (Nat × Nat)} {x k : Nat} (hx : x < k) : rchL fs k (fun v => v ∈ [x]) 0 = [x] := by
  have e0 : rchL fs k (fun v => v ∈ [x]) 0 = (List.range k).filter (fun v => decide (v = x)) := by
    unfold rchL
    apply List.filter_congr
    intro v _
    by_cases q : v = x
    · simp [q, Rch]
    · simp [q, Rch]
  rw [e0, filter_one hx]
theorem reached_ok {c : Sch} (hc : c.Ok) {S : Store} {ki : Nat} {src : Nat → Prop} {ks : List Nat} (L0 : rchL c.fs c.k src 0 = ks) (hso : (ks.map fun (i : Nat) => (i : Int)).Pairwise (· ≤ ·)) (hsk : ∀ v, src v → v < c.k) (hk : S[ki]? = some (.lst (intsN ks))) :
    ∃ fi T, F__law_wv_reached [c.d, .ref ki] S = .ok (.ref fi) T ∧ T[fi]? = some (.lst (intsN (reachL c.fs c.k src))) ∧ Keep [] S T := by
  have k24 := hc.k24; have hhk := hc.hk
  have hfs : ∀ f ∈ c.fs, f.1 < c.k ∧ f.2 < c.k := fun f hf => ⟨(hc.fs f hf).1, (hc.fs f hf).2.2⟩
  have srt : fSorted (.ref ki) S = .ok (.ref S.length) (S ++ [.lst (intsN ks)]) := by
    unfold fSorted
    dsimp only
    rw [hk]
    dsimp only
    rw [intsN, intsN_int, intsD_map]
    dsimp only
    rw [sortI_sorted hso]
  obtain ⟨s', T', ew, fi, b, x1, x2, x3, x4, rfl, hf, K⟩ := whileL_runN (t := tE (eOp oNe (eV 3) (eV 2))) (b := (sSeq (sSet 3 (eV 2))
    (sSeq (sSet 4 (eComp (iSeq (eOp oIx (eV 0) (eC (.int 2)))) (.tp [(.nm 5), (.nm 6)]) (tE (eOp oInS (eV 5) (eV 3))) (eV 6) [5, 6]))
    (sSet 2 (eComp (iRng (eOp oIx (eV 0) (eC (.int 1)))) (.nm 7) (tOr (tE (eOp oInS (eV 7) (eV 3))) (tE (eOp oInS (eV 7) (eV 4)))) (eV 7) [7])))))
    (fun m s T => ∃ n fi b x1, s = [some c.d, some (.ref ki), some (.ref fi), some b, x1, none, none, none] ∧ T[fi]? = some (.lst (intsN (rchL c.fs c.k src n))) ∧ Keep [] S T ∧
      ((b = .non ∧ n = 0 ∧ m = 40) ∨ ∃ bi n0, b = .ref bi ∧ n = n0 + 1 ∧ T[bi]? = some (.lst (intsN (rchL c.fs c.k src n0))) ∧ m = 39 - (rchL c.fs c.k src n0).length))
    (fun s T => ∃ fi b x1 x2 x3 x4, s = [some c.d, some (.ref ki), some (.ref fi), some b, x1, x2, x3, x4] ∧ T[fi]? = some (.lst (intsN (reachL c.fs c.k src))) ∧ Keep [] S T)
    (by
      rintro m s T ⟨n, fi, b, x1, rfl, hf, K, hb⟩
      have body : (∃ T2, (sSeq (sSet 3 (eV 2))
    (sSeq (sSet 4 (eComp (iSeq (eOp oIx (eV 0) (eC (.int 2)))) (.tp [(.nm 5), (.nm 6)]) (tE (eOp oInS (eV 5) (eV 3))) (eV 6) [5, 6]))
    (sSet 2 (eComp (iRng (eOp oIx (eV 0) (eC (.int 1)))) (.nm 7) (tOr (tE (eOp oInS (eV 7) (eV 3))) (tE (eOp oInS (eV 7) (eV 4)))) (eV 7) [7])))) [some c.d, some (.ref ki), some (.ref fi), some b, x1, none, none, none] T = .nx [some c.d, some (.ref ki), some (.ref (T.length + 1)), some (.ref fi), some (.ref T.length), none, none, none] T2 ∧
          T2[T.length + 1]? = some (.lst (intsN (rchL c.fs c.k src (n + 1)))) ∧ T2[fi]? = some (.lst (intsN (rchL c.fs c.k src n))) ∧ Keep [] S T2) := by
        generalize hmore : ((c.fs.filter fun f => decide (f.1 ∈ rchL c.fs c.k src n)).map (·.2)) = more
        have c1 : compL [] (.tp [(.nm 5), (.nm 6)]) (tE (eOp oInS (eV 5) (eV 3))) (eV 6) [some c.d, some (.ref ki), some (.ref fi), some (.ref fi), x1, none, none, none] (c.fs.map fD) T = .ok (intsN more) T := by
          have := compL_pure (c := []) (g := .tp [(.nm 5), (.nm 6)]) (t := tE (eOp oInS (eV 5) (eV 3))) (e := eV 6) (sw := [some c.d, some (.ref ki), some (.ref fi), some (.ref fi), x1, none, none, none]) (S := T)
            (p := fun d => match d with | .tup [.int a, _] => decide (a.toNat ∈ rchL c.fs c.k src n) | _ => false) (f := fun d => match d with | .tup [_, b] => b | _ => .non) rfl (c.fs.map fD) (by
              intro d hd
              obtain ⟨f, hf', rfl⟩ := List.mem_map.mp hd
              refine ⟨[some c.d, some (.ref ki), some (.ref fi), some (.ref fi), x1, some (.int (f.1 : Int)), some (.int (f.2 : Int)), none], rfl, ?_, fun _ => rfl⟩
              have := oInS_nats hf f.1
              simp [fD, this])
          rw [this, List.filter_map, List.map_map, ← hmore, intsN, List.map_map]
          congr 2
        have g1 : (T ++ [Ob.lst (intsN more)])[T.length]? = some (.lst (intsN more)) := get_last _ _
        have g2 : (T ++ [Ob.lst (intsN more)])[fi]? = some (.lst (intsN (rchL c.fs c.k src n))) := by rw [List.getElem?_append_left (lt_of_get hf)]; exact hf
        have c2 : compL [] (.nm 7) (tOr (tE (eOp oInS (eV 7) (eV 3))) (tE (eOp oInS (eV 7) (eV 4)))) (eV 7) [some c.d, some (.ref ki), some (.ref fi), some (.ref fi), some (.ref T.length), none, none, none] (rngD 0 (c.k : Int)) (T ++ [Ob.lst (intsN more)]) = .ok (intsN (rchL c.fs c.k src (n + 1))) (T ++ [Ob.lst (intsN more)]) := by
          rw [rngD_nat]
          have := compL_pure (c := []) (g := .nm 7) (t := tOr (tE (eOp oInS (eV 7) (eV 3))) (tE (eOp oInS (eV 7) (eV 4)))) (e := eV 7) (sw := [some c.d, some (.ref ki), some (.ref fi), some (.ref fi), some (.ref T.length), none, none, none]) (S := T ++ [Ob.lst (intsN more)])
            (p := fun d => match d with | .int a => decide (a.toNat ∈ rchL c.fs c.k src n) || decide (a.toNat ∈ more) | _ => false) (f := id) rfl ((List.range c.k).map fun (i : Nat) => D.int (i : Int)) (by
              intro d hd
              obtain ⟨i, hi, rfl⟩ := List.mem_map.mp hd
              refine ⟨[some c.d, some (.ref ki), some (.ref fi), some (.ref fi), some (.ref T.length), none, none, some (.int (i : Int))], rfl, ?_, fun _ => rfl⟩
              have h1 := oInS_nats g2 i
              have h2 := oInS_nats g1 i
              by_cases q : i ∈ rchL c.fs c.k src n
              · simp [h1, q]
              · simp [h1, q, h2])
          rw [this, List.filter_map, List.map_map]
          congr 1
          rw [show (id ∘ fun (i : Nat) => D.int (i : Int)) = fun (i : Nat) => D.int (i : Int) from rfl]
          congr 1
          conv => rhs; unfold rchL
          apply List.filter_congr
          intro v hv
          simp only [Function.comp_apply, Int.toNat_natCast]
          have hm : v ∈ more ↔ ∃ a, a ∈ rchL c.fs c.k src n ∧ (a, v) ∈ c.fs := by
            rw [← hmore, List.mem_map]
            constructor
            · rintro ⟨⟨a, b⟩, hf', rfl⟩
              rw [List.mem_filter] at hf'
              exact ⟨a, by simpa using hf'.2, hf'.1⟩
            · rintro ⟨a, ha, e⟩
              exact ⟨(a, v), List.mem_filter.mpr ⟨e, by simpa using ha⟩, rfl⟩
          have : (v ∈ rchL c.fs c.k src n ∨ v ∈ more) ↔ Rch c.fs src (n + 1) v := by
            rw [hm, mem_rchL]
            constructor
            · rintro (⟨_, h⟩ | ⟨a, ha, e⟩)
              · exact .inl h
              · exact .inr ⟨a, (mem_rchL.mp ha).2, e⟩
            · rintro (h | ⟨a, ha, e⟩)
              · exact .inl ⟨List.mem_range.mp hv, h⟩
              · exact .inr ⟨a, mem_rchL.mpr ⟨(hfs _ e).1, ha⟩, e⟩
          by_cases q : Rch c.fs src (n + 1) v
          · rcases this.mpr q with z | z <;> simp [q, z]
          · have n1 : v ∉ rchL c.fs c.k src n := fun z => q (this.mp (.inl z))
            have n2 : v ∉ more := fun z => q (this.mp (.inr z))
            simp [q, n1, n2]
        have r1 : -(4611686018427387904 : Int) ≤ (c.k : Int) := by omega
        have r2 : (c.k : Int) ≤ 16777216 := by omega
        have c1' := c1
        have c2' := c2
        refine ⟨T ++ [Ob.lst (intsN more)] ++ [Ob.lst (intsN (rchL c.fs c.k src (n + 1)))], ?_, by simp, ?_, (K.trans (Keep.push _ _ _)).trans (Keep.push _ _ _)⟩
        · unfold Sch.d at c1' c2' ⊢
          simp [c1', c2', r1, r2]
        · rw [List.getElem?_append_left (lt_of_get g2)]; exact g2
      obtain ⟨T2, eb, g1, g2, K2⟩ := body
      rcases hb with ⟨rfl, rfl, rfl⟩ | ⟨bi, n0, rfl, rfl, hbi, rfl⟩
      · right
        rw [intsN, intsN_int] at hf
        have eq := oEq_non_list hf
        refine ⟨T, _, T2, 39 - (rchL c.fs c.k src 0).length, by simp [eq], .inl eb, ⟨1, _, _, _, rfl, g1, K2, .inr ⟨_, 0, rfl, rfl, g2, rfl⟩⟩, by omega⟩
      · have eq := oEq_nats hbi hf
        by_cases q : rchL c.fs c.k src n0 = rchL c.fs c.k src (n0 + 1)
        · left
          refine ⟨T, by simp [eq, q], fi, _, _, _, _, _, rfl, ?_, K⟩
          rw [← rchL_fix hfs hsk q]; exact hf
        · right
          have lt := rchL_lt q
          have le := rchL_le c.fs c.k src (n0 + 1)
          exact ⟨T, _, T2, 39 - (rchL c.fs c.k src (n0 + 1)).length, by simp [eq, q], .inl eb, ⟨n0 + 2, _, _, _, rfl, g1, K2, .inr ⟨_, n0 + 1, rfl, rfl, g2, rfl⟩⟩, by omega⟩) FUEL 40 [some c.d, some (.ref ki), some (.ref S.length), some .non, none, none, none, none] (S ++ [.lst (intsN ks)])
      ⟨0, S.length, .non, none, rfl, by rw [L0]; exact get_last _ _, Keep.push _ _ _, .inl ⟨rfl, rfl, rfl⟩⟩ (by decide)
  refine ⟨fi, T', ?_, hf, K⟩
  have ew' := ew
  unfold Sch.d at ew' ⊢
  simp [F__law_wv_reached, mkF, startE, srt, LIM_val, ew']
end WkL


set_option Elab.async false
set_option linter.all false
set_option maxRecDepth 100000
set_option autoImplicit false
/-! PvBfs: a queue of kinds with their lengths, plain lists. -/
namespace WkL
open PySem (Str)
open Wk
theorem nodup_lt_len : ∀ {k : Nat} {l : List Nat}, l.Nodup → (∀ v ∈ l, v < k) → l.length ≤ k
  | 0, [], _, _ => Nat.le_refl _
  | 0, v :: l, _, h => absurd (h v List.mem_cons_self) (Nat.not_lt_zero _)
  | k + 1, l, nd, h => by
    have e := List.length_erase (a := k) (l := l)
    have ih := nodup_lt_len (k := k) (l := l.erase k) (nd.erase k) (fun v hv => by
      have hm := (List.Nodup.mem_erase_iff nd).mp hv
      have := h v hm.2
      have := hm.1
      omega)
    split at e <;> omega
abbrev As := List (Nat × Nat)
abbrev keysA (A : As) : List Nat := A.map (·.1)
theorem as_uniq {A : As} (nd : (keysA A).Nodup) {v n m : Nat} (h : (v, n) ∈ A) (k : (v, m) ∈ A) : n = m := by
  induction A with
  | nil => cases h
  | cons p A ih =>
    rw [keysA, List.map_cons, List.nodup_cons] at nd
    rcases List.mem_cons.mp h with e | h1
    · rcases List.mem_cons.mp k with e2 | k1
      · rw [← e] at e2; cases e2; rfl
      · exact absurd (List.mem_map.mpr ⟨_, k1, by rw [← e]⟩) nd.1
    · rcases List.mem_cons.mp k with e2 | k1
      · exact absurd (List.mem_map.mpr ⟨_, h1, by rw [← e2]⟩) nd.1
      · exact ih nd.2 h1 k1
theorem mem_keys {A : As} {v : Nat} : v ∈ keysA A ↔ ∃ n, (v, n) ∈ A := by
  constructor
  · intro h
    obtain ⟨⟨a, n⟩, h1, rfl⟩ := List.mem_map.mp h
    exact ⟨n, h1⟩
  · rintro ⟨n, h⟩
    exact List.mem_map.mpr ⟨_, h, rfl⟩
structure BfsI (fs : List (Nat × Nat)) (src : Nat → Prop) (k : Nat) (A : As) (W : List Nat) (pend : Nat → Nat → Prop) : Prop where
  nd : (keysA A).Nodup
  lt : ∀ v n, (v, n) ∈ A → v < k
  sound : ∀ v n, (v, n) ∈ A → Rch fs src n v
  src0 : ∀ v, src v → (v, 0) ∈ A
  inW : ∀ w ∈ W, w ∈ keysA A
  clo : ∀ v n x, (v, n) ∈ A → v ∉ W → (v, x) ∈ fs → (∃ m, (x, m) ∈ A ∧ m ≤ n + 1) ∨ pend v x
  up : ∀ v n w m, (v, n) ∈ A → w ∈ W → (w, m) ∈ A → n ≤ m + 1
  srt : W.Pairwise fun w w' => ∀ m m', (w, m) ∈ A → (w', m') ∈ A → m ≤ m'
structure BfsU (A : As) (W : List Nat) (u nu : Nat) : Prop where
  hu : (u, nu) ∈ A
  all : ∀ v n, (v, n) ∈ A → n ≤ nu + 1
  low : ∀ w m, w ∈ W → (w, m) ∈ A → nu ≤ m
section
variable {fs : List (Nat × Nat)} {src : Nat → Prop} {k : Nat} {A : As} {W : List Nat} {pend pend' : Nat → Nat → Prop} {u nu : Nat}
theorem BfsI.len (I : BfsI fs src k A W pend) : A.length ≤ k := by
  have := nodup_lt_len I.nd (fun v hv => let ⟨n, h⟩ := mem_keys.mp hv; I.lt v n h)
  simpa using this
theorem BfsI.start {ks : List Nat} (nd : ks.Nodup) (hk : ∀ v ∈ ks, v < k) : BfsI fs (fun v => v ∈ ks) k (ks.map fun v => (v, 0)) ks fun _ _ => False where
  nd := by simpa [Function.comp_def] using nd
  lt := fun v n h => by
    obtain ⟨a, h1, e⟩ := List.mem_map.mp h
    cases e; exact hk _ h1
  sound := fun v n h => by
    obtain ⟨a, h1, e⟩ := List.mem_map.mp h
    cases e; exact h1
  src0 := fun v h => List.mem_map.mpr ⟨v, h, rfl⟩
  inW := fun w h => mem_keys.mpr ⟨0, List.mem_map.mpr ⟨w, h, rfl⟩⟩
  clo := fun v n x h nW _ => by
    obtain ⟨a, h1, e⟩ := List.mem_map.mp h
    cases e; exact absurd h1 nW
  up := fun v n w m h _ _ => by
    obtain ⟨a, h1, e⟩ := List.mem_map.mp h
    cases e; omega
  srt := by
    refine List.Pairwise.imp (R := fun _ _ => True) ?_ (by simp [List.pairwise_iff_getElem])
    intro a b _ m m' h _
    obtain ⟨_, _, e⟩ := List.mem_map.mp h
    cases e; omega
theorem BfsI.pop (I : BfsI fs src k A (u :: W) fun _ _ => False) : ∃ nu, BfsI fs src k A W (fun v x => v = u ∧ (v, x) ∈ fs) ∧ BfsU A W u nu := by
  obtain ⟨nu, hu⟩ := mem_keys.mp (I.inW u List.mem_cons_self)
  have sr := List.pairwise_cons.mp I.srt
  refine ⟨nu, ⟨I.nd, I.lt, I.sound, I.src0, fun w hw => I.inW w (List.mem_cons_of_mem _ hw), fun v n x h nW e => ?_, fun v n w m h hw hm => I.up v n w m h (List.mem_cons_of_mem _ hw) hm, sr.2⟩, ⟨hu, fun v n h => I.up v n u nu h List.mem_cons_self hu, fun w m hw hm => sr.1 w hw nu m hu hm⟩⟩
  by_cases q : v = u
  · exact .inr ⟨q, e⟩
  · rcases I.clo v n x h (fun z => (List.mem_cons.mp z).elim q nW) e with z | z
    · exact .inl z
    · exact z.elim
theorem BfsI.skip (I : BfsI fs src k A W pend) (h : ∀ v n x, (v, n) ∈ A → pend v x → (∃ m, (x, m) ∈ A ∧ m ≤ n + 1) ∨ pend' v x) : BfsI fs src k A W pend' :=
  ⟨I.nd, I.lt, I.sound, I.src0, I.inW, fun v n x hv nW e => (I.clo v n x hv nW e).elim .inl (h v n x hv), I.up, I.srt⟩
theorem BfsI.add (I : BfsI fs src k A W pend) (U : BfsU A W u nu) {t : Nat} (e : (u, t) ∈ fs) (nt : t ∉ keysA A) (ht : t < k) : BfsI fs src k (A ++ [(t, nu + 1)]) (W ++ [t]) pend ∧ BfsU (A ++ [(t, nu + 1)]) (W ++ [t]) u nu := by
  have old : ∀ {v n : Nat}, (v, n) ∈ A ++ [(t, nu + 1)] → (v, n) ∈ A ∨ (v = t ∧ n = nu + 1) := by
    intro v n h
    rcases List.mem_append.mp h with h | h
    · exact .inl h
    · have := List.mem_singleton.mp h
      cases this; exact .inr ⟨rfl, rfl⟩
  have oldK : ∀ {v n : Nat}, v ∈ keysA A → (v, n) ∈ A ++ [(t, nu + 1)] → (v, n) ∈ A := by
    intro v n hk h
    rcases old h with h | ⟨rfl, _⟩
    · exact h
    · exact absurd hk nt
  have all' : ∀ v n, (v, n) ∈ A ++ [(t, nu + 1)] → n ≤ nu + 1 := fun v n h => (old h).elim (U.all v n) fun ⟨_, q⟩ => by omega
  have low' : ∀ w m, w ∈ W ++ [t] → (w, m) ∈ A ++ [(t, nu + 1)] → nu ≤ m := by
    intro w m hw hm
    rcases old hm with h | ⟨_, q⟩
    · rcases List.mem_append.mp hw with z | z
      · exact U.low w m z h
      · have : w = t := by simpa using z
        subst this
        exact absurd (mem_keys.mpr ⟨m, h⟩) nt
    · omega
  refine ⟨⟨?_, ?_, ?_, ?_, ?_, ?_, ?_, ?_⟩, ⟨List.mem_append_left _ U.hu, all', low'⟩⟩
  · rw [keysA, List.map_append, List.nodup_append]
    exact ⟨I.nd, by simp, fun a ha b hb z => by
      have : b = t := by simpa using hb
      subst this; subst z; exact nt ha⟩
  · intro v n h
    rcases old h with h | ⟨rfl, _⟩
    · exact I.lt v n h
    · exact ht
  · intro v n h
    rcases old h with h | ⟨rfl, rfl⟩
    · exact I.sound v n h
    · exact .inr ⟨u, I.sound u nu U.hu, e⟩
  · exact fun v h => List.mem_append_left _ (I.src0 v h)
  · intro w hw
    rw [keysA, List.map_append]
    rcases List.mem_append.mp hw with z | z
    · exact List.mem_append_left _ (I.inW w z)
    · exact List.mem_append_right _ (by simpa using z)
  · intro v n x h nW ex
    rcases old h with h | ⟨rfl, _⟩
    · rcases I.clo v n x h (fun z => nW (List.mem_append_left _ z)) ex with ⟨m, a, b⟩ | z
      · exact .inl ⟨m, List.mem_append_left _ a, b⟩
      · exact .inr z
    · exact absurd (List.mem_append_right _ (by simp)) nW
  · intro v n w m h hw hm
    have := all' v n h
    have := low' w m hw hm
    omega
  · rw [List.pairwise_append]
    refine ⟨?_, by simp, fun a ha b hb m m' hm hm' => ?_⟩
    · refine List.Pairwise.imp_of_mem ?_ I.srt
      intro a b ha hb h m m' hm hm'
      exact h m m' (oldK (I.inW a ha) hm) (oldK (I.inW b hb) hm')
    · have : b = t := by simpa using hb
      subst this
      have q : m' = nu + 1 := by
        rcases old hm' with z | ⟨_, z⟩
        · exact absurd (mem_keys.mpr ⟨m', z⟩) nt
        · exact z
      have := all' a m hm
      omega
/-- with an empty queue the lengths are the distances -/
theorem BfsI.dist (I : BfsI fs src k A [] fun _ _ => False) : (∀ v n, (v, n) ∈ A → IsDist fs src n v) ∧ ∀ v, Reach fs src v → ∃ n, (v, n) ∈ A :=
  dist_of (val := fun v n => (v, n) ∈ A) I.sound (fun v h => ⟨0, I.src0 v h, Nat.le_refl _⟩) (fun a v n h e => (I.clo a n v h (by simp) e).resolve_right id) fun v n m h h' => as_uniq I.nd h h'
end
/-! ### the dict of it -/
def kvA (A : As) : List (Kk × D) := A.map fun p => ((Sum.inl (p.1 : Int) : Kk), D.int (p.2 : Int))
theorem kk_inj {a b : Nat} : (Sum.inl (a : Int) : Kk) = Sum.inl (b : Int) ↔ a = b := by
  constructor
  · intro h
    have := Sum.inl.inj h
    omega
  · rintro rfl; rfl
theorem valD_some {A : As} (nd : (keysA A).Nodup) {v n : Nat} (h : (v, n) ∈ A) : valD (kvA A) (Sum.inl (v : Int)) = some (.int (n : Int)) := by
  induction A with
  | nil => cases h
  | cons p A ih =>
    unfold valD kvA
    rw [List.map_cons, List.find?_cons]
    by_cases q : p.1 = v
    · have : decide ((Sum.inl (p.1 : Int) : Kk) = Sum.inl (v : Int)) = true := decide_eq_true (kk_inj.mpr q)
      rw [this]
      have e := as_uniq nd h (show (v, p.2) ∈ p :: A by rw [← q]; exact List.mem_cons_self)
      rw [e]; rfl
    · have : decide ((Sum.inl (p.1 : Int) : Kk) = Sum.inl (v : Int)) = false := decide_eq_false fun z => q (kk_inj.mp z)
      rw [this]
      rw [keysA, List.map_cons, List.nodup_cons] at nd
      have h' : (v, n) ∈ A := by
        rcases List.mem_cons.mp h with e | e
        · rw [← e] at q; exact absurd rfl q
        · exact e
      exact ih nd.2 h'
theorem valD_none {A : As} {v : Nat} (h : v ∉ keysA A) : valD (kvA A) (Sum.inl (v : Int)) = none := by
  induction A with
  | nil => rfl
  | cons p A ih =>
    unfold valD kvA
    rw [List.map_cons, List.find?_cons]
    rw [keysA, List.map_cons, List.mem_cons, not_or] at h
    have : decide ((Sum.inl (p.1 : Int) : Kk) = Sum.inl (v : Int)) = false := decide_eq_false fun z => h.1 (kk_inj.mp z).symm
    rw [this]
    exact ih h.2
theorem putD_new {A : As} {v n : Nat} (h : v ∉ keysA A) : putD (kvA A) (Sum.inl (v : Int)) (.int (n : Int)) = kvA (A ++ [(v, n)]) := by
  unfold putD
  rw [if_neg]
  · simp [kvA]
  · intro z
    obtain ⟨p, hp, e⟩ := List.any_eq_true.mp z
    obtain ⟨q, hq, rfl⟩ := List.mem_map.mp hp
    have := kk_inj.mp (of_decide_eq_true e)
    exact h (by rw [← this]; exact List.mem_map.mpr ⟨q, hq, rfl⟩)
theorem mergeD_nd : ∀ {B A : As}, (keysA (A ++ B)).Nodup → mergeD (kvA A) (kvA B) = kvA (A ++ B)
  | [], A, _ => by simp [mergeD, kvA]
  | p :: B, A, h => by
    have np : p.1 ∉ keysA A := by
      intro z
      rw [keysA, List.map_append, List.nodup_append] at h
      exact h.2.2 _ z _ (by simp) rfl
    have := mergeD_nd (B := B) (A := A ++ [p]) (by simpa using h)
    unfold mergeD at this ⊢
    unfold kvA at this ⊢
    rw [List.map_cons, List.foldl_cons]
    have e := putD_new (n := p.2) np
    unfold kvA at e
    rw [e]
    simpa using this
section
variable {fs : List (Nat × Nat)} {src : Nat → Prop} {k : Nat} {A : As} {W : List Nat} {pend pend' : Nat → Nat → Prop} {u nu : Nat}
theorem BfsI.edge_in (I : BfsI fs src k A W pend) (U : BfsU A W u nu) {t : Nat} (ht : t ∈ keysA A) (h : ∀ v x, pend v x → pend' v x ∨ (v = u ∧ x = t)) : BfsI fs src k A W pend' :=
  I.skip fun v n x hv hp => by
    rcases h v x hp with z | ⟨rfl, rfl⟩
    · exact .inr z
    · obtain ⟨m, hm⟩ := mem_keys.mp ht
      have := U.all _ m hm
      have e := as_uniq I.nd hv U.hu
      exact .inl ⟨m, hm, by omega⟩
end
/-! ### dicts of the store -/
theorem oInD_some {S : Store} {l : Nat} {kvs : List (Kk × D)} {v : Nat} {d : D} (h : S[l]? = some (.dk kvs)) (e : valD kvs (Sum.inl (v : Int)) = some d) : oInD (.int (v : Int)) (.ref l) S = .ok (.bl true) S := by
  unfold oInD getD; dsimp only; rw [h]; dsimp only [keyD]; rw [e]; rfl
theorem oInD_none {S : Store} {l : Nat} {kvs : List (Kk × D)} {v : Nat} (h : S[l]? = some (.dk kvs)) (e : valD kvs (Sum.inl (v : Int)) = none) : oInD (.int (v : Int)) (.ref l) S = .ok (.bl false) S := by
  unfold oInD getD; dsimp only; rw [h]; dsimp only [keyD]; rw [e]; rfl
theorem oIxD_some {S : Store} {l : Nat} {kvs : List (Kk × D)} {v : Nat} {d : D} (h : S[l]? = some (.dk kvs)) (e : valD kvs (Sum.inl (v : Int)) = some d) : oIxD (.ref l) (.int (v : Int)) S = .ok d S := by
  unfold oIxD getD; dsimp only; rw [h]; dsimp only [keyD]; rw [e]
theorem uSetD_nat {S : Store} {l : Nat} {kvs : List (Kk × D)} {v : Nat} {d : D} (h : S[l]? = some (.dk kvs)) (hz : kvs.length < LIM) : uSetD (.ref l) (.int (v : Int)) d S = some (S.set l (.dk (putD kvs (Sum.inl (v : Int)) d))) := by
  unfold uSetD; dsimp only; rw [h]; dsimp only [keyD]; rw [if_pos hz]
theorem inD_A {S : Store} {l : Nat} {A : As} (nd : (keysA A).Nodup) (h : S[l]? = some (.dk (kvA A))) (v : Nat) : oInD (.int (v : Int)) (.ref l) S = .ok (.bl (decide (v ∈ keysA A))) S := by
  by_cases q : v ∈ keysA A
  · obtain ⟨n, hn⟩ := mem_keys.mp q
    rw [oInD_some h (valD_some nd hn), decide_eq_true q]
  · rw [oInD_none h (valD_none q), decide_eq_false q]
end WkL


set_option Elab.async false
set_option linter.all false
set_option maxRecDepth 100000
set_option maxHeartbeats 1000000
set_option autoImplicit false
/-! PvLengths: the law's own walk by lengths. -/
namespace WkL
open PySem (Str)
open Wk
def lbody : FS := sIf (tAnd (tE (eOp oEq (eV 5) (eV 4))) (tE (eOp oNinD (eV 6) (eV 2)))) (sSeq (sSub uSetD (eV 2) (eV 6) (eOp oAdd (eOp oIxD (eV 2) (eV 4)) (eC (.int 1))))
    (sExpr (eBM oAppend (eV 3) (eV 6)))) sSkip
theorem len_inner {c : Sch} (hc : c.Ok) {src : Nat → Prop} {ki di wi u nu : Nat} (hdw : di ≠ wi) {S0 : Store} (hd0 : S0.length ≤ di) (hw0 : S0.length ≤ wi) : ∀ (rest : List (Nat × Nat)) (s : Env) (T : Store) (A : As) (W : List Nat),
    (∃ y z, s = [some c.d, some (.ref ki), some (.ref di), some (.ref wi), some (.int (u : Int)), y, z, none]) → (∀ f ∈ rest, f ∈ c.fs) → T[di]? = some (.dk (kvA A)) → T[wi]? = some (.lst (intsN W)) → BfsI c.fs src c.k A W (fun v x => v = u ∧ (v, x) ∈ rest) → BfsU A W u nu →
    Keep [] S0 T → W.length ≤ A.length →
    ∃ s' T' A' W', forL [] (.tp [(.nm 5), (.nm 6)]) lbody (rest.map fD) s T = .nx s' T' ∧ (∃ y z, s' = [some c.d, some (.ref ki), some (.ref di), some (.ref wi), some (.int (u : Int)), y, z, none]) ∧ T'[di]? = some (.dk (kvA A')) ∧ T'[wi]? = some (.lst (intsN W')) ∧
      BfsI c.fs src c.k A' W' (fun _ _ => False) ∧ Keep [] S0 T' ∧ W'.length + A.length = W.length + A'.length := by
  intro rest
  induction rest with
  | nil =>
    rintro s T A W ⟨y, z, rfl⟩ hr hD hW I U K _
    exact ⟨_, T, A, W, forL_nil rfl, ⟨y, z, rfl⟩, hD, hW, I.skip (fun v n x _ hp => by cases hp.2), K, rfl⟩
  | cons f rest ih =>
    rintro s T A W ⟨y, z, rfl⟩ hr hD hW I U K hWA
    have hf := hr f List.mem_cons_self
    obtain ⟨q1, q2, q3⟩ := hc.fs f hf
    have hA := I.len
    have k24 := hc.k24
    have hr' : ∀ g ∈ rest, g ∈ c.fs := fun g hg => hr g (List.mem_cons_of_mem _ hg)
    by_cases ha : f.1 = u
    · by_cases hx : f.2 ∈ keysA A
      · have I' : BfsI c.fs src c.k A W (fun v x => v = u ∧ (v, x) ∈ rest) := I.edge_in U hx fun v x ⟨e1, e2⟩ => by
          rcases List.mem_cons.mp e2 with e | e
          · exact .inr ⟨e1, by rw [← e]⟩
          · exact .inl ⟨e1, e⟩
        obtain ⟨s', T', A', W', e, i1, i2, i3, i4, i5, i6⟩ := ih [some c.d, some (.ref ki), some (.ref di), some (.ref wi), some (.int (u : Int)), some (.int (f.1 : Int)), some (.int (f.2 : Int)), none] T A W ⟨_, _, rfl⟩ hr' hD hW I' U K hWA
        have nin := inD_A I.nd hD f.2
        refine ⟨s', T', A', W', (forL_cons (s1 := [some c.d, some (.ref ki), some (.ref di), some (.ref wi), some (.int (u : Int)), some (.int (f.1 : Int)), some (.int (f.2 : Int)), none]) rfl rfl ?_).trans e, i1, i2, i3, i4, i5, i6⟩
        simp only [decide_eq_true hx] at nin
        simp [lbody, ha, nin]
      · obtain ⟨I1, U1⟩ := I.add U (t := f.2) (by rw [← ha]; exact hf) hx q3
        have I' : BfsI c.fs src c.k (A ++ [(f.2, nu + 1)]) (W ++ [f.2]) (fun v x => v = u ∧ (v, x) ∈ rest) := I1.edge_in U1 (t := f.2) (by simp) fun v x ⟨e1, e2⟩ => by
          rcases List.mem_cons.mp e2 with e | e
          · exact .inr ⟨e1, by rw [← e]⟩
          · exact .inl ⟨e1, e⟩
        have hset : uSetD (.ref di) (.int (f.2 : Int)) (.int ((nu : Int) + 1)) T = some (T.set di (.dk (kvA (A ++ [(f.2, nu + 1)])))) := by
          rw [uSetD_nat hD (by simp [kvA, LIM_val]; omega)]
          have := putD_new (n := nu + 1) hx
          rw [show ((nu + 1 : Nat) : Int) = (nu : Int) + 1 by omega] at this
          rw [this]
        have hW1 : (T.set di (.dk (kvA (A ++ [(f.2, nu + 1)]))))[wi]? = some (.lst (intsN W)) := by rw [List.getElem?_set_ne hdw]; exact hW
        have il := isLst_lst hW1
        have ap := oAppend_lst (y := .int (f.2 : Int)) hW1 (by rw [LIM_val]; simp; omega)
        have eW : intsN W ++ [D.int (f.2 : Int)] = intsN (W ++ [f.2]) := by simp
        rw [eW] at ap
        generalize hT2 : (T.set di (.dk (kvA (A ++ [(f.2, nu + 1)])))).set wi (.lst (intsN (W ++ [f.2]))) = T2 at ap
        have hD2 : T2[di]? = some (.dk (kvA (A ++ [(f.2, nu + 1)]))) := by rw [← hT2, List.getElem?_set_ne (Ne.symm hdw)]; exact get_set_self hD
        have hW2 : T2[wi]? = some (.lst (intsN (W ++ [f.2]))) := by rw [← hT2]; exact get_set_self hW1
        have K2 : Keep [] S0 T2 := by
          rw [← hT2]
          exact K.new (Y := [di, wi]) ((Keep.set _ (.inl (by simp))).trans (Keep.set _ (.inl (by simp)))) (fun i hi => .inr (by simp at hi; omega))
        obtain ⟨s', T', A', W', e, i1, i2, i3, i4, i5, i6⟩ := ih [some c.d, some (.ref ki), some (.ref di), some (.ref wi), some (.int (u : Int)), some (.int (f.1 : Int)), some (.int (f.2 : Int)), none] T2 (A ++ [(f.2, nu + 1)]) (W ++ [f.2]) ⟨_, _, rfl⟩ hr' hD2 hW2 I' U1 K2 (by simp; omega)
        have nin := inD_A I.nd hD f.2
        have val := oIxD_some hD (valD_some I.nd U.hu)
        refine ⟨s', T', A', W', (forL_cons (s1 := [some c.d, some (.ref ki), some (.ref di), some (.ref wi), some (.int (u : Int)), some (.int (f.1 : Int)), some (.int (f.2 : Int)), none]) rfl rfl ?_).trans e, i1, i2, i3, i4, i5, by simp at i6 ⊢; omega⟩
        simp only [decide_eq_false hx] at nin
        simp [lbody, ha, nin, val, hset, il, ap]
    · have I' : BfsI c.fs src c.k A W (fun v x => v = u ∧ (v, x) ∈ rest) := I.skip fun v n x hv ⟨e1, e2⟩ => by
        rcases List.mem_cons.mp e2 with e | e
        · exact absurd (by rw [← e]; exact e1) ha
        · exact .inr ⟨e1, e⟩
      obtain ⟨s', T', A', W', e, i1, i2, i3, i4, i5, i6⟩ := ih [some c.d, some (.ref ki), some (.ref di), some (.ref wi), some (.int (u : Int)), some (.int (f.1 : Int)), some (.int (f.2 : Int)), none] T A W ⟨_, _, rfl⟩ hr' hD hW I' U K hWA
      refine ⟨s', T', A', W', (forL_cons (s1 := [some c.d, some (.ref ki), some (.ref di), some (.ref wi), some (.int (u : Int)), some (.int (f.1 : Int)), some (.int (f.2 : Int)), none]) rfl rfl ?_).trans e, i1, i2, i3, i4, i5, i6⟩
      have ha' : ¬ (f.1 : Int) = (u : Int) := by omega
      simp [lbody, ha']
theorem pairsD_zero : ∀ ks : List Nat, pairsD (ks.map fun (v : Nat) => D.tup [.int (v : Int), .int 0]) = some (kvA (ks.map fun v => (v, 0)))
  | [] => rfl
  | v :: ks => by
    rw [List.map_cons]
    unfold pairsD
    rw [pairsD_zero ks]
    rfl
/-- the tail of a list, by pop(0) -/
theorem oPop0 {S : Store} {l u : Nat} {W : List Nat} (h : S[l]? = some (.lst (intsN (u :: W)))) : oPopAt (.ref l) (.int 0) S = .ok (.int (u : Int)) (S.set l (.lst (intsN W))) := by
  unfold oPopAt
  dsimp only
  rw [h]
  dsimp only
  rw [show ixN (intsN (u :: W)).length 0 = some 0 from ixN_nat _ 0 (by simp)]
  rfl
theorem lengths_ok {c : Sch} (hc : c.Ok) {S : Store} {ki : Nat} {ks : List Nat} (nd : ks.Nodup) (hk : ∀ v ∈ ks, v < c.k) (hki : S[ki]? = some (.lst (intsN ks))) : ∃ di A T, F__law_lengths_from [c.d, .ref ki] S = .ok (.ref di) T ∧ T[di]? = some (.dk (kvA A)) ∧ (keysA A).Nodup ∧
    (∀ v n, (v, n) ∈ A → v < c.k ∧ IsDist c.fs (fun v => v ∈ ks) n v) ∧ (∀ v, Reach c.fs (fun v => v ∈ ks) v → ∃ n, (v, n) ∈ A) ∧ Keep [] S T := by
  have k24 := hc.k24
  have hks := nodup_lt_len nd hk
  have c1 : compL [(ki, .lst (intsN ks))] (.nm 7) tTrue (eTup (aCons (eV 7) (aCons (eC (.int 0)) aNil))) [some c.d, some (.ref ki), none, none, none, none, none, none] (intsN ks) S = .ok (ks.map fun (v : Nat) => D.tup [.int (v : Int), .int 0]) S := by
    refine Eq.trans (compL_map (f := fun d => .tup [d, .int 0]) (by simp [okC, hki]) _ fun d hd => ⟨_, rfl, by simp [LIM_val]⟩) ?_
    rw [intsN, List.map_map]; rfl
  have mg : mergeD [] (kvA (ks.map fun v => (v, 0))) = kvA (ks.map fun v => (v, 0)) := by
    have := mergeD_nd (B := ks.map fun v => (v, 0)) (A := []) (by simpa [keysA, Function.comp_def] using nd)
    simpa [kvA] using this
  generalize hT1 : S ++ [Ob.lst (ks.map fun (v : Nat) => D.tup [.int (v : Int), .int 0])] = T1
  have g1 : T1[S.length]? = some (.lst (ks.map fun (v : Nat) => D.tup [.int (v : Int), .int 0])) := by rw [← hT1]; exact get_last _ _
  have dct : fDict (.ref S.length) T1 = .ok (.ref T1.length) (T1 ++ [.dk (kvA (ks.map fun v => (v, 0)))]) := by
    unfold fDict; dsimp only; rw [g1]; dsimp only; rw [pairsD_zero]; dsimp only; rw [mg]
  generalize hT2 : T1 ++ [Ob.dk (kvA (ks.map fun v => (v, 0)))] = T2 at dct
  have K2 : Keep [] S T2 := by rw [← hT2, ← hT1]; exact (Keep.push _ _ _).trans (Keep.push _ _ _)
  have g2 := K2.get hki (by simp)
  have l1 : S.length < T1.length := by rw [← hT1]; simp
  have l2 : T2.length = T1.length + 1 := by rw [← hT2]; simp
  obtain ⟨s', T', ew, A, x, y, z, rfl, hD, hW, I, K⟩ := whileL_runN (t := tE (eOp oNe (eV 3) (eLst aNil))) (b := sSeq (sSet 4 (eBM oPopAt (eV 3) (eC (.int 0))))
    (sFor (iSeq (eOp oIx (eV 0) (eC (.int 2)))) (.tp [(.nm 5), (.nm 6)]) lbody))
    (fun m s T => ∃ A W x y z, s = [some c.d, some (.ref ki), some (.ref T1.length), some (.ref T2.length), x, y, z, none] ∧ T[T1.length]? = some (.dk (kvA A)) ∧ T[T2.length]? = some (.lst (intsN W)) ∧ BfsI c.fs (fun v => v ∈ ks) c.k A W (fun _ _ => False) ∧ Keep [] S T ∧ W.length ≤ A.length ∧ m + A.length = 100 + W.length)
    (fun s T => ∃ A x y z, s = [some c.d, some (.ref ki), some (.ref T1.length), some (.ref T2.length), x, y, z, none] ∧ T[T1.length]? = some (.dk (kvA A)) ∧ T[T2.length]? = some (.lst (intsN [])) ∧ BfsI c.fs (fun v => v ∈ ks) c.k A [] (fun _ _ => False) ∧ Keep [] S T)
    (by
      rintro m s T ⟨A, W, x, y, z, rfl, hD, hW, I, K, hWA, hm⟩
      have kk := Keep.push T [Ob.lst []] []
      have hD' := kk.get hD (by simp)
      have hW' := kk.get hW (by simp)
      have eq : oEq (.ref T2.length) (.ref T.length) (T ++ [Ob.lst []]) = .ok (.bl (decide (W = []))) (T ++ [Ob.lst []]) := oEq_nats hW' (ys := []) (by simp)
      have test : tE (eOp oNe (eV 3) (eLst aNil)) [some c.d, some (.ref ki), some (.ref T1.length), some (.ref T2.length), x, y, z, none] T = .ok (!decide (W = [])) (T ++ [Ob.lst []]) := by
        simp [LIM_val, eq]
      cases W with
      | nil =>
        left
        exact ⟨_, by rw [test]; rfl, A, x, y, z, rfl, hD', hW', I, K.trans kk⟩
      | cons u W =>
        right
        have hA := I.len
        obtain ⟨nu, I1, U1⟩ := I.pop
        have il := isLst_lst hW'
        have pop := oPop0 hW'
        generalize hT3 : (T ++ [Ob.lst []]).set T2.length (.lst (intsN W)) = T3 at pop
        have hD3 : T3[T1.length]? = some (.dk (kvA A)) := by rw [← hT3, List.getElem?_set_ne (by omega)]; exact hD'
        have hW3 : T3[T2.length]? = some (.lst (intsN W)) := by rw [← hT3]; exact get_set_self hW'
        have K3 : Keep [] S T3 := by
          rw [← hT3]
          exact (K.trans kk).new (Y := [T2.length]) (Keep.set _ (.inl (by simp))) (fun i hi => .inr (by simp at hi; omega))
        simp at hWA hm
        obtain ⟨s2, T4, A2, W2, e4, ⟨y2, z2, rfl⟩, hD4, hW4, I4, K4, hm4⟩ := len_inner hc (ki := ki) (by omega) (S0 := S) (by omega) (by omega) c.fs [some c.d, some (.ref ki), some (.ref T1.length), some (.ref T2.length), some (.int (u : Int)), y, z, none] T3 A W ⟨_, _, rfl⟩ (fun _ h => h) hD3 hW3 I1 U1 K3 (by omega)
        have hA2 := I4.len
        have hA1 : A.length ≤ A2.length + A.length := by omega
        refine ⟨T ++ [Ob.lst []], _, T4, 100 + W2.length - A2.length, by rw [test]; simp, .inl ?_, ⟨A2, W2, some (.int (u : Int)), y2, z2, rfl, hD4, hW4, I4, K4, by omega, by omega⟩, by omega⟩
        have e4' := e4
        unfold Sch.d at e4' ⊢
        simp [il, pop]
        exact e4') FUEL 100 [some c.d, some (.ref ki), some (.ref T1.length), some (.ref T2.length), none, none, none, none] (T2 ++ [.lst (intsN ks)])
      ⟨ks.map fun v => (v, 0), ks, none, none, none, rfl, by rw [List.getElem?_append_left (by omega), ← hT2]; exact get_last _ _, get_last _ _, BfsI.start nd hk, K2.trans (Keep.push _ _ _), by simp, by simp⟩ (by decide)
  obtain ⟨d1, d2⟩ := I.dist
  refine ⟨T1.length, A, T', ?_, hD, I.nd, fun v n h => ⟨I.lt v n h, d1 v n h⟩, d2, K⟩
  have ew' := ew
  have c1' := c1
  have ls := fList_lst g2
  unfold lbody at ew'
  unfold Sch.d at ew' c1' ⊢
  simp [F__law_lengths_from, mkF, startE, hki, c1', hT1, dct, ls, ew']
end WkL


set_option Elab.async false
set_option linter.all false
set_option maxRecDepth 100000
set_option maxHeartbeats 1000000
set_option autoImplicit false
/-! PvCome: come_by, way_back: the walk by rows of kinds. -/
namespace WkL
open PySem (Str)
open Wk
abbrev Cs := List (Nat × Nat × Option Nat)
def oD : Option Nat → D
  | none => .non
  | some f => .int (f : Int)
abbrev asC (C : Cs) : As := C.map fun p => (p.1, p.2.1)
def kvC (C : Cs) : List (Kk × D) := C.map fun p => ((Sum.inl (p.1 : Int) : Kk), oD p.2.2)
theorem keysC (C : Cs) : keysA (asC C) = C.map (·.1) := by rw [keysA, asC, List.map_map]; rfl
theorem valC_some {C : Cs} (nd : (keysA (asC C)).Nodup) {v n : Nat} {o : Option Nat} (h : (v, n, o) ∈ C) : valD (kvC C) (Sum.inl (v : Int)) = some (oD o) := by
  rw [keysC] at nd
  induction C with
  | nil => cases h
  | cons p C ih =>
    unfold valD kvC
    rw [List.map_cons, List.find?_cons]
    rw [List.map_cons, List.nodup_cons] at nd
    by_cases q : p.1 = v
    · have : decide ((Sum.inl (p.1 : Int) : Kk) = Sum.inl (v : Int)) = true := decide_eq_true (kk_inj.mpr q)
      rw [this]
      have e : p = (v, n, o) := by
        rcases List.mem_cons.mp h with e | e
        · exact e.symm
        · exact absurd (List.mem_map.mpr ⟨_, e, q.symm⟩) nd.1
      rw [e]; rfl
    · have : decide ((Sum.inl (p.1 : Int) : Kk) = Sum.inl (v : Int)) = false := decide_eq_false fun z => q (kk_inj.mp z)
      rw [this]
      have h' : (v, n, o) ∈ C := by
        rcases List.mem_cons.mp h with e | e
        · rw [← e] at q; exact absurd rfl q
        · exact e
      exact ih nd.2 h'
theorem valC_none {C : Cs} {v : Nat} (h : v ∉ keysA (asC C)) : valD (kvC C) (Sum.inl (v : Int)) = none := by
  rw [keysC] at h
  induction C with
  | nil => rfl
  | cons p C ih =>
    unfold valD kvC
    rw [List.map_cons, List.find?_cons]
    rw [List.map_cons, List.mem_cons, not_or] at h
    have : decide ((Sum.inl (p.1 : Int) : Kk) = Sum.inl (v : Int)) = false := decide_eq_false fun z => h.1 (kk_inj.mp z).symm
    rw [this]
    exact ih h.2
theorem memC {C : Cs} {v : Nat} (h : v ∈ keysA (asC C)) : ∃ n o, (v, n, o) ∈ C := by
  rw [keysC] at h
  obtain ⟨⟨a, n, o⟩, h1, rfl⟩ := List.mem_map.mp h
  exact ⟨n, o, h1⟩
theorem inD_C {S : Store} {l : Nat} {C : Cs} (nd : (keysA (asC C)).Nodup) (h : S[l]? = some (.dk (kvC C))) (v : Nat) : oInD (.int (v : Int)) (.ref l) S = .ok (.bl (decide (v ∈ keysA (asC C)))) S := by
  by_cases q : v ∈ keysA (asC C)
  · obtain ⟨n, o, hn⟩ := memC q
    rw [oInD_some h (valC_some nd hn), decide_eq_true q]
  · rw [oInD_none h (valC_none q), decide_eq_false q]
theorem putC_new {C : Cs} {v n : Nat} {o : Option Nat} (h : v ∉ keysA (asC C)) : putD (kvC C) (Sum.inl (v : Int)) (oD o) = kvC (C ++ [(v, n, o)]) := by
  rw [keysC] at h
  unfold putD
  rw [if_neg]
  · simp [kvC]
  · intro z
    obtain ⟨p, hp, e⟩ := List.any_eq_true.mp z
    obtain ⟨q, hq, rfl⟩ := List.mem_map.mp hp
    have := kk_inj.mp (of_decide_eq_true e)
    exact h (by rw [← this]; exact List.mem_map.mpr ⟨q, hq, rfl⟩)
theorem mergeC_nd : ∀ {B A : Cs}, (keysA (asC (A ++ B))).Nodup → mergeD (kvC A) (kvC B) = kvC (A ++ B)
  | [], A, _ => by simp [mergeD, kvC]
  | p :: B, A, h => by
    have np : p.1 ∉ keysA (asC A) := by
      intro z
      rw [keysC] at h z
      rw [List.map_append, List.nodup_append] at h
      exact h.2.2 _ z _ (by simp) rfl
    have := mergeC_nd (B := B) (A := A ++ [p]) (by simpa using h)
    unfold mergeD at this ⊢
    unfold kvC at this ⊢
    rw [List.map_cons, List.foldl_cons]
    have e := putC_new (n := p.2.1) (o := p.2.2) np
    unfold kvC at e
    rw [e]
    simpa using this
/-- by which field each kind is come to -/
structure PathI (fs : List (Nat × Nat)) (src : Nat → Prop) (C : Cs) : Prop where
  none : ∀ v n, (v, n, none) ∈ C → n = 0 ∧ src v
  some : ∀ v n f, (v, n, some f) ∈ C → ∃ a m, fs[f]? = some (a, v) ∧ (a, m) ∈ asC C ∧ n = m + 1
def cbody : FS := sSeq (sSet 8 (eOp oIx (eOp oIx (eOp oIx (eV 0) (eC (.int 2))) (eV 7)) (eC (.int 1))))
    (sIf (tE (eOp oNinD (eV 8) (eV 4))) (sSeq (sSub uSetD (eV 4) (eV 8) (eV 7))
    (sExpr (eBM oAppend (eV 6) (eV 8)))) sSkip)
/-- where the things of come_by stand: held at l, its rows behind b; found at di, later at li -/
structure ComeAt (c : Sch) (l b di li ri : Nat) (C : Cs) (L R : List Nat) (T : Store) : Prop where
  held : Held c l b T
  fo : T[di]? = some (.dk (kvC C))
  lo : T[li]? = some (.lst (intsN L))
  ro : T[ri]? = some (.lst (intsN R))
  ne : di ≠ li
  nr : ri ≠ di ∧ ri ≠ li
  nd : l ≠ di ∧ ∀ a, a < c.k → b + a ≠ di
  nl : l ≠ li ∧ ∀ a, a < c.k → b + a ≠ li
theorem ComeAt.setD {c : Sch} {l b di li ri : Nat} {C C' : Cs} {L R : List Nat} {T : Store} (h : ComeAt c l b di li ri C L R T) : ComeAt c l b di li ri C' L R (T.set di (.dk (kvC C'))) :=
  ⟨⟨by rw [List.getElem?_set_ne (Ne.symm h.nd.1)]; exact h.held.top, fun a ha => by rw [List.getElem?_set_ne (Ne.symm (h.nd.2 a ha))]; exact h.held.row a ha⟩, get_set_self h.fo, by rw [List.getElem?_set_ne h.ne]; exact h.lo, by rw [List.getElem?_set_ne (Ne.symm h.nr.1)]; exact h.ro, h.ne, h.nr, h.nd, h.nl⟩
theorem ComeAt.setL {c : Sch} {l b di li ri : Nat} {C : Cs} {L L' R : List Nat} {T : Store} (h : ComeAt c l b di li ri C L R T) : ComeAt c l b di li ri C L' R (T.set li (.lst (intsN L'))) :=
  ⟨⟨by rw [List.getElem?_set_ne (Ne.symm h.nl.1)]; exact h.held.top, fun a ha => by rw [List.getElem?_set_ne (Ne.symm (h.nl.2 a ha))]; exact h.held.row a ha⟩, by rw [List.getElem?_set_ne (Ne.symm h.ne)]; exact h.fo, get_set_self h.lo, by rw [List.getElem?_set_ne (Ne.symm h.nr.2)]; exact h.ro, h.ne, h.nr, h.nd, h.nl⟩
theorem come_inner {c : Sch} (hc : c.Ok) {src : Nat → Prop} {u nu : Nat} (hu : u < c.k) {R Rr : List Nat} : ∀ (rest : List Nat) (C : Cs) (L : List Nat), (∀ f ∈ rest, f ∈ fo c.fs c.fs.length u) →
    BfsI c.fs src c.k (asC C) (Rr ++ L) (fun v x => v = u ∧ ∃ f ∈ rest, c.fs[f]? = some (v, x)) → BfsU (asC C) (Rr ++ L) u nu → PathI c.fs src C → L.length ≤ C.length →
    ∃ C' L', BfsI c.fs src c.k (asC C') (Rr ++ L') (fun _ _ => False) ∧ PathI c.fs src C' ∧ L'.length + C.length = L.length + C'.length ∧
      ∀ (l b di li ri ki : Nat) (S0 : Store) (s : Env) (T : Store), S0.length ≤ di → S0.length ≤ li → (∃ y z, s = [some c.d, some (.ref ki), some (.ref l), some (.int (u : Int)), some (.ref di), some (.ref ri), some (.ref li), y, z]) → ComeAt c l b di li ri C L R T → Keep [] S0 T →
      ∃ s' T', forL [(b + u, .lst (intsN (fo c.fs c.fs.length u)))] (.nm 7) cbody (intsN rest) s T = .nx s' T' ∧ (∃ y z, s' = [some c.d, some (.ref ki), some (.ref l), some (.int (u : Int)), some (.ref di), some (.ref ri), some (.ref li), y, z]) ∧ ComeAt c l b di li ri C' L' R T' ∧ Keep [] S0 T' := by
  intro rest
  induction rest with
  | nil =>
    intro C L hr I U P _
    refine ⟨C, L, I.skip (fun v n x _ hp => ?_), P, rfl, ?_⟩
    · obtain ⟨_, f, hf, _⟩ := hp
      simp at hf
    · rintro l b di li ri ki S0 s T _ _ ⟨y, z, rfl⟩ A K
      exact ⟨_, T, forL_nil (by simp [okC, A.held.row u hu]), ⟨y, z, rfl⟩, A, K⟩
  | cons f rest ih =>
    intro C L hr I U P hLC
    obtain ⟨hfl, t, hft⟩ := mem_fo.mp (hr f List.mem_cons_self)
    have hedge : (u, t) ∈ c.fs := List.mem_of_getElem? hft
    obtain ⟨q1, q2, q3⟩ := hc.fs _ hedge
    have hA := I.len
    rw [List.length_map] at hA
    have k24 := hc.k24
    have hr' : ∀ g ∈ rest, g ∈ fo c.fs c.fs.length u := fun g hg => hr g (List.mem_cons_of_mem _ hg)
    have pend : ∀ v x, (v = u ∧ ∃ g ∈ f :: rest, c.fs[g]? = some (v, x)) → (v = u ∧ ∃ g ∈ rest, c.fs[g]? = some (v, x)) ∨ (v = u ∧ x = t) := by
      rintro v x ⟨e1, g, hg, e2⟩
      rcases List.mem_cons.mp hg with e | e
      · subst e
        rw [hft] at e2
        cases e2
        exact .inr ⟨e1, rfl⟩
      · exact .inl ⟨e1, g, e, e2⟩
    by_cases hx : t ∈ keysA (asC C)
    · have I' := I.edge_in (pend' := fun v x => v = u ∧ ∃ g ∈ rest, c.fs[g]? = some (v, x)) U hx pend
      obtain ⟨C', L', i1, i2, i3, run⟩ := ih C L hr' I' U P hLC
      refine ⟨C', L', i1, i2, i3, ?_⟩
      rintro l b di li ri ki S0 s T hd0 hl0 ⟨y, z, rfl⟩ A K
      have ok : okC [(b + u, .lst (intsN (fo c.fs c.fs.length u)))] T = true := by simp [okC, A.held.row u hu]
      have nin := inD_C I.nd A.fo t
      obtain ⟨s', T', e, j⟩ := run l b di li ri ki S0 [some c.d, some (.ref ki), some (.ref l), some (.int (u : Int)), some (.ref di), some (.ref ri), some (.ref li), some (.int (f : Int)), some (.int (t : Int))] T hd0 hl0 ⟨_, _, rfl⟩ A K
      refine ⟨s', T', (forL_cons (s1 := [some c.d, some (.ref ki), some (.ref l), some (.int (u : Int)), some (.ref di), some (.ref ri), some (.ref li), some (.int (f : Int)), z]) ok rfl ?_).trans e, j⟩
      rw [decide_eq_true hx] at nin
      unfold cbody Sch.d
      simp [hft, fD, nin]
    · obtain ⟨I1, U1⟩ := I.add U (t := t) hedge hx q3
      have e1 : asC C ++ [(t, nu + 1)] = asC (C ++ [(t, nu + 1, some f)]) := by simp [asC]
      rw [e1] at I1 U1
      rw [List.append_assoc] at I1 U1
      have I' := I1.edge_in (pend' := fun v x => v = u ∧ ∃ g ∈ rest, c.fs[g]? = some (v, x)) U1 (t := t) (by simp [asC]) pend
      have P' : PathI c.fs src (C ++ [(t, nu + 1, some f)]) := by
        refine ⟨fun v n h => ?_, fun v n g h => ?_⟩
        · rcases List.mem_append.mp h with h | h
          · exact P.none v n h
          · simp at h
        · rcases List.mem_append.mp h with h | h
          · obtain ⟨a, m, h1, h2, h3⟩ := P.some v n g h
            exact ⟨a, m, h1, by rw [← e1]; exact List.mem_append_left _ h2, h3⟩
          · simp at h
            obtain ⟨rfl, rfl, rfl⟩ := h
            exact ⟨u, nu, hft, by rw [← e1]; exact List.mem_append_left _ U.hu, rfl⟩
      obtain ⟨C', L', i1, i2, i3, run⟩ := ih (C ++ [(t, nu + 1, some f)]) (L ++ [t]) hr' I' U1 P' (by simp; omega)
      refine ⟨C', L', i1, i2, by simp at i3 ⊢; omega, ?_⟩
      rintro l b di li ri ki S0 s T hd0 hl0 ⟨y, z, rfl⟩ A K
      have ok : okC [(b + u, .lst (intsN (fo c.fs c.fs.length u)))] T = true := by simp [okC, A.held.row u hu]
      have nin := inD_C I.nd A.fo t
      have hset : uSetD (.ref di) (.int (t : Int)) (.int (f : Int)) T = some (T.set di (.dk (kvC (C ++ [(t, nu + 1, some f)])))) := by
        rw [uSetD_nat A.fo (by simp [kvC, LIM_val]; omega)]
        have := putC_new (n := nu + 1) (o := some f) hx
        rw [← this]; rfl
      have A1 : ComeAt c l b di li ri (C ++ [(t, nu + 1, some f)]) L R (T.set di (.dk (kvC (C ++ [(t, nu + 1, some f)])))) := A.setD
      have il := isLst_lst A1.lo
      have ap := oAppend_lst (y := .int (t : Int)) A1.lo (by rw [LIM_val]; simp; omega)
      have eW : intsN L ++ [D.int (t : Int)] = intsN (L ++ [t]) := by simp
      rw [eW] at ap
      have A2 : ComeAt c l b di li ri (C ++ [(t, nu + 1, some f)]) (L ++ [t]) R ((T.set di (.dk (kvC (C ++ [(t, nu + 1, some f)])))).set li (.lst (intsN (L ++ [t])))) := A1.setL
      have K2 : Keep [] S0 ((T.set di (.dk (kvC (C ++ [(t, nu + 1, some f)])))).set li (.lst (intsN (L ++ [t])))) :=
        K.new (Y := [di, li]) ((Keep.set _ (.inl (by simp))).trans (Keep.set _ (.inl (by simp)))) (fun i hi => .inr (by simp at hi; omega))
      obtain ⟨s', T', e, j⟩ := run l b di li ri ki S0 [some c.d, some (.ref ki), some (.ref l), some (.int (u : Int)), some (.ref di), some (.ref ri), some (.ref li), some (.int (f : Int)), some (.int (t : Int))] _ hd0 hl0 ⟨_, _, rfl⟩ A2 K2
      refine ⟨s', T', (forL_cons (s1 := [some c.d, some (.ref ki), some (.ref l), some (.int (u : Int)), some (.ref di), some (.ref ri), some (.ref li), some (.int (f : Int)), z]) ok rfl ?_).trans e, j⟩
      rw [decide_eq_false hx] at nin
      unfold cbody Sch.d
      simp [hft, fD, nin, hset, il, ap]
def mbody : FS := sFor (iSeq (eOp oIx (eV 2) (eV 3))) (.nm 7) cbody
theorem come_mid {c : Sch} (hc : c.Ok) {src : Nat → Prop} {R : List Nat} : ∀ (Rr : List Nat) (C : Cs) (L : List Nat),
    BfsI c.fs src c.k (asC C) (Rr ++ L) (fun _ _ => False) → PathI c.fs src C → Rr.length + L.length ≤ C.length →
    ∃ C' L', BfsI c.fs src c.k (asC C') L' (fun _ _ => False) ∧ PathI c.fs src C' ∧ L'.length + C.length = L.length + C'.length ∧
      ∀ (l b di li ri ki : Nat) (S0 : Store) (s : Env) (T : Store), S0.length ≤ di → S0.length ≤ li → (∃ x y z, s = [some c.d, some (.ref ki), some (.ref l), x, some (.ref di), some (.ref ri), some (.ref li), y, z]) → ComeAt c l b di li ri C L R T → Keep [] S0 T →
      ∃ s' T', forL [(ri, .lst (intsN R))] (.nm 3) mbody (intsN Rr) s T = .nx s' T' ∧ (∃ x y z, s' = [some c.d, some (.ref ki), some (.ref l), x, some (.ref di), some (.ref ri), some (.ref li), y, z]) ∧ ComeAt c l b di li ri C' L' R T' ∧ Keep [] S0 T' := by
  intro Rr
  induction Rr with
  | nil =>
    intro C L I P _
    refine ⟨C, L, by simpa using I, P, rfl, ?_⟩
    rintro l b di li ri ki S0 s T _ _ ⟨x, y, z, rfl⟩ A K
    exact ⟨_, T, forL_nil (by simp [okC, A.ro]), ⟨x, y, z, rfl⟩, A, K⟩
  | cons u Rr ih =>
    intro C L I P hlen
    have hu : u < c.k := by
      obtain ⟨n, hn⟩ := mem_keys.mp (I.inW u (by simp))
      exact I.lt u n hn
    obtain ⟨nu, I1, U1⟩ := BfsI.pop (u := u) (W := Rr ++ L) (by simpa using I)
    simp at hlen
    obtain ⟨C1, L1, I2, P1, h1, run1⟩ := come_inner hc hu (R := R) (Rr := Rr) (fo c.fs c.fs.length u) C L (fun _ h => h)
      (I1.skip fun v n x hv ⟨q1, q2⟩ => .inr ⟨q1, by
        rw [q1] at q2
        obtain ⟨f, hf, ef⟩ := edge_ix q2
        exact ⟨f, hf, by rw [q1]; exact ef⟩⟩) U1 P (by omega)
    obtain ⟨C', L', i3, i4, i6, run2⟩ := ih C1 L1 I2 P1 (by omega)
    refine ⟨C', L', i3, i4, by omega, ?_⟩
    rintro l b di li ri ki S0 s T hd0 hl0 ⟨x, y, z, rfl⟩ A K
    obtain ⟨s1, T1, e1, ⟨y1, z1, rfl⟩, A1, K1⟩ := run1 l b di li ri ki S0 [some c.d, some (.ref ki), some (.ref l), some (.int (u : Int)), some (.ref di), some (.ref ri), some (.ref li), y, z] T hd0 hl0 ⟨_, _, rfl⟩ A K
    obtain ⟨s', T', e2, j⟩ := run2 l b di li ri ki S0 [some c.d, some (.ref ki), some (.ref l), some (.int (u : Int)), some (.ref di), some (.ref ri), some (.ref li), y1, z1] T1 hd0 hl0 ⟨_, _, _, rfl⟩ A1 K1
    refine ⟨s', T', (forL_cons (s1 := [some c.d, some (.ref ki), some (.ref l), some (.int (u : Int)), some (.ref di), some (.ref ri), some (.ref li), y, z]) (by simp [okC, A.ro]) rfl ?_).trans e2, j⟩
    have gt : ((List.range c.k).map fun (a : Nat) => D.ref (b + a))[u]? = some (.ref (b + u)) := by rw [List.getElem?_map, List.getElem?_range hu]; rfl
    have ix := oIx_lst A.held.top gt
    have gr := A.held.row u hu
    unfold mbody
    simp only [sFor_eq, iSeq_eq, eOp_eq, eV_eq, List.getElem?_cons_succ, List.getElem?_cons_zero, Res.bind_ok, ix, gr, ofE_ok]
    exact e1
def wtest : FT := tE (eOp oNe (eV 5) (eLst aNil))
def wbody : FS := sSeq (sSet 6 (eLst aNil)) (sSeq (sFor (iSeq (eV 5)) (.nm 3) mbody) (sSet 5 (eV 6)))
/-- where the things of come_by's while stand -/
structure ComeW (c : Sch) (l b di ri ki : Nat) (C : Cs) (R : List Nat) (s : Env) (T : Store) : Prop where
  env : ∃ x x6 y z, s = [some c.d, some (.ref ki), some (.ref l), x, some (.ref di), some (.ref ri), x6, y, z]
  held : Held c l b T
  fo : T[di]? = some (.dk (kvC C))
  ro : T[ri]? = some (.lst (intsN R))
  nr : ri ≠ di
  nd : l ≠ di ∧ ∀ a, a < c.k → b + a ≠ di
theorem come_while {c : Sch} (hc : c.Ok) {src : Nat → Prop} : ∀ (m : Nat) (C : Cs) (R : List Nat), BfsI c.fs src c.k (asC C) R (fun _ _ => False) → PathI c.fs src C → R.length ≤ C.length → m + C.length = 100 + R.length →
    ∃ C', BfsI c.fs src c.k (asC C') [] (fun _ _ => False) ∧ PathI c.fs src C' ∧ ∀ (l b di ri ki : Nat) (S0 : Store) (s : Env) (T : Store) (n : Nat), m < n → S0.length ≤ di → ComeW c l b di ri ki C R s T → Keep [] S0 T →
      ∃ s' T', whileL wtest wbody n s T = .nx s' T' ∧ (∃ x x5 x6 y z, s' = [some c.d, some (.ref ki), some (.ref l), x, some (.ref di), x5, x6, y, z]) ∧ T'[di]? = some (.dk (kvC C')) ∧ Keep [] S0 T' := by
  intro m
  induction m using Nat.strongRecOn with
  | _ m ih =>
    intro C R I P hRC hm
    have k24 := hc.k24
    have hA := I.len
    rw [List.length_map] at hA
    have tst : ∀ (l b di ri ki : Nat) (s : Env) (T : Store), ComeW c l b di ri ki C R s T → wtest s T = .ok (!decide (R = [])) (T ++ [Ob.lst []]) := by
      rintro l b di ri ki s T ⟨⟨x, x6, y, z, rfl⟩, H, hD, hR, _, _⟩
      have hR' := (Keep.push T [Ob.lst []] []).get hR (by simp)
      have eq : oEq (.ref ri) (.ref T.length) (T ++ [Ob.lst []]) = .ok (.bl (decide (R = []))) (T ++ [Ob.lst []]) := oEq_nats hR' (ys := []) (by simp)
      unfold wtest
      simp [LIM_val, eq]
    by_cases hR0 : R = []
    · subst hR0
      refine ⟨C, I, P, ?_⟩
      intro l b di ri ki S0 s T n hn _ A K
      obtain ⟨n, rfl⟩ : ∃ q, n = q + 1 := ⟨n - 1, by omega⟩
      have e := tst l b di ri ki s T A
      obtain ⟨⟨x, x6, y, z, rfl⟩, H, hD, _⟩ := A
      refine ⟨_, T ++ [Ob.lst []], ?_, ⟨x, some (.ref ri), x6, y, z, rfl⟩, (Keep.push T [Ob.lst []] []).get hD (by simp), K.trans (Keep.push _ _ _)⟩
      unfold whileL
      rw [e]
      rfl
    · have hRp : 0 < R.length := by
        cases R with
        | nil => exact absurd rfl hR0
        | cons a R => simp
      obtain ⟨C2, L2, I4, P4, h4, run⟩ := come_mid hc (R := R) R C [] (by simpa using I) P (by simpa using hRC)
      have hA4 := I4.len
      rw [List.length_map] at hA4
      simp at h4
      obtain ⟨C', I', P', run2⟩ := ih (100 + L2.length - C2.length) (by omega) C2 L2 I4 P4 (by omega) (by omega)
      refine ⟨C', I', P', ?_⟩
      intro l b di ri ki S0 s T n hn hd0 A K
      obtain ⟨n, rfl⟩ : ∃ q, n = q + 1 := ⟨n - 1, by omega⟩
      have e := tst l b di ri ki s T A
      obtain ⟨⟨x, x6, y, z, rfl⟩, H, hD, hR, hne, hnd⟩ := A
      have kk2 := (Keep.push T [Ob.lst []] []).trans (Keep.push (T ++ [Ob.lst []]) [Ob.lst []] [])
      have dl := lt_of_get hD
      have rl := lt_of_get hR
      have tl := lt_of_get H.top
      have bl : ∀ a, a < c.k → b + a < T.length := fun a ha => lt_of_get (H.row a ha)
      have A : ComeAt c l b di (T.length + 1) ri C [] R (T ++ [Ob.lst []] ++ [Ob.lst []]) :=
        ⟨⟨kk2.get H.top (by simp), fun a ha => kk2.get (H.row a ha) (by simp)⟩, kk2.get hD (by simp), by simp, kk2.get hR (by simp), by omega, ⟨hne, by omega⟩, hnd, ⟨by omega, fun a ha => by have := bl a ha; omega⟩⟩
      obtain ⟨s2, T4, e4, ⟨x2, y2, z2, rfl⟩, A4, K4⟩ := run l b di (T.length + 1) ri ki S0 [some c.d, some (.ref ki), some (.ref l), x, some (.ref di), some (.ref ri), some (.ref (T.length + 1)), y, z] _ hd0 (by have := K.1; omega) ⟨_, _, _, rfl⟩ A (K.trans kk2)
      obtain ⟨s', T', e5, j⟩ := run2 l b di (T.length + 1) ki S0 [some c.d, some (.ref ki), some (.ref l), x2, some (.ref di), some (.ref (T.length + 1)), some (.ref (T.length + 1)), y2, z2] T4 n (by omega) hd0 ⟨⟨_, _, _, _, rfl⟩, A4.held, A4.fo, A4.lo, Ne.symm A4.ne, hnd⟩ K4
      refine ⟨s', T', ?_, j⟩
      have step : wbody [some c.d, some (.ref ki), some (.ref l), x, some (.ref di), some (.ref ri), x6, y, z] (T ++ [Ob.lst []]) = .nx [some c.d, some (.ref ki), some (.ref l), x2, some (.ref di), some (.ref (T.length + 1)), some (.ref (T.length + 1)), y2, z2] T4 := by
        have hR2 := A.ro
        have e4' := e4
        simp only [List.append_assoc, List.cons_append, List.nil_append] at e4' hR2
        unfold wbody
        simp [LIM_val, hR2, e4']
      unfold whileL
      rw [e, show (!decide (R = [])) = true by simp [hR0], ofE_ok, if_pos rfl, step]
      exact e5
theorem come_by_det {c : Sch} (hc : c.Ok) {ks : List Nat} (nd : ks.Nodup) (hk : ∀ v ∈ ks, v < c.k) : ∃ C, BfsI c.fs (fun v => v ∈ ks) c.k (asC C) [] (fun _ _ => False) ∧ PathI c.fs (fun v => v ∈ ks) C ∧
    ∀ (S : Store) (ki : Nat), S[ki]? = some (.lst (intsN ks)) → ∃ di T, F_come_by [c.d, .ref ki] S = .ok (.ref di) T ∧ T[di]? = some (.dk (kvC C)) ∧ Keep [] S T := by
  have k24 := hc.k24
  have hks := nodup_lt_len nd hk
  generalize hC0 : (ks.map fun v => (v, 0, (none : Option Nat))) = C0
  have aC0 : asC C0 = ks.map fun v => (v, 0) := by rw [← hC0, asC, List.map_map]; rfl
  obtain ⟨C, I, P, run⟩ := come_while hc (src := fun v => v ∈ ks) 100 C0 ks (by rw [aC0]; exact BfsI.start nd hk) ⟨fun v n h => by
      rw [← hC0] at h
      obtain ⟨a, ha, e⟩ := List.mem_map.mp h
      cases e; exact ⟨rfl, ha⟩, fun v n f h => by
      rw [← hC0] at h
      obtain ⟨a, ha, e⟩ := List.mem_map.mp h
      cases e⟩ (by rw [← hC0]; simp) (by rw [← hC0]; simp)
  refine ⟨C, I, P, fun S ki hki => ?_⟩
  obtain ⟨T1, e1, H1, K1, L1⟩ := held_ok hc S
  have g1 := K1.get hki (by simp)
  have cd : compD [(ki, .lst (intsN ks))] (.nm 3) tTrue (eV 3) (eC .non) [some c.d, some (.ref ki), some (.ref (S.length + c.k)), none, none, none, none, none, none] (intsN ks) T1 = .ok (kvC C0) T1 := by
    refine Eq.trans (compD_map (kf := fun d => match d with | .int i => .inl i | _ => .inl 0) (vf := fun _ => .non) (by simp [okC, g1]) _ fun d hd => ?_) ?_
    · obtain ⟨v, _, rfl⟩ := List.mem_map.mp hd
      exact ⟨_, .int (v : Int), rfl, rfl, rfl, rfl⟩
    · rw [intsN, List.map_map, ← hC0, kvC, List.map_map]; rfl
  have mg : mergeD [] (kvC C0) = kvC C0 := by
    have := mergeC_nd (B := C0) (A := []) (by rw [List.nil_append, aC0]; simpa [keysA, Function.comp_def] using nd)
    simpa [kvC] using this
  generalize hT2 : T1 ++ [Ob.dk (kvC C0)] = T2
  have l2 : T2.length = T1.length + 1 := by rw [← hT2]; simp
  have k2 : Keep [] T1 T2 := by rw [← hT2]; exact Keep.push _ _ _
  have K2 : Keep [] S T2 := K1.trans k2
  have g2 := K2.get hki (by simp)
  have fl := fList_lst g2
  obtain ⟨s', T', ew, ⟨x, x5, x6, y, z, rfl⟩, hD, K⟩ := run (S.length + c.k) S.length T1.length T2.length ki S [some c.d, some (.ref ki), some (.ref (S.length + c.k)), none, some (.ref T1.length), some (.ref T2.length), none, none, none] (T2 ++ [.lst (intsN ks)]) FUEL (by unfold FUEL; omega) (by omega)
    ⟨⟨_, _, _, _, rfl⟩, ⟨(k2.trans (Keep.push _ _ _)).get H1.top (by simp), fun a ha => (k2.trans (Keep.push _ _ _)).get (H1.row a ha) (by simp)⟩, by rw [List.getElem?_append_left (by omega), ← hT2]; exact get_last _ _, get_last _ _, by omega, ⟨by omega, fun a ha => by omega⟩⟩ (K2.trans (Keep.push _ _ _))
  refine ⟨T1.length, T', ?_, hD, K⟩
  have ew' := ew
  unfold wtest wbody mbody cbody at ew'
  unfold Sch.d at e1 cd ew' ⊢
  simp [F_come_by, mkF, startE, e1, g1, cd, mg, hT2, fl, ew']
theorem come_by_ok {c : Sch} (hc : c.Ok) {S : Store} {ki : Nat} {ks : List Nat} (nd : ks.Nodup) (hk : ∀ v ∈ ks, v < c.k) (hki : S[ki]? = some (.lst (intsN ks))) : ∃ di C T, F_come_by [c.d, .ref ki] S = .ok (.ref di) T ∧ T[di]? = some (.dk (kvC C)) ∧
    BfsI c.fs (fun v => v ∈ ks) c.k (asC C) [] (fun _ _ => False) ∧ PathI c.fs (fun v => v ∈ ks) C ∧ Keep [] S T := by
  obtain ⟨C, I, P, run⟩ := come_by_det hc nd hk
  obtain ⟨di, T, e, hD, K⟩ := run S ki hki
  exact ⟨di, C, T, e, hD, I, P, K⟩
end WkL


set_option Elab.async false
set_option linter.all false
set_option maxRecDepth 100000
set_option maxHeartbeats 1000000
set_option autoImplicit false
/-! PvWay: way_back, leads, way, depth. -/
namespace WkL
open PySem (Str)
open Wk
/-- the fields P go from a to v -/
def Walk (fs : List (Nat × Nat)) : Nat → List Nat → Nat → Prop
  | a, [], v => a = v
  | a, f :: P, v => ∃ x, fs[f]? = some (a, x) ∧ Walk fs x P v
theorem asC_mem {C : Cs} {v n : Nat} (h : (v, n) ∈ asC C) : ∃ o, (v, n, o) ∈ C := by
  obtain ⟨⟨a, m, o⟩, h1, e⟩ := List.mem_map.mp h
  cases e
  exact ⟨o, h1⟩
theorem mem_asC {C : Cs} {v n : Nat} {o : Option Nat} (h : (v, n, o) ∈ C) : (v, n) ∈ asC C := List.mem_map.mpr ⟨_, h, rfl⟩
theorem level_chain {fs : List (Nat × Nat)} {src : Nat → Prop} {C : Cs} (nd : (keysA (asC C)).Nodup) (P : PathI fs src C) : ∀ (n v : Nat), (v, n) ∈ asC C → ∃ l : List Nat, l.length = n + 1 ∧ l.Nodup ∧ ∀ w ∈ l, ∃ m, m ≤ n ∧ (w, m) ∈ asC C
  | 0, v, h => ⟨[v], rfl, by simp, fun w hw => ⟨0, Nat.le_refl _, by simp at hw; subst hw; exact h⟩⟩
  | n + 1, v, h => by
    obtain ⟨o, ho⟩ := asC_mem h
    cases o with
    | none => have := (P.none v _ ho).1; omega
    | some f =>
      obtain ⟨a, m, _, ha, e⟩ := P.some v _ f ho
      obtain rfl : m = n := by omega
      obtain ⟨l, h1, h2, h3⟩ := level_chain nd P m a ha
      refine ⟨v :: l, by simp [h1], List.nodup_cons.mpr ⟨fun hv => ?_, h2⟩, fun w hw => ?_⟩
      · obtain ⟨q, hq, hq2⟩ := h3 v hv
        have := as_uniq nd hq2 h
        omega
      · rcases List.mem_cons.mp hw with e | e
        · subst e; exact ⟨m + 1, Nat.le_refl _, h⟩
        · obtain ⟨q, hq, hq2⟩ := h3 w e
          exact ⟨q, by omega, hq2⟩
theorem level_lt {fs : List (Nat × Nat)} {src : Nat → Prop} {k : Nat} {C : Cs} {W : List Nat} {pend : Nat → Nat → Prop} (I : BfsI fs src k (asC C) W pend) (P : PathI fs src C) {v n : Nat} (h : (v, n) ∈ asC C) : n < k := by
  obtain ⟨l, h1, h2, h3⟩ := level_chain I.nd P n v h
  have := nodup_lt_len h2 (fun w hw => let ⟨m, _, hm⟩ := h3 w hw; I.lt w m hm)
  omega
def btest : FT := tE (eOp oNotN (eOp oIxD (eV 1) (eV 2)) (eC .non))
def bbody : FS := sSeq (sExpr (eBM oAppend (eV 3) (eOp oIxD (eV 1) (eV 2)))) (sSet 2 (eOp oIx (eOp oIx (eOp oIx (eV 0) (eC (.int 2))) (eOp oIxD (eV 1) (eV 2))) (eC (.int 0))))
theorem Walk.snoc {fs : List (Nat × Nat)} : ∀ {P : List Nat} {a b f x : Nat}, Walk fs a P b → fs[f]? = some (b, x) → Walk fs a (P ++ [f]) x
  | [], a, b, f, x, h, e => by
    have h' : a = b := h
    subst h'
    exact ⟨x, e, rfl⟩
  | g :: P, a, b, f, x, ⟨y, h1, h2⟩, e => ⟨y, h1, Walk.snoc h2 e⟩
theorem back_run {c : Sch} (hc : c.Ok) {src : Nat → Prop} {C : Cs} (nd : (keysA (asC C)).Nodup) (P : PathI c.fs src C) : ∀ (n cur : Nat), (cur, n) ∈ asC C → ∃ Q : List Nat, Q.length = n ∧ (∃ a, src a ∧ Walk c.fs a Q.reverse cur) ∧
    ∀ (di fi N : Nat) (T : Store) (Q0 : List Nat), n < N → di ≠ fi → T[di]? = some (.dk (kvC C)) → T[fi]? = some (.lst (intsN Q0)) → Q0.length + n ≤ 1000 →
      ∃ cur' T', whileL btest bbody N [some c.d, some (.ref di), some (.int (cur : Int)), some (.ref fi)] T = .nx [some c.d, some (.ref di), some (.int ((cur' : Nat) : Int)), some (.ref fi)] T' ∧ T'[fi]? = some (.lst (intsN (Q0 ++ Q))) ∧ Keep [fi] T T'
  | 0, cur, h => by
    obtain ⟨o, ho⟩ := asC_mem h
    cases o with
    | some f => obtain ⟨a, m, _, _, e⟩ := P.some cur 0 f ho; omega
    | none =>
      refine ⟨[], rfl, ⟨cur, (P.none cur 0 ho).2, rfl⟩, ?_⟩
      intro di fi N T Q0 hN _ hD hQ _
      obtain ⟨N, rfl⟩ : ∃ q, N = q + 1 := ⟨N - 1, by omega⟩
      have val := oIxD_some hD (valC_some nd ho)
      refine ⟨cur, T, ?_, by simpa using hQ, Keep.refl _ _⟩
      unfold whileL
      rw [show btest [some c.d, some (.ref di), some (.int (cur : Int)), some (.ref fi)] T = .ok false T by simp [btest, val, oD]]
      rfl
  | n + 1, cur, h => by
    obtain ⟨o, ho⟩ := asC_mem h
    cases o with
    | none => have := (P.none cur _ ho).1; omega
    | some f =>
      obtain ⟨a, m, hf, ha, e⟩ := P.some cur _ f ho
      obtain rfl : m = n := by omega
      obtain ⟨Q, hl, ⟨x, hx, hw⟩, run⟩ := back_run hc nd P m a ha
      refine ⟨f :: Q, by simp [hl], ⟨x, hx, by rw [List.reverse_cons]; exact hw.snoc hf⟩, ?_⟩
      intro di fi N T Q0 hN hne hD hQ hz
      obtain ⟨N, rfl⟩ : ∃ q, N = q + 1 := ⟨N - 1, by omega⟩
      have val := oIxD_some hD (valC_some nd ho)
      have il := isLst_lst hQ
      have ap := oAppend_lst (y := .int (f : Int)) hQ (by rw [LIM_val]; simp; omega)
      have eW : intsN Q0 ++ [D.int (f : Int)] = intsN (Q0 ++ [f]) := by simp
      rw [eW] at ap
      have hD2 : (T.set fi (.lst (intsN (Q0 ++ [f]))))[di]? = some (.dk (kvC C)) := by rw [List.getElem?_set_ne (Ne.symm hne)]; exact hD
      have hQ2 := get_set_self (u := .lst (intsN (Q0 ++ [f]))) hQ
      have K2 : Keep [fi] T (T.set fi (.lst (intsN (Q0 ++ [f])))) := Keep.set _ (.inl (by simp))
      generalize hT2 : T.set fi (.lst (intsN (Q0 ++ [f]))) = T2 at ap hD2 hQ2 K2
      have val2 := oIxD_some hD2 (valC_some nd ho)
      obtain ⟨cur', T', e', g', K'⟩ := run di fi N T2 (Q0 ++ [f]) (by omega) hne hD2 hQ2 (by simp; omega)
      refine ⟨cur', T', ?_, by simpa using g', K2.trans K'⟩
      have t1 : btest [some c.d, some (.ref di), some (.int (cur : Int)), some (.ref fi)] T = .ok true T := by simp [btest, val, oD]
      have t2 : bbody [some c.d, some (.ref di), some (.int (cur : Int)), some (.ref fi)] T = .nx [some c.d, some (.ref di), some (.int (a : Int)), some (.ref fi)] T2 := by
        unfold bbody Sch.d
        simp [val, oD, il, ap, val2, hf, fD]
      unfold whileL
      rw [t1, ofE_ok, if_pos rfl, t2]
      exact e'
theorem way_back_det {c : Sch} (hc : c.Ok) {src : Nat → Prop} {C : Cs} (I : BfsI c.fs src c.k (asC C) [] fun _ _ => False) (P : PathI c.fs src C) {v n : Nat} (hv : (v, n) ∈ asC C) :
    ∃ W : List Nat, W.length = n ∧ (∃ a, src a ∧ Walk c.fs a W v) ∧ ∀ (S : Store) (di : Nat), S[di]? = some (.dk (kvC C)) → ∃ T, F_way_back [c.d, .ref di, .int (v : Int)] S = .ok (.tup (intsN W)) T ∧ Keep [] S T := by
  have k24 := hc.k24
  have hn := level_lt I P hv
  obtain ⟨Q, hl, hw, run⟩ := back_run hc I.nd P n v hv
  refine ⟨Q.reverse, by simpa using hl, hw, fun S di hD => ?_⟩
  have hdl := lt_of_get hD
  obtain ⟨cur, T, ew, hQ, K1⟩ := run di S.length FUEL (S ++ [.lst []]) [] (by unfold FUEL; omega) (by omega) (by rw [List.getElem?_append_left hdl]; exact hD) (by simp) (by simp; omega)
  rw [List.nil_append] at hQ
  have K : Keep [] S T := (Keep.push S [.lst []] []).new K1 (fun i hi => .inr (by simp at hi; omega))
  have rv : fRevA (.ref S.length) T = .ok (.ref T.length) (T ++ [.lst (intsN Q.reverse)]) := by
    unfold fRevA fRevL; dsimp only; rw [hQ]; dsimp only; rw [intsN, intsN, List.map_reverse]
  have ft := fTuple_lst (get_last T (.lst (intsN Q.reverse)))
  have K2 : Keep [] S (T ++ [.lst (intsN Q.reverse)]) := K.trans (Keep.push _ _ _)
  generalize hT2 : T ++ [Ob.lst (intsN Q.reverse)] = T2 at rv ft K2
  refine ⟨T2, ?_, K2⟩
  have ew' := ew
  unfold btest bbody at ew'
  unfold Sch.d at ew' ⊢
  simp [F_way_back, mkF, startE, LIM_val, ew', rv, ft]
theorem way_back_ok {c : Sch} (hc : c.Ok) {src : Nat → Prop} {S : Store} {di : Nat} {C : Cs} (hD : S[di]? = some (.dk (kvC C))) (I : BfsI c.fs src c.k (asC C) [] fun _ _ => False) (P : PathI c.fs src C) {v n : Nat} (hv : (v, n) ∈ asC C) :
    ∃ W T, F_way_back [c.d, .ref di, .int (v : Int)] S = .ok (.tup (intsN W)) T ∧ W.length = n ∧ (∃ a, src a ∧ Walk c.fs a W v) ∧ Keep [] S T := by
  obtain ⟨W, h1, h2, run⟩ := way_back_det hc I P hv
  obtain ⟨T, e, K⟩ := run S di hD
  exact ⟨W, T, e, h1, h2, K⟩
section
variable {c : Sch} (hc : c.Ok) {a b : Nat} (ha : a < c.k) (hb : b < c.k) (S : Store)
include hc
theorem asked_kinds_ok (ha : a < c.k) (hb : b < c.k) : F_asked_kinds [c.d, .int (a : Int), .int (b : Int)] S = .ok .non (S ++ [.lst (c.fs.map fD)]) := by
  have e1 := made_ok hc S
  have e2 := asked_ok ha (S ++ [.lst (c.fs.map fD)])
  have e3 := asked_ok hb (S ++ [.lst (c.fs.map fD)])
  simp [F_asked_kinds, mkF, startE, e1, e2, e3]
theorem asked_kinds_no1 {x y : D} (hx : NoKind c.k x) : F_asked_kinds [c.d, x, y] S = .ex "BadKind" x (S ++ [.lst (c.fs.map fD)]) := by
  have e1 := made_ok hc S
  have e2 := asked_no hx (S ++ [.lst (c.fs.map fD)])
  simp [F_asked_kinds, mkF, startE, e1, e2]
theorem asked_kinds_no2 (ha : a < c.k) {y : D} (hy : NoKind c.k y) : F_asked_kinds [c.d, .int (a : Int), y] S = .ex "BadKind" y (S ++ [.lst (c.fs.map fD)]) := by
  have e1 := made_ok hc S
  have e2 := asked_ok ha (S ++ [.lst (c.fs.map fD)])
  have e3 := asked_no hy (S ++ [.lst (c.fs.map fD)])
  simp [F_asked_kinds, mkF, startE, e1, e2, e3]
/-- a way where there is one: as short as can be, the same at each call -/
theorem way_det (ha : a < c.k) (hb : b < c.k) (hr : Reach c.fs (fun v => v ∈ [a]) b) : ∃ W : List Nat, IsDist c.fs (fun v => v ∈ [a]) W.length b ∧ Walk c.fs a W b ∧ ∀ S : Store, ∃ T, F_way [c.d, .int (a : Int), .int (b : Int)] S = .ok (.tup (intsN W)) T ∧ Keep [] S T := by
  obtain ⟨C, I, P, run⟩ := come_by_det hc (ks := [a]) (by simp) (by simpa using ha)
  obtain ⟨d1, d2⟩ := I.dist
  obtain ⟨n, hn⟩ := d2 b hr
  obtain ⟨W, hl, ⟨x, hx, hw⟩, run2⟩ := way_back_det hc I P hn
  have hx' : x = a := by simpa using hx
  subst hx'
  refine ⟨W, by rw [hl]; exact d1 b n hn, hw, fun S => ?_⟩
  have e1 := asked_kinds_ok hc S ha hb
  generalize hS1 : S ++ [Ob.lst (c.fs.map fD)] = S1 at e1
  have K1 : Keep [] S S1 := by rw [← hS1]; exact Keep.push _ _ _
  obtain ⟨di, T, e2, hD, K⟩ := run (S1 ++ [.lst (intsN [x])]) S1.length (get_last _ _)
  obtain ⟨T2, e3, K2⟩ := run2 T di hD
  refine ⟨T2, ?_, (K1.trans ((Keep.push _ _ _).trans K)).trans K2⟩
  have inD := inD_C I.nd hD b
  rw [decide_eq_true (mem_keys.mpr ⟨n, hn⟩)] at inD
  have e2' : F_come_by [c.d, .ref S1.length] (S1 ++ [.lst [.int (x : Int)]]) = .ok (.ref di) T := e2
  simp [F_way, mkF, startE, e1, LIM_val, e2', inD, e3]
theorem way_ok (ha : a < c.k) (hb : b < c.k) (hr : Reach c.fs (fun v => v ∈ [a]) b) : ∃ W T, F_way [c.d, .int (a : Int), .int (b : Int)] S = .ok (.tup (intsN W)) T ∧ IsDist c.fs (fun v => v ∈ [a]) W.length b ∧ Walk c.fs a W b ∧ Keep [] S T := by
  obtain ⟨W, h1, h2, run⟩ := way_det hc ha hb hr
  obtain ⟨T, e, K⟩ := run S
  exact ⟨W, T, e, h1, h2, K⟩
theorem way_none (ha : a < c.k) (hb : b < c.k) (hr : ¬ Reach c.fs (fun v => v ∈ [a]) b) : ∃ T, F_way [c.d, .int (a : Int), .int (b : Int)] S = .ok .non T ∧ Keep [] S T := by
  have e1 := asked_kinds_ok hc S ha hb
  generalize hS1 : S ++ [Ob.lst (c.fs.map fD)] = S1 at e1
  have K1 : Keep [] S S1 := by rw [← hS1]; exact Keep.push _ _ _
  obtain ⟨di, C, T, e2, hD, I, P, K⟩ := come_by_ok hc (S := S1 ++ [.lst (intsN [a])]) (ki := S1.length) (ks := [a]) (by simp) (by simpa using ha) (get_last _ _)
  obtain ⟨d1, d2⟩ := I.dist
  have nk : b ∉ keysA (asC C) := fun h => let ⟨n, hn⟩ := mem_keys.mp h; hr ⟨n, (d1 b n hn).1⟩
  refine ⟨T, ?_, K1.trans ((Keep.push _ _ _).trans K)⟩
  have inD := inD_C I.nd hD b
  rw [decide_eq_false nk] at inD
  have e2' : F_come_by [c.d, .ref S1.length] (S1 ++ [.lst [.int (a : Int)]]) = .ok (.ref di) T := e2
  simp [F_way, mkF, startE, e1, LIM_val, e2', inD]
end
end WkL


set_option Elab.async false
set_option linter.all false
set_option maxRecDepth 100000
set_option maxHeartbeats 1000000
set_option autoImplicit false
/-! Pk03a: is_way, way_right, led and the law's own ones. -/
namespace WkL
open PySem (Str)
open Wk
/-- an element of a tuple that is handed in -/
def El (d : D) : Prop := NoWhole d ∨ ∃ i : Int, d = .int i
def okStep (c : Sch) (cur : Nat) : D → Option Nat
  | .int i => if 0 ≤ i ∧ i < c.fs.length then (match c.fs[i.toNat]? with
    | some f => if f.1 = cur then some f.2 else none
    | none => none) else none
  | _ => none
def wayTo (c : Sch) : Nat → List D → Option Nat
  | cur, [] => some cur
  | cur, d :: ds => match okStep c cur d with
    | some t => wayTo c t ds
    | none => none
def isWayB (c : Sch) (a b : Nat) : D → Bool
  | .tup ds => decide (wayTo c a ds = some b)
  | _ => false
/-- a thing that may be handed in as a way -/
def Thing (S : Store) : D → Prop
  | .tup ds => ∀ d ∈ ds, El d
  | .frz _ => False
  | .ref l => ∃ ds, S[l]? = some (.lst ds)
  | _ => True
theorem okStep_no {c : Sch} {cur : Nat} {d : D} (h : NoWhole d) : okStep c cur d = none := by
  cases d with
  | int i => exact h.elim
  | _ => rfl
theorem okStep_int {c : Sch} {cur i : Nat} (hi : i < c.fs.length) : okStep c cur (.int (i : Int)) = if c.fs[i].1 = cur then some c.fs[i].2 else none := by
  unfold okStep
  dsimp only
  rw [if_pos (show 0 ≤ (i : Int) ∧ (i : Int) < (c.fs.length : Int) from ⟨by omega, by omega⟩), Int.toNat_natCast, List.getElem?_eq_getElem hi]
def ibody : FS := sSeq (sIf (tOr (Wk.tNot (tE (eCall F_is_whole (aCons (eV 5) (aCons (eC (.int 0)) (aCons (eOp oSub (eUn fLen (eOp oIx (eV 0) (eC (.int 2)))) (eC (.int 1))) aNil)))))) (tE (eOp oNe (eOp oIx (eOp oIx (eOp oIx (eV 0) (eC (.int 2))) (eV 5)) (eC (.int 0))) (eV 4)))) (sRet (eC (.bl false))) sSkip)
    (sSet 4 (eOp oIx (eOp oIx (eOp oIx (eV 0) (eC (.int 2))) (eV 5)) (eC (.int 1))))
def jbody : FS := sSeq (sIf (tOr (Wk.tNot (tE (eCall F__law_is_whole (aCons (eV 5) aNil)))) (tOr (Wk.tNot (tE (eChain oLe oLt (eC (.int 0)) (eV 5) (eUn fLen (eOp oIx (eV 0) (eC (.int 2))))))) (tE (eOp oNe (eOp oIx (eOp oIx (eOp oIx (eV 0) (eC (.int 2))) (eV 5)) (eC (.int 0))) (eV 4))))) (sRet (eC (.bl false))) sSkip)
    (sSet 4 (eOp oIx (eOp oIx (eOp oIx (eV 0) (eC (.int 2))) (eV 5)) (eC (.int 1))))
theorem law_whole_no {x : D} (h : NoWhole x) (S : Store) : F__law_is_whole [x] S = .ok (.bl false) S := by
  cases x with
  | non => simp [F__law_is_whole, mkF, startE, isTy]
  | bl b => simp [F__law_is_whole, mkF, startE, isTy]
  | str b => simp [F__law_is_whole, mkF, startE, isTy]
  | tup b => simp [F__law_is_whole, mkF, startE, isTy]
  | int i => exact h.elim
  | frz i => exact h.elim
  | ref i => exact h.elim
section
variable (c : Sch) (p1 p2 p3 : Option D) (S : Store)
theorem i_step (cur : Nat) (d : D) (hd : El d) (z : Option D) : (okStep c cur d = none → ibody [some c.d, p1, p2, p3, some (.int (cur : Int)), some d] S = .rt (.bl false) S) ∧ ∀ t, okStep c cur d = some t → ibody [some c.d, p1, p2, p3, some (.int (cur : Int)), some d] S = .nx [some c.d, p1, p2, p3, some (.int (t : Int)), some d] S := by
  rcases hd with h | ⟨i, rfl⟩
  · refine ⟨fun _ => ?_, fun t ht => by rw [okStep_no h] at ht; cases ht⟩
    have := fun lo hi => is_whole_no h lo hi S
    unfold ibody Sch.d
    simp [this]
  · by_cases h0 : 0 ≤ i ∧ i < c.fs.length
    · obtain ⟨n, rfl⟩ := Int.eq_ofNat_of_zero_le h0.1
      have hn : n < c.fs.length := by omega
      have q : (n : Int) ≤ (c.fs.length : Int) - 1 := by omega
      rw [okStep_int hn]
      by_cases e : c.fs[n].1 = cur
      · refine ⟨fun h => (by rw [if_pos e] at h; cases h), fun t ht => ?_⟩
        rw [if_pos e] at ht
        cases ht
        unfold ibody Sch.d
        simp [q, hn, fD, e]
      · refine ⟨fun _ => ?_, fun t ht => by rw [if_neg e] at ht; cases ht⟩
        have e' : ¬ (c.fs[n].1 : Int) = (cur : Int) := by omega
        unfold ibody Sch.d
        simp [q, hn, fD, e']
    · have hk : okStep c cur (.int i) = none := by unfold okStep; dsimp only; rw [if_neg h0]
      refine ⟨fun _ => ?_, fun t ht => by rw [hk] at ht; cases ht⟩
      by_cases h1 : 0 ≤ i
      · have q : ¬ i ≤ (c.fs.length : Int) - 1 := by omega
        unfold ibody Sch.d
        simp [q]
      · unfold ibody Sch.d
        simp [h1]
theorem j_step (cur : Nat) (d : D) (hd : El d) (z : Option D) : (okStep c cur d = none → jbody [some c.d, p1, p2, p3, some (.int (cur : Int)), some d] S = .rt (.bl false) S) ∧ ∀ t, okStep c cur d = some t → jbody [some c.d, p1, p2, p3, some (.int (cur : Int)), some d] S = .nx [some c.d, p1, p2, p3, some (.int (t : Int)), some d] S := by
  rcases hd with h | ⟨i, rfl⟩
  · refine ⟨fun _ => ?_, fun t ht => by rw [okStep_no h] at ht; cases ht⟩
    have := law_whole_no h S
    unfold jbody Sch.d
    simp [this]
  · by_cases h0 : 0 ≤ i ∧ i < c.fs.length
    · obtain ⟨n, rfl⟩ := Int.eq_ofNat_of_zero_le h0.1
      have hn : n < c.fs.length := by omega
      have q : (n : Int) < (c.fs.length : Int) := by omega
      rw [okStep_int hn]
      by_cases e : c.fs[n].1 = cur
      · refine ⟨fun h => (by rw [if_pos e] at h; cases h), fun t ht => ?_⟩
        rw [if_pos e] at ht
        cases ht
        unfold jbody Sch.d
        simp [q, hn, fD, e]
      · refine ⟨fun _ => ?_, fun t ht => by rw [if_neg e] at ht; cases ht⟩
        have e' : ¬ (c.fs[n].1 : Int) = (cur : Int) := by omega
        unfold jbody Sch.d
        simp [q, hn, fD, e']
    · have hk : okStep c cur (.int i) = none := by unfold okStep; dsimp only; rw [if_neg h0]
      refine ⟨fun _ => ?_, fun t ht => by rw [hk] at ht; cases ht⟩
      by_cases h1 : 0 ≤ i
      · have q : ¬ i < (c.fs.length : Int) := by omega
        unfold jbody Sch.d
        simp [h1, q]
      · unfold jbody Sch.d
        simp [h1]
end
theorem forL_ret {c : Chk} {g : Tg} {b : FS} {s s1 : Env} {S S2 : Store} {d r : D} {ds : List D} (h : okC c S = true) (hg : gF g d s = some s1) (hb : b s1 S = .rt r S2) : forL c g b (d :: ds) s S = .rt r S2 := by
  rw [show forL c g b (d :: ds) s S = if okC c S then (match gF g d s with
    | none => .bad
    | some s1 => match b s1 S with
      | .nx s2 S2 => forL c g b ds s2 S2
      | .ct s2 S2 => forL c g b ds s2 S2
      | .bk s2 S2 => .nx s2 S2
      | r => r) else .bad from rfl, if_pos h, hg]
  dsimp only
  rw [hb]
theorem way_loop {c : Sch} {p1 p2 p3 : Option D} {S : Store} {b : FS} (step : ∀ (cur : Nat) (d : D), El d → (okStep c cur d = none → b [some c.d, p1, p2, p3, some (.int (cur : Int)), some d] S = .rt (.bl false) S) ∧ ∀ t, okStep c cur d = some t → b [some c.d, p1, p2, p3, some (.int (cur : Int)), some d] S = .nx [some c.d, p1, p2, p3, some (.int (t : Int)), some d] S) :
    ∀ (ds : List D) (cur : Nat) (z : Option D), (∀ d ∈ ds, El d) → (wayTo c cur ds = none → forL [] (.nm 5) b ds [some c.d, p1, p2, p3, some (.int (cur : Int)), z] S = .rt (.bl false) S) ∧
      ∀ t, wayTo c cur ds = some t → ∃ w, forL [] (.nm 5) b ds [some c.d, p1, p2, p3, some (.int (cur : Int)), z] S = .nx [some c.d, p1, p2, p3, some (.int (t : Int)), w] S
  | [], cur, z, _ => ⟨fun h => by simp [wayTo] at h, fun t h => by
      have : cur = t := by simpa [wayTo] using h
      subst this
      exact ⟨z, forL_nil rfl⟩⟩
  | d :: ds, cur, z, hd => by
    obtain ⟨s1, s2⟩ := step cur d (hd d List.mem_cons_self)
    cases e : okStep c cur d with
    | none =>
      refine ⟨fun _ => forL_ret rfl rfl (s1 e), fun t h => ?_⟩
      unfold wayTo at h
      rw [e] at h
      cases h
    | some t =>
      obtain ⟨i1, i2⟩ := way_loop step ds t (some d) fun x hx => hd x (List.mem_cons_of_mem _ hx)
      have ew : wayTo c cur (d :: ds) = wayTo c t ds := by
        rw [wayTo, e]
      rw [ew]
      refine ⟨fun h => (forL_cons rfl rfl (s2 t e)).trans (i1 h), fun u h => ?_⟩
      obtain ⟨w, hw⟩ := i2 u h
      exact ⟨w, (forL_cons rfl rfl (s2 t e)).trans hw⟩
theorem is_way_ok (c : Sch) (a b : Nat) {x : D} {S : Store} (hx : Thing S x) : F_is_way [c.d, .int (a : Int), .int (b : Int), x] S = .ok (.bl (isWayB c a b x)) S := by
  cases x with
  | tup ds =>
    obtain ⟨i1, i2⟩ := way_loop (c := c) (p1 := some (.int (a : Int))) (p2 := some (.int (b : Int))) (p3 := some (.tup ds)) (S := S) (b := ibody) (fun cur d hd => i_step c _ _ _ S cur d hd none) ds a none hx
    cases e : wayTo c a ds with
    | none =>
      have h := i1 e
      unfold ibody at h
      simp [F_is_way, mkF, startE, isTy, h, isWayB, e]
    | some t =>
      obtain ⟨w, h⟩ := i2 t e
      unfold ibody at h
      simp [F_is_way, mkF, startE, isTy, h, isWayB, e]
      rw [Bool.eq_iff_iff]; simp; omega
  | ref l =>
    obtain ⟨ds, h⟩ := hx
    simp [F_is_way, mkF, startE, isTy, tyD_lst h, isWayB]
  | frz ds => exact hx.elim
  | non => simp [F_is_way, mkF, startE, isTy, isWayB]
  | bl i => simp [F_is_way, mkF, startE, isTy, isWayB]
  | int i => simp [F_is_way, mkF, startE, isTy, isWayB]
  | str i => simp [F_is_way, mkF, startE, isTy, isWayB]
theorem law_is_way_ok (c : Sch) (a b : Nat) {x : D} {S : Store} (hx : Thing S x) : F__law_is_way [c.d, .int (a : Int), .int (b : Int), x] S = .ok (.bl (isWayB c a b x)) S := by
  cases x with
  | tup ds =>
    obtain ⟨i1, i2⟩ := way_loop (c := c) (p1 := some (.int (a : Int))) (p2 := some (.int (b : Int))) (p3 := some (.tup ds)) (S := S) (b := jbody) (fun cur d hd => j_step c _ _ _ S cur d hd none) ds a none hx
    cases e : wayTo c a ds with
    | none =>
      have h := i1 e
      unfold jbody at h
      simp [F__law_is_way, mkF, startE, isTy, h, isWayB, e]
    | some t =>
      obtain ⟨w, h⟩ := i2 t e
      unfold jbody at h
      simp [F__law_is_way, mkF, startE, isTy, h, isWayB, e]
      rw [Bool.eq_iff_iff]; simp; omega
  | ref l =>
    obtain ⟨ds, h⟩ := hx
    simp [F__law_is_way, mkF, startE, isTy, tyD_lst h, isWayB]
  | frz ds => exact hx.elim
  | non => simp [F__law_is_way, mkF, startE, isTy, isWayB]
  | bl i => simp [F__law_is_way, mkF, startE, isTy, isWayB]
  | int i => simp [F__law_is_way, mkF, startE, isTy, isWayB]
  | str i => simp [F__law_is_way, mkF, startE, isTy, isWayB]
theorem wayTo_walk {c : Sch} : ∀ {P : List Nat} {a b : Nat}, Walk c.fs a P b → wayTo c a (intsN P) = some b
  | [], a, b, h => by
    have : a = b := h
    subst this; rfl
  | f :: P, a, b, ⟨x, h1, h2⟩ => by
    have hf := (List.getElem?_eq_some_iff.mp h1).1
    have e : okStep c a (.int (f : Int)) = some x := by
      rw [okStep_int hf]
      have : c.fs[f] = (a, x) := by
        have := h1
        rw [List.getElem?_eq_getElem hf] at this
        exact Option.some.inj this
      rw [this, if_pos rfl]
    rw [show intsN (f :: P) = D.int (f : Int) :: intsN P from rfl]
    unfold wayTo
    rw [e]
    exact wayTo_walk h2
theorem walk_isWay {c : Sch} {P : List Nat} {a b : Nat} (h : Walk c.fs a P b) : isWayB c a b (.tup (intsN P)) = true := decide_eq_true (wayTo_walk h)
theorem thing_ints {S : Store} (P : List Nat) : Thing S (.tup (intsN P)) := fun d hd => by
  obtain ⟨v, _, rfl⟩ := List.mem_map.mp hd
  exact .inr ⟨_, rfl⟩
theorem way_right_ok {c : Sch} (hc : c.Ok) {a b : Nat} (ha : a < c.k) (hb : b < c.k) {x : D} {S : Store} (hx : Thing S x) : F_way_right [c.d, .int (a : Int), .int (b : Int), x] S = .ok (.bl (isWayB c a b x)) (S ++ [.lst (c.fs.map fD)]) := by
  have e1 := asked_kinds_ok hc S ha hb
  have hx' : Thing (S ++ [Ob.lst (c.fs.map fD)]) x := by
    cases x with
    | ref l =>
      obtain ⟨ds, h⟩ := hx
      exact ⟨ds, by rw [List.getElem?_append_left (lt_of_get h)]; exact h⟩
    | _ => exact hx
  have e2 := is_way_ok c a b hx'
  simp [F_way_right, mkF, startE, e1, e2]
end WkL


set_option Elab.async false
set_option linter.all false
set_option maxRecDepth 100000
set_option maxHeartbeats 1000000
set_option autoImplicit false
/-! Pk03b: led, the law's own led. -/
namespace WkL
open PySem (Str)
open Wk
open Classical in
noncomputable def rowB (c : Sch) (a : Nat) : List Bool := (List.range c.k).map fun v => decide (Reach c.fs (fun v => v ∈ [a]) v)
def tgt (c : Sch) (f : Nat) : Nat := (c.fs.getD f (0, 0)).2
open Classical in
noncomputable def ledP (c : Sch) (f g : Nat) : Bool := decide (g = f) || decide (Reach c.fs (fun v => v ∈ [tgt c f]) (c.fs.getD g (0, 0)).1)
noncomputable def ledL (c : Sch) (f : Nat) : List Nat := (List.range c.fs.length).filter (ledP c f)
theorem ledL_len (c : Sch) (f : Nat) : (ledL c f).length ≤ c.fs.length := by
  unfold ledL; exact Nat.le_trans (List.length_filter_le _ _) (by simp)
theorem getD_get {fs : List (Nat × Nat)} {i : Nat} {p : Nat × Nat} (h : fs[i]? = some p) : fs.getD i (0, 0) = p := by rw [List.getD_eq_getElem?_getD, h]; rfl
/-- a list of rows: at fi a list of refs, each row as told -/
structure Rows (fi : Nat) (ids : List Nat) (row : Nat → List D) (T : Store) : Prop where
  top : T[fi]? = some (.lst (ids.map D.ref))
  rows : ∀ (a id : Nat), ids[a]? = some id → T[id]? = some (.lst (row a)) ∧ fi < id
theorem Rows.keep {fi : Nat} {ids : List Nat} {row : Nat → List D} {T T' : Store} (h : Rows fi ids row T) (k : Keep [] T T') : Rows fi ids row T' := ⟨k.get h.top (by simp), fun a id e => ⟨k.get (h.rows a id e).1 (by simp), (h.rows a id e).2⟩⟩
theorem Rows.add {fi : Nat} {ids : List Nat} {row : Nat → List D} {T : Store} (h : Rows fi ids row T) {id : Nat} (hid : T[id]? = some (.lst (row ids.length))) (hlt : fi < id) : Rows fi (ids ++ [id]) row (T.set fi (.lst (ids.map D.ref ++ [.ref id]))) := by
  refine ⟨by rw [get_set_self h.top]; simp, fun a i e => ?_⟩
  by_cases q : a < ids.length
  · rw [List.getElem?_append_left q] at e
    obtain ⟨h1, h2⟩ := h.rows a i e
    exact ⟨by rw [List.getElem?_set_ne (by omega)]; exact h1, h2⟩
  · have ha : a = ids.length := by
      have := (List.getElem?_eq_some_iff.mp e).1
      simp at this; omega
    subst ha
    simp at e
    subst e
    exact ⟨by rw [List.getElem?_set_ne (by omega)]; exact hid, hlt⟩
def rchbody : FS := sSeq (sSet 3 (eCall F_come_by (aCons (eV 0) (aCons (eLst (aCons (eV 2) aNil)) aNil))))
    (sExpr (eBM oAppend (eV 1) (eComp (iRng (eOp oIx (eV 0) (eC (.int 1)))) (.nm 4) tTrue (eOp oInD (eV 4) (eV 3)) [4])))
theorem reach_ok {c : Sch} (hc : c.Ok) (S : Store) : ∃ ids T, F_reach [c.d] S = .ok (.ref S.length) T ∧ Rows S.length ids (fun a => blsN (rowB c a)) T ∧ ids.length = c.k ∧ Keep [] S T := by
  have k24 := hc.k24
  obtain ⟨s', T, e, x, y, n, ids, rfl, hn, R, hl, K⟩ := forL_run (c := []) (g := .nm 2) (b := rchbody)
    (fun rest s T => ∃ x y n ids, s = [some c.d, some (.ref S.length), x, y, none] ∧ rest = ((List.range c.k).drop n).map (fun (i : Nat) => D.int (i : Int)) ∧ Rows S.length ids (fun a => blsN (rowB c a)) T ∧ ids.length = min n c.k ∧ Keep [] S T) (fun _ _ _ _ => rfl) (by
      rintro d rest s T ⟨x, y, n, ids, rfl, hd, R, hl, K⟩
      have hn : n < c.k := by
        refine Decidable.byContradiction fun q => ?_
        rw [List.drop_of_length_le (by simp; omega)] at hd
        simp at hd
      have hdr : (List.range c.k).drop n = n :: (List.range c.k).drop (n + 1) := by
        rw [List.drop_eq_getElem_cons (by simpa using hn)]; simp
      rw [hdr, List.map_cons, List.cons.injEq] at hd
      obtain ⟨rfl, rfl⟩ := hd
      have hl' : ids.length = n := by omega
      obtain ⟨di, C, T1, e1, hD, I, P, K1⟩ := come_by_ok hc (S := T ++ [.lst (intsN [n])]) (ki := T.length) (ks := [n]) (by simp) (by simpa using hn) (get_last _ _)
      have e1' : F_come_by [c.d, .ref T.length] (T ++ [.lst [.int (n : Int)]]) = .ok (.ref di) T1 := e1
      obtain ⟨d1, d2⟩ := I.dist
      have mem : ∀ v, (v ∈ keysA (asC C)) ↔ Reach c.fs (fun v => v ∈ [n]) v := fun v => ⟨fun h => let ⟨m, hm⟩ := mem_keys.mp h; ⟨m, (d1 v m hm).1⟩, fun h => let ⟨m, hm⟩ := d2 v h; mem_keys.mpr ⟨m, hm⟩⟩
      have KT : Keep [] T T1 := (Keep.push _ _ _).trans K1
      have cp : compL [] (.nm 4) tTrue (eOp oInD (eV 4) (eV 3)) [some c.d, some (.ref S.length), some (.int (n : Int)), some (.ref di), none] (rngD 0 (c.k : Int)) T1 = .ok (blsN (rowB c n)) T1 := by
        rw [rngD_nat]
        refine Eq.trans (compL_map (f := fun d => match d with | .int i => .bl (@decide (Reach c.fs (fun v => v ∈ [n]) i.toNat) (Classical.propDecidable _)) | _ => .non) rfl _ ?_) ?_
        · intro d hd
          obtain ⟨i, hi, rfl⟩ := List.mem_map.mp hd
          refine ⟨_, rfl, ?_⟩
          have q := inD_C I.nd hD i
          rw [@decide_eq_decide _ _ _ (Classical.propDecidable _) |>.mpr (mem i)] at q
          simp only [Int.toNat_natCast]
          generalize @decide (Reach c.fs (fun v => v ∈ [n]) i) (Classical.propDecidable _) = r at q ⊢
          simp [q]
        · rw [List.map_map, blsN, rowB, List.map_map]
          rfl
      have R1 := (R.keep KT).keep (Keep.push T1 [Ob.lst (blsN (rowB c n))] [])
      have hfi := lt_of_get R.top
      have R2 := R1.add (id := T1.length) (by rw [hl']; exact get_last _ _) (by have := KT.1; omega)
      have il := isLst_lst (KT.get R.top (by simp))
      have ap := oAppend_lst (y := .ref T1.length) R1.top (by rw [LIM_val]; simp; omega)
      generalize hT2 : (T1 ++ [Ob.lst (blsN (rowB c n))]).set S.length (.lst (ids.map D.ref ++ [.ref T1.length])) = T2 at R2 ap
      have K2 : Keep [] S T2 := by
        rw [← hT2]
        exact ((K.trans KT).trans (Keep.push _ _ _)).new (Y := [S.length]) (Keep.set _ (.inl (by simp))) (fun i hi => .inr (by simp at hi; omega))
      have r1 : -(4611686018427387904 : Int) ≤ (c.k : Int) := by omega
      have r2 : (c.k : Int) ≤ 16777216 := by omega
      refine ⟨_, _, T2, rfl, .inl ((?_ : _ = Rs.nx [some c.d, some (.ref S.length), some (.int (n : Int)), some (.ref di), none] T2)), _, _, n + 1, ids ++ [T1.length], rfl, rfl, R2, by simp; omega, K2⟩
      generalize (blsN (rowB c n)) = rw0 at cp ap
      unfold rchbody Sch.d at *
      simp [LIM_val, e1', r1, r2, cp, il, ap]) (rngD 0 (c.k : Int)) [some c.d, some (.ref S.length), none, none, none] (S ++ [.lst []])
    ⟨none, none, 0, [], rfl, by rw [rngD_nat]; rfl, ⟨by simp, fun a id e => by simp at e⟩, by simp, Keep.push _ _ _⟩
  have hn' : n ≥ c.k := by
    refine Decidable.byContradiction fun q => ?_
    have := congrArg List.length hn
    simp at this
    omega
  refine ⟨ids, T, ?_, R, by omega, K⟩
  have r1 : -(4611686018427387904 : Int) ≤ (c.k : Int) := by omega
  have r2 : (c.k : Int) ≤ 16777216 := by omega
  have e' := e
  unfold rchbody at e'
  unfold Sch.d at e' ⊢
  simp [F_reach, mkF, startE, LIM_val, r1, r2, e']
theorem asked_field_ok {c : Sch} {f : Nat} (hf : f < c.fs.length) (S : Store) : F_asked_field [c.d, .int (f : Int)] S = .ok .non S := by
  have q : (f : Int) ≤ (c.fs.length : Int) - 1 := by omega
  simp [F_asked_field, Sch.d, mkF, startE, q]
/-- no field -/
def NoField (n : Nat) (x : D) : Prop := NoWhole x ∨ ∃ i : Int, x = .int i ∧ (i < 0 ∨ (n : Int) ≤ i)
theorem asked_field_no {c : Sch} {x : D} (h : NoField c.fs.length x) (S : Store) : F_asked_field [c.d, x] S = .ex "BadField" x S := by
  rcases h with h | ⟨i, rfl, h⟩
  · have := fun (lo hi : D) => is_whole_no h lo hi S
    simp [F_asked_field, Sch.d, mkF, startE, this]
  · rcases h with h | h
    · have q : ¬ (0 ≤ i) := by omega
      simp [F_asked_field, Sch.d, mkF, startE, q]
    · have q : ¬ (i ≤ (c.fs.length : Int) - 1) := by omega
      simp [F_asked_field, Sch.d, mkF, startE, q]
theorem led_no {c : Sch} (hc : c.Ok) {x : D} (h : NoField c.fs.length x) (S : Store) : F_led [c.d, x] S = .ex "BadField" x (S ++ [.lst (c.fs.map fD)]) := by
  have e1 := made_ok hc S
  have e2 := asked_field_no h (S ++ [.lst (c.fs.map fD)])
  simp [F_led, mkF, startE, e1, e2]
def lbd : FS := sExpr (eBM oAppend (eV 2) (eComp (iEnum (eOp oIx (eV 0) (eC (.int 2)))) (.tp [(.nm 6), (.tp [(.nm 7), (.nm 8)])]) (tOr (tE (eOp oEq (eV 6) (eV 3))) (tE (eOp oIx (eOp oIx (eV 1) (eV 5)) (eV 7)))) (eV 6) [6, 7, 8]))
open Classical in
theorem led_list_ok {c : Sch} (hc : c.Ok) (S : Store) : ∃ li ids T, F_led_list [c.d] S = .ok (.ref li) T ∧ Rows li ids (fun f => intsN (ledL c f)) T ∧ ids.length = c.fs.length ∧ Keep [] S T := by
  have k24 := hc.k24; have f40 := hc.f40
  obtain ⟨rids, T1, e1, R, hrl, K1⟩ := reach_ok hc S
  obtain ⟨s', T, e, x, y, z, n, ids, rfl, hn, RR, LL, hl, K⟩ := forL_run (c := []) (g := .tp [(.nm 3), (.tp [(.nm 4), (.nm 5)])]) (b := lbd)
    (fun rest s T => ∃ x y z n ids, s = [some c.d, some (.ref S.length), some (.ref T1.length), x, y, z, none, none, none] ∧ rest = (enumD (c.fs.map fD)).drop n ∧ Rows S.length rids (fun a => blsN (rowB c a)) T ∧ Rows T1.length ids (fun f => intsN (ledL c f)) T ∧ ids.length = min n c.fs.length ∧ Keep [] T1 T) (fun _ _ _ _ => rfl) (by
      rintro d rest s T ⟨x, y, z, n, ids, rfl, hd, RR, LL, hl, K⟩
      obtain ⟨hi, hg, rfl⟩ := drop_cons hd
      rw [enum_get] at hg
      cases e : (c.fs.map fD)[n]? with
      | none => rw [e] at hg; cases hg
      | some d' =>
        rw [e] at hg
        obtain rfl : D.tup [.int (n : Int), d'] = d := Option.some.inj hg
        obtain ⟨f, hf, rfl⟩ := map_fD_get e
        obtain ⟨q1, q2, q3⟩ := hc.fs f (List.mem_of_getElem? hf)
        have hnl := (List.getElem?_eq_some_iff.mp hf).1
        have hl' : ids.length = n := by omega
        obtain ⟨rid, hrid⟩ : ∃ rid, rids[f.2]? = some rid := ⟨rids[f.2]'(by omega), List.getElem?_eq_getElem _⟩
        have gR := (RR.rows f.2 rid hrid).1
        have ixr : oIx (.ref S.length) (.int (f.2 : Int)) T = .ok (.ref rid) T := oIx_lst RR.top (by rw [List.getElem?_map, hrid]; rfl)
        have cp : compL [] (.tp [(.nm 6), (.tp [(.nm 7), (.nm 8)])]) (tOr (tE (eOp oEq (eV 6) (eV 3))) (tE (eOp oIx (eOp oIx (eV 1) (eV 5)) (eV 7)))) (eV 6) [some c.d, some (.ref S.length), some (.ref T1.length), some (.int (n : Int)), some (.int (f.1 : Int)), some (.int (f.2 : Int)), none, none, none] (enumD (c.fs.map fD)) T = .ok (intsN (ledL c n)) T := by
          have hen : enumD (c.fs.map fD) = (List.range c.fs.length).map fun (g : Nat) => D.tup [.int (g : Int), fD (c.fs.getD g (0, 0))] := by
            refine List.ext_getElem? fun i => ?_
            rw [enum_get, List.getElem?_map, List.getElem?_map]
            by_cases q : i < c.fs.length
            · rw [List.getElem?_range q, List.getElem?_eq_getElem q]
              simp [List.getD_eq_getElem?_getD, List.getElem?_eq_getElem q]
            · rw [List.getElem?_eq_none (by omega), List.getElem?_eq_none (by simpa using q)]
              rfl
          rw [hen]
          have := compL_pure (c := []) (g := .tp [(.nm 6), (.tp [(.nm 7), (.nm 8)])]) (t := tOr (tE (eOp oEq (eV 6) (eV 3))) (tE (eOp oIx (eOp oIx (eV 1) (eV 5)) (eV 7)))) (e := eV 6) (sw := [some c.d, some (.ref S.length), some (.ref T1.length), some (.int (n : Int)), some (.int (f.1 : Int)), some (.int (f.2 : Int)), none, none, none]) (S := T)
            (p := fun d => match d with | .tup [.int g, _] => ledP c n g.toNat | _ => false) (f := fun d => match d with | .tup [x, _] => x | _ => .non) rfl
            ((List.range c.fs.length).map fun (g : Nat) => D.tup [.int (g : Int), fD (c.fs.getD g (0, 0))]) (by
              intro d hd
              obtain ⟨g, hg, rfl⟩ := List.mem_map.mp hd
              have hg' := List.mem_range.mp hg
              have hfg : c.fs[g]? = some c.fs[g] := List.getElem?_eq_getElem hg'
              obtain ⟨o1, _, _⟩ := hc.fs _ (List.getElem_mem hg')
              refine ⟨[some c.d, some (.ref S.length), some (.ref T1.length), some (.int (n : Int)), some (.int (f.1 : Int)), some (.int (f.2 : Int)), some (.int (g : Int)), some (.int ((c.fs.getD g (0, 0)).1 : Int)), some (.int ((c.fs.getD g (0, 0)).2 : Int))], rfl, ?_, fun _ => rfl⟩
              have o2 : (c.fs.getD g (0, 0)).1 < c.k := by rw [getD_get hfg]; exact o1
              have ixb : oIx (.ref rid) (.int ((c.fs.getD g (0, 0)).1 : Int)) T = .ok (.bl (decide (Reach c.fs (fun v => v ∈ [f.2]) (c.fs.getD g (0, 0)).1))) T := oIx_lst gR (by
                rw [blsN, rowB, List.map_map, List.getElem?_map, List.getElem?_range o2]; rfl)
              have ht : tgt c n = f.2 := by unfold tgt; rw [getD_get hf]
              show _ = Res.ok (ledP c n g) T
              have hp : ledP c n g = (decide (g = n) || decide (Reach c.fs (fun v => v ∈ [f.2]) (c.fs.getD g (0, 0)).1)) := by unfold ledP; rw [ht]
              rw [hp]
              generalize decide (Reach c.fs (fun v => v ∈ [f.2]) (c.fs.getD g (0, 0)).1) = r at ixb ⊢
              generalize (c.fs.getD g (0, 0)).1 = o at ixb ⊢
              by_cases q : g = n
              · simp [q]
              · have q' : ¬ (g : Int) = (n : Int) := by omega
                simp [q, q', ixr, ixb, -oIx_ref])
          rw [this, List.filter_map, List.map_map]
          rfl
        have RR1 := RR.keep (Keep.push T [Ob.lst (intsN (ledL c n))] [])
        have LL1 := LL.keep (Keep.push T [Ob.lst (intsN (ledL c n))] [])
        have l1 := lt_of_get LL.top
        have hs := lt_of_get RR.top
        have hs1 : S.length < T1.length := lt_of_get R.top
        have LL2 := LL1.add (id := T.length) (by rw [hl']; exact get_last _ _) l1
        have il := isLst_lst LL.top
        have ap := oAppend_lst (y := .ref T.length) LL1.top (by rw [LIM_val]; simp; omega)
        generalize hT2 : (T ++ [Ob.lst (intsN (ledL c n))]).set T1.length (.lst (ids.map D.ref ++ [.ref T.length])) = T2 at LL2 ap
        have RR2 : Rows S.length rids (fun a => blsN (rowB c a)) T2 := by
          rw [← hT2]
          refine ⟨by rw [List.getElem?_set_ne (by omega)]; exact RR1.top, fun a id e => ?_⟩
          obtain ⟨h1, h2⟩ := RR1.rows a id e
          have h3 := (R.rows a id e).1
          have := lt_of_get h3
          exact ⟨by rw [List.getElem?_set_ne (by omega)]; exact h1, h2⟩
        have K2 : Keep [] T1 T2 := by
          rw [← hT2]
          exact (K.trans (Keep.push _ _ _)).new (Y := [T1.length]) (Keep.set _ (.inl (by simp))) (fun i hi => .inr (by simp at hi; omega))
        refine ⟨[some c.d, some (.ref S.length), some (.ref T1.length), some (.int (n : Int)), some (.int (f.1 : Int)), some (.int (f.2 : Int)), none, none, none], _, T2, rfl, .inl ((?_ : _ = Rs.nx [some c.d, some (.ref S.length), some (.ref T1.length), some (.int (n : Int)), some (.int (f.1 : Int)), some (.int (f.2 : Int)), none, none, none] T2)), _, _, _, n + 1, ids ++ [T.length], rfl, rfl, RR2, LL2, by simp; omega, K2⟩
        generalize intsN (ledL c n) = rw0 at cp ap
        unfold lbd Sch.d at *
        simp [cp, il, ap]) (enumD (c.fs.map fD)) [some c.d, some (.ref S.length), some (.ref T1.length), none, none, none, none, none, none] (T1 ++ [.lst []])
    ⟨none, none, none, 0, [], rfl, by simp, R.keep (Keep.push _ _ _), ⟨by simp, fun a id e => by simp at e⟩, by simp, Keep.push _ _ _⟩
  have hn' : n ≥ c.fs.length := by
    refine Decidable.byContradiction fun q => ?_
    have : n < (enumD (c.fs.map fD)).length := by rw [enum_len]; simp; omega
    rw [List.drop_eq_getElem_cons this] at hn
    cases hn
  refine ⟨T1.length, ids, T, ?_, LL, by omega, K1.trans K⟩
  have e' := e
  unfold lbd at e'
  unfold Sch.d at e1 e' ⊢
  simp [F_led_list, mkF, startE, LIM_val, e1, e']
theorem led_ok {c : Sch} (hc : c.Ok) {f : Nat} (hf : f < c.fs.length) (S : Store) : ∃ T, F_led [c.d, .int (f : Int)] S = .ok (.tup (intsN (ledL c f))) T ∧ Keep [] S T := by
  have e1 := made_ok hc S
  generalize hS1 : S ++ [Ob.lst (c.fs.map fD)] = S1 at e1
  have K1 : Keep [] S S1 := by rw [← hS1]; exact Keep.push _ _ _
  have e2 := asked_field_ok hf S1
  obtain ⟨li, ids, T, e3, LL, hl, K⟩ := led_list_ok hc S1
  have hid : ids[f]? = some ids[f] := List.getElem?_eq_getElem (by omega)
  have ix : oIx (.ref li) (.int (f : Int)) T = .ok (.ref ids[f]) T := oIx_lst LL.top (by rw [List.getElem?_map, hid]; rfl)
  have ft := fTuple_lst (LL.rows f _ hid).1
  refine ⟨T, ?_, K1.trans K⟩
  simp [F_led, mkF, startE, e1, e2, e3, ix, ft, -oIx_ref]
open Classical in
theorem law_led_ok {c : Sch} (hc : c.Ok) {f : Nat} (hf : f < c.fs.length) (S : Store) : ∃ T, F__law_wv_led [c.d, .int (f : Int)] S = .ok (.tup (intsN (ledL c f))) T ∧ Keep [] S T := by
  have k24 := hc.k24; have f40 := hc.f40
  have hff : c.fs[f]? = some c.fs[f] := List.getElem?_eq_getElem hf
  obtain ⟨q1, q2, q3⟩ := hc.fs _ (List.getElem_mem hf)
  obtain ⟨mi, T, e, hm, K⟩ := reached_ok hc (S := S ++ [.lst (intsN [c.fs[f].2])]) (ki := S.length) (src := fun v => v ∈ [c.fs[f].2]) (ks := [c.fs[f].2]) (rchL_one q3) (by simp) (fun v hv => by simp at hv; rw [hv]; exact q3) (get_last _ _)
  have e' : F__law_wv_reached [c.d, .ref S.length] (S ++ [.lst [.int (c.fs[f].2 : Int)]]) = .ok (.ref mi) T := e
  have cp : compL [] (.nm 3) (tOr (tE (eOp oEq (eV 3) (eV 1))) (tE (eOp oInS (eOp oIx (eOp oIx (eOp oIx (eV 0) (eC (.int 2))) (eV 3)) (eC (.int 0))) (eV 2)))) (eV 3) [some c.d, some (.int (f : Int)), some (.ref mi), none] (rngD 0 (c.fs.length : Int)) T = .ok (intsN (ledL c f)) T := by
    rw [rngD_nat]
    have := compL_pure (c := []) (g := .nm 3) (t := tOr (tE (eOp oEq (eV 3) (eV 1))) (tE (eOp oInS (eOp oIx (eOp oIx (eOp oIx (eV 0) (eC (.int 2))) (eV 3)) (eC (.int 0))) (eV 2)))) (e := eV 3) (sw := [some c.d, some (.int (f : Int)), some (.ref mi), none]) (S := T)
      (p := fun d => match d with | .int g => ledP c f g.toNat | _ => false) (f := id) rfl ((List.range c.fs.length).map fun (i : Nat) => D.int (i : Int)) (by
        intro d hd
        obtain ⟨g, hg, rfl⟩ := List.mem_map.mp hd
        have hg' := List.mem_range.mp hg
        have hfg : c.fs[g]? = some c.fs[g] := List.getElem?_eq_getElem hg'
        obtain ⟨o1, _, _⟩ := hc.fs _ (List.getElem_mem hg')
        refine ⟨[some c.d, some (.int (f : Int)), some (.ref mi), some (.int (g : Int))], rfl, ?_, fun _ => rfl⟩
        have ins := oInS_nats hm c.fs[g].1
        have hmm : (c.fs[g].1 ∈ reachL c.fs c.k fun v => v ∈ [c.fs[f].2]) ↔ Reach c.fs (fun v => v ∈ [c.fs[f].2]) c.fs[g].1 := by rw [mem_reachL]; exact ⟨fun h => h.2, fun h => ⟨o1, h⟩⟩
        rw [decide_eq_decide.mpr hmm] at ins
        have hp : ledP c f g = (decide (g = f) || decide (Reach c.fs (fun v => v ∈ [c.fs[f].2]) c.fs[g].1)) := by
          unfold ledP tgt; rw [getD_get hff, getD_get hfg]
        show _ = Res.ok (ledP c f g) T
        rw [hp]
        generalize decide (Reach c.fs (fun v => v ∈ [c.fs[f].2]) c.fs[g].1) = r at ins ⊢
        unfold Sch.d
        by_cases q : g = f
        · simp [q]
        · have q' : ¬ (g : Int) = (f : Int) := by omega
          simp [q, q', hg', fD, ins])
    rw [this, List.filter_map, List.map_map]
    rfl
  have ft := fTuple_lst (get_last T (.lst (intsN (ledL c f))))
  have KT : Keep [] S (T ++ [.lst (intsN (ledL c f))]) := (Keep.push _ _ _).trans (K.trans (Keep.push _ _ _))
  refine ⟨T ++ [.lst (intsN (ledL c f))], ?_, KT⟩
  have r1 : -(4611686018427387904 : Int) ≤ (c.fs.length : Int) := by omega
  have r2 : (c.fs.length : Int) ≤ 16777216 := by omega
  generalize intsN (ledL c f) = rw0 at cp ft ⊢
  unfold Sch.d at e' cp ⊢
  simp [F__law_wv_led, mkF, startE, hf, fD, LIM_val, e', r1, r2, cp, ft]
end WkL


set_option Elab.async false
set_option linter.all false
set_option maxRecDepth 100000
set_option maxHeartbeats 1000000
set_option autoImplicit false
/-! Pk03c: walks drawn, ways bent. -/
namespace WkL
open PySem (Str)
open Wk
theorem atI_last {α : Type} (xs : List α) (x : α) : atI (xs ++ [x]) (-1) = some x := by
  unfold atI ixN
  rw [if_neg (by decide), if_pos (by simp; omega)]
  have : ((-1 : Int) + ((xs ++ [x]).length : Int)).toNat = xs.length := by simp; omega
  rw [Option.bind_some, this]
  simp
def kbody : FS := sSeq (sSet 7 (eComp (iRng (eUn fLen (eOp oIx (eV 1) (eC (.int 2))))) (.nm 8) (tE (eOp oEq (eOp oIx (eOp oIx (eOp oIx (eV 1) (eC (.int 2))) (eV 8)) (eC (.int 0))) (eV 5))) (eV 8) [8]))
    (sIf (tE (eOp oNe (eV 7) (eLst aNil))) (sSeq (sExpr (eBM oAppend (eV 4) (eCall F__law_wv_one (aCons (eV 0) (aCons (eV 7) aNil)))))
    (sSet 5 (eOp oIx (eOp oIx (eOp oIx (eV 1) (eC (.int 2))) (eOp oIx (eV 4) (eUn uNeg (eC (.int 1))))) (eC (.int 1))))) sSkip)
theorem beq_castN (x a : Nat) : ((x : Int) == (a : Int)) = (x == a) := by
  rw [Bool.eq_iff_iff]; simp; omega
theorem walked_ok {c : Sch} (hc : c.Ok) {p a : Nat} (ha : a < c.k) {many : Nat} (hm : many ≤ 12) {S : Store} (hP : Pool p S) : ∃ (P : List Nat) (here : Nat) (T : Store), F__law_walked [.ref p, c.d, .int (a : Int), .int (many : Int)] S = .ok (.tup [.tup (intsN P), .int (here : Int)]) T ∧ here < c.k ∧ Walk c.fs a P here ∧ P.length ≤ 12 ∧ (∀ f ∈ P, f < c.fs.length) ∧ Keep [p] S T ∧ Pool p T := by
  have k24 := hc.k24; have f40 := hc.f40
  have hp := hP.lt
  obtain ⟨s', T, e, P, here, x, y, rfl, hF, hh, hw, hl, hfl, K, PT⟩ := forL_run (c := []) (g := .nm 6) (b := kbody)
    (fun rest s T => ∃ (P : List Nat) (here : Nat) (x y : Option D), s = [some (.ref p), some c.d, some (.int (a : Int)), some (.int (many : Int)), some (.ref S.length), some (.int (here : Int)), x, y, none] ∧ T[S.length]? = some (.lst (intsN P)) ∧ here < c.k ∧ Walk c.fs a P here ∧ P.length + rest.length ≤ 12 ∧ (∀ f ∈ P, f < c.fs.length) ∧ Keep [p] S T ∧ Pool p T) (fun _ _ _ _ => rfl) (by
      rintro d rest s T ⟨P, here, x, y, rfl, hF, hh, hw, hl, hfl, K, PT⟩
      simp only [List.length_cons] at hl
      have cp : compL [] (.nm 8) (tE (eOp oEq (eOp oIx (eOp oIx (eOp oIx (eV 1) (eC (.int 2))) (eV 8)) (eC (.int 0))) (eV 5))) (eV 8) [some (.ref p), some c.d, some (.int (a : Int)), some (.int (many : Int)), some (.ref S.length), some (.int (here : Int)), some d, y, none] (rngD 0 (c.fs.length : Int)) T = .ok (intsN (fo c.fs c.fs.length here)) T := by
        rw [rngD_nat]
        have := compL_pure (c := []) (g := .nm 8) (t := tE (eOp oEq (eOp oIx (eOp oIx (eOp oIx (eV 1) (eC (.int 2))) (eV 8)) (eC (.int 0))) (eV 5))) (e := eV 8) (sw := [some (.ref p), some c.d, some (.int (a : Int)), some (.int (many : Int)), some (.ref S.length), some (.int (here : Int)), some d, y, none]) (S := T)
          (p := fun d => match d with | .int i => (c.fs[i.toNat]?.map (·.1)) == some here | _ => false) (f := id) rfl ((List.range c.fs.length).map fun (i : Nat) => D.int (i : Int)) (by
            intro d hd
            obtain ⟨i, hi, rfl⟩ := List.mem_map.mp hd
            have hi' := List.mem_range.mp hi
            have hf : c.fs[i]? = some c.fs[i] := List.getElem?_eq_getElem hi'
            refine ⟨_, rfl, ?_, fun _ => rfl⟩
            unfold Sch.d
            simp [hf, fD, beq_castN])
        rw [this, List.filter_map, List.map_map]
        rfl
      have hfl0 : (fo c.fs c.fs.length here).length ≤ 40 := by
        unfold fo
        exact Nat.le_trans (List.length_filter_le _ _) (by simp; omega)
      have r1 : -(4611686018427387904 : Int) ≤ (c.fs.length : Int) := by omega
      have r2 : (c.fs.length : Int) ≤ 16777216 := by omega
      -- some, []
      generalize hT1 : T ++ [Ob.lst (intsN (fo c.fs c.fs.length here))] = T1
      have g1 : T1[T.length]? = some (.lst (intsN (fo c.fs c.fs.length here))) := by rw [← hT1]; exact get_last _ _
      have l1 : T1.length = T.length + 1 := by rw [← hT1]; simp
      have K1 : Keep [] T T1 := by rw [← hT1]; exact Keep.push _ _ _
      have st1 : sSet 7 (eComp (iRng (eUn fLen (eOp oIx (eV 1) (eC (.int 2))))) (.nm 8) (tE (eOp oEq (eOp oIx (eOp oIx (eOp oIx (eV 1) (eC (.int 2))) (eV 8)) (eC (.int 0))) (eV 5))) (eV 8) [8]) [some (.ref p), some c.d, some (.int (a : Int)), some (.int (many : Int)), some (.ref S.length), some (.int (here : Int)), some d, y, none] T =
          .nx [some (.ref p), some c.d, some (.int (a : Int)), some (.int (many : Int)), some (.ref S.length), some (.int (here : Int)), some d, some (.ref T.length), none] T1 := by
        generalize intsN (fo c.fs c.fs.length here) = rw0 at cp hT1
        unfold Sch.d at cp ⊢
        simp [r1, r2, cp, hT1]
      have k2 := Keep.push T1 [Ob.lst []] []
      have g2 := k2.get g1 (by simp)
      have eq : oEq (.ref T.length) (.ref T1.length) (T1 ++ [Ob.lst []]) = .ok (.bl (decide (fo c.fs c.fs.length here = []))) (T1 ++ [Ob.lst []]) := oEq_nats g2 (ys := []) (by simp)
      have KT : Keep [] T (T1 ++ [Ob.lst []]) := K1.trans k2
      have hF2 := KT.get hF (by simp)
      have PT2 : Pool p (T1 ++ [Ob.lst []]) := PT.keep KT (by simp)
      have hTp := PT.lt
      by_cases q : fo c.fs c.fs.length here = []
      · refine ⟨_, _, T1 ++ [Ob.lst []], rfl, .inl (nx_seq st1 ((?_ : _ = Rs.nx [some (.ref p), some c.d, some (.int (a : Int)), some (.int (many : Int)), some (.ref S.length), some (.int (here : Int)), some d, some (.ref T.length), none] (T1 ++ [Ob.lst []])))), P, here, _, _, rfl, hF2, hh, hw, by omega, hfl, K.trans (KT.mono (by simp)), PT2⟩
        simp [LIM_val, eq, q]
      · obtain ⟨w, T3, e3, hw3, K3, P3, L3⟩ := one_ok PT2 g2 (by omega) (by
          cases h : fo c.fs c.fs.length here with
          | nil => exact absurd h q
          | cons a b => simp) (by simp; omega)
        obtain ⟨f, hf, rfl⟩ := List.mem_map.mp hw3
        obtain ⟨hfl1, t, hft⟩ := mem_fo.mp hf
        obtain ⟨o1, o2, o3⟩ := hc.fs _ (List.mem_of_getElem? hft)
        have hne : S.length ≠ p := by omega
        have hF3 := K3.get hF2 (by simpa using hne)
        have il := isLst_lst hF2
        have ap := oAppend_lst (y := .int (f : Int)) hF3 (by rw [LIM_val]; simp; omega)
        have eW : intsN P ++ [D.int (f : Int)] = intsN (P ++ [f]) := by simp
        rw [eW] at ap
        have hF4 := get_set_self (u := .lst (intsN (P ++ [f]))) hF3
        have K4 : Keep [p] S (T3.set S.length (.lst (intsN (P ++ [f])))) := ((K.trans (KT.mono (by simp))).trans K3).new (Y := [S.length]) (Keep.set _ (.inl (by simp))) (fun i hi => .inr (by simp at hi; omega))
        have P4 : Pool p (T3.set S.length (.lst (intsN (P ++ [f])))) := P3.keep (X := [S.length]) (Keep.set _ (.inl (by simp))) (by simp; omega)
        generalize hT4 : T3.set S.length (.lst (intsN (P ++ [f]))) = T4 at ap hF4 K4 P4
        have ix : oIx (.ref S.length) (.int (-1)) T4 = .ok (.int (f : Int)) T4 := by
          rw [oIx_ref, hF4]; dsimp only; rw [← eW, atI_last]
        refine ⟨_, _, T4, rfl, .inl (nx_seq st1 ((?_ : _ = Rs.nx [some (.ref p), some c.d, some (.int (a : Int)), some (.int (many : Int)), some (.ref S.length), some (.int (t : Int)), some d, some (.ref T.length), none] T4))), P ++ [f], t, _, _, rfl, hF4, o3, hw.snoc hft, by simp; omega, fun g hg => ?_, K4, P4⟩
        · unfold Sch.d
          simp [LIM_val, eq, q, il, e3, ap, ix, hft, fD, -oIx_ref]
        · rcases List.mem_append.mp hg with z | z
          · exact hfl g z
          · have : g = f := by simpa using z
            subst this; exact hfl1) (rngD 0 (many : Int)) [some (.ref p), some c.d, some (.int (a : Int)), some (.int (many : Int)), some (.ref S.length), some (.int (a : Int)), none, none, none] (S ++ [.lst []])
    ⟨[], a, none, none, rfl, by simp, ha, rfl, by rw [rngD_len]; simpa using hm, by simp, Keep.push _ _ _, hP.keep (Keep.push S _ []) (by simp)⟩
  refine ⟨P, here, T, ?_, hh, hw, by simpa using hl, hfl, K, PT⟩
  have r1 : -(4611686018427387904 : Int) ≤ (many : Int) := by omega
  have r2 : (many : Int) ≤ 16777216 := by omega
  have ft := fTuple_lst hF
  have e' := e
  unfold kbody at e'
  generalize intsN P = rw0 at ft ⊢
  unfold Sch.d at e' ⊢
  simp [F__law_walked, mkF, startE, LIM_val, r1, r2, e', ft]
theorem cutD_mem {ds : List D} {lo hi : Option Int} {d : D} (h : d ∈ cutD ds lo hi) : d ∈ ds := List.mem_of_mem_drop (List.mem_of_mem_take h)
theorem cutD_len (ds : List D) (lo hi : Option Int) : (cutD ds lo hi).length ≤ ds.length := by
  unfold cutD
  rw [List.length_take, List.length_drop]
  omega
theorem oAdd_tup {a b : List D} {S : Store} (h : a.length + b.length ≤ LIM) : oAdd (.tup a) (.tup b) S = .ok (.tup (a ++ b)) S := by
  unfold oAdd; dsimp only; rw [if_pos h]
theorem oAdd_lst {S : Store} {l m : Nat} {a b : List D} (h1 : S[l]? = some (.lst a)) (h2 : S[m]? = some (.lst b)) (h : a.length + b.length ≤ LIM) : oAdd (.ref l) (.ref m) S = .ok (.ref S.length) (S ++ [.lst (a ++ b)]) := by
  unfold oAdd; dsimp only; rw [h1, h2]; dsimp only; rw [if_pos h]
theorem strI_small {f : Nat} (h : f < 1000) (S : Store) : fStrI (.int (f : Int)) S = .ok (.str (Str.ofString (toString (f : Int)))) S := by
  unfold fStrI
  dsimp only
  rw [if_pos (Nat.lt_trans (log2_lt (k := 64) (by decide) (by show (f : Int).natAbs < 18446744073709551616; omega)) (by decide))]
theorem Thing.keep {S T : Store} {x : D} (h : Thing S x) {X : List Nat} (k : Keep X S T) (n : ∀ l, x = .ref l → l ∉ X) : Thing T x := by
  cases x with
  | ref l =>
    obtain ⟨ds, e⟩ := h
    exact ⟨ds, k.get e (n l rfl)⟩
  | _ => exact h
theorem bent_ok {c : Sch} (hc : c.Ok) {p : Nat} {P : List Nat} (hl : P.length ≤ 100) (hf : ∀ f ∈ P, f < c.fs.length) {S : Store} (hP : Pool p S) : ∃ (d : D) (T : Store), F__law_bent_way [.ref p, c.d, .tup (intsN P)] S = .ok d T ∧ Thing T d ∧ Keep [p] S T ∧ Pool p T ∧ ∀ l, d = .ref l → l ∉ [p] := by
  have f40 := hc.f40
  generalize hds : intsN P = ds
  have hdl : ds.length ≤ 100 := by rw [← hds]; simpa using hl
  have hEl : ∀ d ∈ ds, El d := by
    rw [← hds]
    intro d hd
    obtain ⟨v, _, rfl⟩ := List.mem_map.mp hd
    exact .inr ⟨_, rfl⟩
  obtain ⟨k, T1, e1, k0, k1, K1, P1, L1⟩ := take_ok (many := (ds.length : Int) + 1) hP (by omega) (by omega)
  obtain ⟨m, T2, e2, m0, m1, K2, P2, L2⟩ := take_ok (many := (c.fs.length : Int) + 1) P1 (by omega) (by omega)
  generalize ho : ([.int (c.fs.length : Int), .int (-1), .bl true, .non, .str "0", .tup [.int 0], .int m] : List D) = OL
  have hol : OL.length = 7 := by rw [← ho]; rfl
  have hOL : ∀ d ∈ OL, El d := by
    rw [← ho]
    intro d hd
    simp only [List.mem_cons, List.not_mem_nil, or_false] at hd
    rcases hd with rfl | rfl | rfl | rfl | rfl | rfl | rfl
    · exact .inr ⟨_, rfl⟩
    · exact .inr ⟨_, rfl⟩
    · exact .inl True.intro
    · exact .inl True.intro
    · exact .inl True.intro
    · exact .inl True.intro
    · exact .inr ⟨_, rfl⟩
  have hp2 := P2.lt
  obtain ⟨odd, T3, e3, hodd, K3, P3, L3⟩ := one_ok (P2.push (X := [Ob.lst OL])) (get_last T2 (.lst OL)) (by omega) (by omega) (by omega)
  have eo := hOL odd hodd
  have KT3 : Keep [p] S T3 := ((K1.trans K2).trans (Keep.push _ _ _)).trans K3
  have hp3 := P3.lt
  -- the pieces
  generalize hA : cutD ds none (some k) = A
  generalize hB : cutD ds (some (k + 1)) none = B
  generalize hC : cutD ds (some k) none = C
  have lA : A.length ≤ 100 := by rw [← hA]; exact Nat.le_trans (cutD_len _ _ _) hdl
  have lB : B.length ≤ 100 := by rw [← hB]; exact Nat.le_trans (cutD_len _ _ _) hdl
  have lC : C.length ≤ 100 := by rw [← hC]; exact Nat.le_trans (cutD_len _ _ _) hdl
  have eA : ∀ d ∈ A, El d := by rw [← hA]; exact fun d hd => hEl d (cutD_mem hd)
  have eB : ∀ d ∈ B, El d := by rw [← hB]; exact fun d hd => hEl d (cutD_mem hd)
  have eC' : ∀ d ∈ C, El d := by rw [← hC]; exact fun d hd => hEl d (cutD_mem hd)
  have El2 : ∀ {a b : List D}, (∀ d ∈ a, El d) → (∀ d ∈ b, El d) → ∀ d ∈ a ++ b, El d := fun ha hb d hd => (List.mem_append.mp hd).elim (ha d) (hb d)
  have eodd : ∀ d ∈ [odd], El d := by simpa using eo
  have a1 : ∀ T, oAdd (.tup A) (.tup [odd]) T = .ok (.tup (A ++ [odd])) T := fun T => oAdd_tup (by simp [LIM_val]; omega)
  have a2 : ∀ T, oAdd (.tup (A ++ [odd])) (.tup B) T = .ok (.tup (A ++ [odd] ++ B)) T := fun T => oAdd_tup (by simp [LIM_val]; omega)
  have a3 : ∀ T, oAdd (.tup A) (.tup B) T = .ok (.tup (A ++ B)) T := fun T => oAdd_tup (by simp [LIM_val]; omega)
  have a4 : ∀ T, oAdd (.tup (A ++ [odd])) (.tup C) T = .ok (.tup (A ++ [odd] ++ C)) T := fun T => oAdd_tup (by simp [LIM_val]; omega)
  have a5 : ∀ T, oAdd (.tup ds) (.tup ds) T = .ok (.tup (ds ++ ds)) T := fun T => oAdd_tup (by simp [LIM_val]; omega)
  generalize hI3 : ([.tup (A ++ [odd] ++ B), .tup (A ++ B), .tup (A ++ [odd] ++ C)] : List D) = I3
  have lI3 : I3.length = 3 := by rw [← hI3]; rfl
  generalize hT4 : T3 ++ [Ob.lst I3] = T4
  have g4 : T4[T3.length]? = some (.lst I3) := by rw [← hT4]; exact get_last _ _
  have K34 : Keep [] T3 T4 := by rw [← hT4]; exact Keep.push _ _ _
  generalize hI9 : ([.tup ds.reverse, .tup (ds ++ ds), .ref T4.length, .non, .tup [], .tup [.tup ds], .str "way", .int 0, .ref (T4.length + 2)] : List D) = I9
  have lI9 : I9.length = 9 := by rw [← hI9]; rfl
  generalize hT5 : T4 ++ [Ob.lst ds, Ob.lst [], Ob.lst [.ref (T4.length + 1)], Ob.lst I9] = T5
  have K45 : Keep [] T4 T5 := by rw [← hT5]; exact Keep.push _ _ _
  have g5 := K45.get g4 (by simp)
  have g5' : T5[T4.length + 3]? = some (.lst I9) := by rw [← hT5]; simp
  have g5a : T5[T4.length]? = some (.lst ds) := by rw [← hT5]; simp
  have g5b : T5[T4.length + 2]? = some (.lst [.ref (T4.length + 1)]) := by rw [← hT5]; simp
  have ad1 := oAdd_lst g5 g5' (by rw [LIM_val]; omega)
  generalize hT6 : T5 ++ [Ob.lst (I3 ++ I9)] = T6 at ad1
  have K56 : Keep [] T5 T6 := by rw [← hT6]; exact Keep.push _ _ _
  have g6 : T6[T5.length]? = some (.lst (I3 ++ I9)) := by rw [← hT6]; exact get_last _ _
  generalize hSS : (P.map fun (f : Nat) => D.str (Str.ofString (toString (f : Int)))) = SS
  have cs : ∀ w, compL [] (.nm 7) tTrue (eUn fStrI (eV 7)) [some (.ref p), some c.d, some (.tup ds), some (.int k), some (.int (c.fs.length : Int)), some odd, some (.ref T5.length), w] ds T6 = .ok SS T6 := by
    intro w
    rw [← hds]
    refine Eq.trans (compL_map (f := fun d => match d with | .int i => .str (Str.ofString (toString i)) | _ => .non) rfl _ fun d hd => ?_) ?_
    · obtain ⟨v, hv, rfl⟩ := List.mem_map.mp hd
      refine ⟨_, rfl, ?_⟩
      have := strI_small (f := v) (by have := hf v hv; omega) T6
      simp [this]
    · rw [intsN, List.map_map, ← hSS]; rfl
  have eSS : ∀ d ∈ SS, El d := by
    rw [← hSS]
    intro d hd
    obtain ⟨v, _, rfl⟩ := List.mem_map.mp hd
    exact .inl True.intro
  have ft := fTuple_lst (get_last T6 (.lst SS))
  generalize hT7 : T6 ++ [Ob.lst SS] = T7 at ft
  have K67 : Keep [] T6 T7 := by rw [← hT7]; exact Keep.push _ _ _
  generalize hT8 : T7 ++ [Ob.lst [D.tup SS]] = T8
  have K78 : Keep [] T7 T8 := by rw [← hT8]; exact Keep.push _ _ _
  have g8 : T8[T5.length]? = some (.lst (I3 ++ I9)) := (K67.trans K78).get g6 (by simp)
  have g8' : T8[T7.length]? = some (.lst [D.tup SS]) := by rw [← hT8]; exact get_last _ _
  have ad2 := oAdd_lst g8 g8' (by simp [LIM_val]; omega)
  have KK : Keep [] T3 (T8 ++ [Ob.lst (I3 ++ I9 ++ [D.tup SS])]) := ((K34.trans K45).trans (K56.trans K67)).trans (K78.trans (Keep.push _ _ _))
  have K5 : Keep [] T5 (T8 ++ [Ob.lst (I3 ++ I9 ++ [D.tup SS])]) := (K56.trans K67).trans (K78.trans (Keep.push _ _ _))
  have P8 : Pool p (T8 ++ [Ob.lst (I3 ++ I9 ++ [D.tup SS])]) := P3.keep KK (by simp)
  have l38 : T3.length ≤ T8.length := ((K34.trans K45).trans (K56.trans K67)).trans K78 |>.1
  obtain ⟨d, T9, e9, hd, K9, P9, L9⟩ := one_ok P8 (get_last T8 _) (by omega) (by simp; omega) (by simp; omega)
  have thg : Thing (T8 ++ [Ob.lst (I3 ++ I9 ++ [D.tup SS])]) d := by
    rcases List.mem_append.mp hd with h | h
    · rcases List.mem_append.mp h with h | h
      · rw [← hI3] at h
        simp only [List.mem_cons, List.not_mem_nil, or_false] at h
        rcases h with rfl | rfl | rfl
        · exact El2 (El2 eA eodd) eB
        · exact El2 eA eB
        · exact El2 (El2 eA eodd) eC'
      · rw [← hI9] at h
        simp only [List.mem_cons, List.not_mem_nil, or_false] at h
        rcases h with rfl | rfl | rfl | rfl | rfl | rfl | rfl | rfl | rfl
        · exact fun d hd => hEl d (List.mem_reverse.mp hd)
        · exact El2 hEl hEl
        · exact ⟨_, K5.get g5a (by simp)⟩
        · exact True.intro
        · exact fun d hd => by simp at hd
        · exact fun d hd => by
            have : d = .tup ds := by simpa using hd
            subst this
            exact .inl True.intro
        · exact True.intro
        · exact True.intro
        · exact ⟨_, K5.get g5b (by simp)⟩
    · have : d = .tup SS := by simpa using h
      subst this
      exact eSS
  have npd : ∀ l, d = .ref l → l ∉ [p] := by
    rintro l rfl
    obtain ⟨xs, hx⟩ := thg
    obtain ⟨dg, st, hpp, _⟩ := P8
    intro hlp
    have : l = p := by simpa using hlp
    subst this
    -- the pool is no member of what was drawn from
    rcases List.mem_append.mp hd with h | h
    · rcases List.mem_append.mp h with h | h
      · rw [← hI3] at h; simp at h
      · rw [← hI9] at h
        have l34 := K34.1
        simp at h
        rcases h with h | h <;> omega
    · simp at h
  refine ⟨d, T9, ?_, thg.keep K9 npd, (KT3.trans (KK.mono (by simp))).trans K9, P9, npd⟩
  have st1 : sPar 3 4 (eCall F__law_wv_take (aCons (eV 0) (aCons (eOp oAdd (eUn fLen (eV 2)) (eC (.int 1))) aNil))) (eUn fLen (eOp oIx (eV 1) (eC (.int 2)))) [some (.ref p), some c.d, some (.tup ds), none, none, none, none, none] S =
      .nx [some (.ref p), some c.d, some (.tup ds), some (.int k), some (.int (c.fs.length : Int)), none, none, none] T1 := by
    unfold Sch.d
    simp [e1]
  have st2 : sSet 5 (eCall F__law_wv_one (aCons (eV 0) (aCons (eLst (aCons (eV 4) (aCons (eUn uNeg (eC (.int 1))) (aCons (eC (.bl true)) (aCons (eC .non) (aCons (eC (.str "0")) (aCons (eTup (aCons (eC (.int 0)) aNil)) (aCons (eCall F__law_wv_take (aCons (eV 0) (aCons (eOp oAdd (eV 4) (eC (.int 1))) aNil))) aNil)))))))) aNil))) [some (.ref p), some c.d, some (.tup ds), some (.int k), some (.int (c.fs.length : Int)), none, none, none] T1 =
      .nx [some (.ref p), some c.d, some (.tup ds), some (.int k), some (.int (c.fs.length : Int)), some odd, none, none] T3 := by
    simp [LIM_val, e2, ho, hol, e3]
  have st3 : sSet 6 (eLst (aCons (eOp oAdd (eOp oAdd (eSlice (eV 2) oNone (oSome (eV 3))) (eTup (aCons (eV 5) aNil))) (eSlice (eV 2) (oSome (eOp oAdd (eV 3) (eC (.int 1)))) oNone)) (aCons (eOp oAdd (eSlice (eV 2) oNone (oSome (eV 3))) (eSlice (eV 2) (oSome (eOp oAdd (eV 3) (eC (.int 1)))) oNone)) (aCons (eOp oAdd (eOp oAdd (eSlice (eV 2) oNone (oSome (eV 3))) (eTup (aCons (eV 5) aNil))) (eSlice (eV 2) (oSome (eV 3)) oNone)) aNil)))) [some (.ref p), some c.d, some (.tup ds), some (.int k), some (.int (c.fs.length : Int)), some odd, none, none] T3 =
      .nx [some (.ref p), some c.d, some (.tup ds), some (.int k), some (.int (c.fs.length : Int)), some odd, some (.ref T3.length), none] T4 := by
    simp only [List.append_assoc, List.cons_append, List.nil_append] at a2 a4 hI3
    simp [eSlice, oSome, oNone, slD, hA, hB, hC, LIM_val, a1, a2, a3, a4, hI3, lI3, hT4]
  have st4 : sSet 6 (eOp oAdd (eV 6) (eLst (aCons (eUn fRevA (eV 2)) (aCons (eOp oAdd (eV 2) (eV 2)) (aCons (eUn fList (eV 2)) (aCons (eC .non) (aCons (eTup aNil) (aCons (eTup (aCons (eV 2) aNil)) (aCons (eC (.str "way")) (aCons (eC (.int 0)) (aCons (eLst (aCons (eLst aNil) aNil)) aNil))))))))))) [some (.ref p), some c.d, some (.tup ds), some (.int k), some (.int (c.fs.length : Int)), some odd, some (.ref T3.length), none] T4 =
      .nx [some (.ref p), some c.d, some (.tup ds), some (.int k), some (.int (c.fs.length : Int)), some odd, some (.ref T5.length), none] T6 := by
    simp [fRevA, LIM_val, a5, hI9, lI9, hT5, ad1]
  have st5 : sRet (eCall F__law_wv_one (aCons (eV 0) (aCons (eOp oAdd (eV 6) (eLst (aCons (eUn fTuple (eComp (iSeq (eV 2)) (.nm 7) tTrue (eUn fStrI (eV 7)) [7])) aNil))) aNil))) [some (.ref p), some c.d, some (.tup ds), some (.int k), some (.int (c.fs.length : Int)), some odd, some (.ref T5.length), none] T6 = .rt d T9 := by
    have e9' := e9
    have ad2' := ad2
    simp only [List.append_assoc] at e9' ad2'
    simp [cs, hT7, ft, LIM_val, hT8, ad2', e9']
  exact (mkF_eq 3 8 _ [.ref p, c.d, .tup ds] S rfl).trans (by
    rw [show startE 8 [D.ref p, c.d, .tup ds] = [some (.ref p), some c.d, some (.tup ds), none, none, none, none, none] from rfl]
    rw [show b__law_bent_way [some (.ref p), some c.d, some (.tup ds), none, none, none, none, none] S = .rt d T9 from nx_seq st1 (nx_seq st2 (nx_seq st3 (nx_seq st4 st5)))])
end WkL


set_option Elab.async false
set_option linter.all false
set_option maxRecDepth 100000
set_option maxHeartbeats 1000000
set_option autoImplicit false
/-! Pk03d: two kinds judged. -/
namespace WkL
open PySem (Str)
open Wk
theorem plain_ns (l : List Nat) (h : l.length ≤ 1000000) : Plain 1 (.tup (intsN l)) := ⟨by simpa using h, fun x hx => by
  obtain ⟨v, _, rfl⟩ := List.mem_map.mp hx
  exact True.intro⟩
theorem dsum {α : Type} (xs ys : List α) (x : α) (h : x ∈ xs ++ ys) : x ∈ xs ∨ x ∈ ys := List.mem_append.mp h
theorem judge_ok {c : Sch} (hc : c.Ok) {p a b ni : Nat} (ha : a < c.k) (hb : b < c.k) {told : D} {W : List Nat} (ht : told = .non ∨ (told = .tup (intsN W) ∧ W.length ≤ 100 ∧ ∀ f ∈ W, f < c.fs.length)) {S : Store} (hP : Pool p S) :
    ∃ T, (sSeq (sAsg (.tp [(.nm 6), (.nm 7)]) (eCall F__law_walked (aCons (eV 0) (aCons (eV 1) (aCons (eV 2) (aCons (eCall F__law_wv_take (aCons (eV 0) (aCons (eC (.int 12)) aNil))) aNil))))))
    (sSeq (sSet 8 (eLst (aCons (eV 6) (aCons (eTup aNil) (aCons (eC .non) (aCons (eCall F__law_bent_way (aCons (eV 0) (aCons (eV 1) (aCons (eV 6) aNil)))) aNil))))))
    (sSeq (sExpr (eBM oExtend (eV 8) (eIf (tE (eOp oNotN (eV 5) (eC .non))) (eLst (aCons (eV 5) (aCons (eCall F__law_bent_way (aCons (eV 0) (aCons (eV 1) (aCons (eV 5) aNil)))) aNil))) (eLst aNil))))
    (sSeq (sSet 9 (eComp (iSeq (eV 8)) (.nm 10) tTrue (eCall F__law_is_way (aCons (eV 1) (aCons (eV 2) (aCons (eV 3) (aCons (eV 10) aNil))))) [10]))
    (sSeq (sIf (Wk.tNot (tE (eCall F__law_same (aCons (eComp (iSeq (eV 8)) (.nm 10) tTrue (eCall F_way_right (aCons (eV 1) (aCons (eV 2) (aCons (eV 3) (aCons (eV 10) aNil))))) [10]) (aCons (eV 9) aNil))))) (sRet (eC (.bl false))) sSkip)
    (sRet (eCall F__law_same (aCons (eCall F_way_right (aCons (eV 1) (aCons (eV 2) (aCons (eV 7) (aCons (eV 6) aNil))))) (aCons (eC (.bl true)) aNil))))))))) [some (.ref p), some c.d, some (.int (a : Int)), some (.int (b : Int)), some (.ref ni), some told, none, none, none, none, none] S = .rt (.bl true) T ∧ Keep [p] S T ∧ Pool p T := by
  obtain ⟨m, T1, e1, m0, m1, K1, P1, L1⟩ := take_ok (many := 12) hP (by decide) (by decide)
  obtain ⟨m, rfl⟩ := Int.eq_ofNat_of_zero_le m0
  obtain ⟨P, here, T2, e2, hh, hw, hPl, hPf, K2, P2⟩ := walked_ok hc ha (many := m) (by omega) P1
  obtain ⟨d1, T3, e3, th1, K3, P3, n1⟩ := bent_ok hc (P := P) (by omega) hPf P2
  have wk := walk_isWay hw
  have thR : ∀ T : Store, Thing T (.tup (intsN P)) := fun T => thing_ints P
  generalize hrow : intsN P = row at e2 e3 wk thR
  have st1 : sAsg (.tp [(.nm 6), (.nm 7)]) (eCall F__law_walked (aCons (eV 0) (aCons (eV 1) (aCons (eV 2) (aCons (eCall F__law_wv_take (aCons (eV 0) (aCons (eC (.int 12)) aNil))) aNil))))) [some (.ref p), some c.d, some (.int (a : Int)), some (.int (b : Int)), some (.ref ni), some told, none, none, none, none, none] S =
      .nx [some (.ref p), some c.d, some (.int (a : Int)), some (.int (b : Int)), some (.ref ni), some told, some (.tup row), some (.int (here : Int)), none, none, none] T2 := by
    simp [e1, e2]
  have hp3 := P3.lt
  generalize hT4 : T3 ++ [Ob.lst [D.tup row, .tup [], .non, d1]] = T4
  have st2 : sSet 8 (eLst (aCons (eV 6) (aCons (eTup aNil) (aCons (eC .non) (aCons (eCall F__law_bent_way (aCons (eV 0) (aCons (eV 1) (aCons (eV 6) aNil)))) aNil))))) [some (.ref p), some c.d, some (.int (a : Int)), some (.int (b : Int)), some (.ref ni), some told, some (.tup row), some (.int (here : Int)), none, none, none] T2 =
      .nx [some (.ref p), some c.d, some (.int (a : Int)), some (.int (b : Int)), some (.ref ni), some told, some (.tup row), some (.int (here : Int)), some (.ref T3.length), none, none] T4 := by
    simp [LIM_val, e3, hT4]
  have g4 : T4[T3.length]? = some (.lst [D.tup row, .tup [], .non, d1]) := by rw [← hT4]; exact get_last _ _
  have K34 : Keep [] T3 T4 := by rw [← hT4]; exact Keep.push _ _ _
  have P4 : Pool p T4 := P3.keep K34 (by simp)
  have th4 : ∀ d ∈ [D.tup row, .tup [], .non, d1], Thing T4 d := by
    intro d hd
    simp only [List.mem_cons, List.not_mem_nil, or_false] at hd
    rcases hd with rfl | rfl | rfl | rfl
    · exact thR _
    · exact fun d hd => by simp at hd
    · exact True.intro
    · exact th1.keep K34 (by simp)
  have K04 : Keep [p] S T4 := ((K1.trans K2).trans K3).trans (K34.mono (by simp))
  have nsp : T3.length ≠ p := by omega
  -- what is put behind
  have ext : ∃ (L : List D) (T6 : Store), sExpr (eBM oExtend (eV 8) (eIf (tE (eOp oNotN (eV 5) (eC .non))) (eLst (aCons (eV 5) (aCons (eCall F__law_bent_way (aCons (eV 0) (aCons (eV 1) (aCons (eV 5) aNil)))) aNil))) (eLst aNil))) [some (.ref p), some c.d, some (.int (a : Int)), some (.int (b : Int)), some (.ref ni), some told, some (.tup row), some (.int (here : Int)), some (.ref T3.length), none, none] T4 =
      .nx [some (.ref p), some c.d, some (.int (a : Int)), some (.int (b : Int)), some (.ref ni), some told, some (.tup row), some (.int (here : Int)), some (.ref T3.length), none, none] T6 ∧ T6[T3.length]? = some (.lst L) ∧ L.length ≤ 10 ∧ (∀ d ∈ L, Thing T6 d) ∧ Keep [p] S T6 ∧ Pool p T6 := by
    have il := isLst_lst g4
    have l3 : S.length ≤ T3.length := ((K1.trans K2).trans K3).1
    rcases ht with rfl | ⟨rfl, hWl, hWf⟩
    · have g5 := (Keep.push T4 [Ob.lst []] []).get g4 (by simp)
      have ex := oExtend_lst g5 (get_last T4 (.lst [])) (by simp [LIM_val])
      generalize hT6 : (T4 ++ [Ob.lst []]).set T3.length (.lst ([D.tup row, .tup [], .non, d1] ++ [])) = T6 at ex
      have g6 : T6[T3.length]? = some (.lst ([D.tup row, .tup [], .non, d1] ++ [])) := by rw [← hT6]; exact get_set_self g5
      have K6 : Keep [T3.length] T4 T6 := by rw [← hT6]; exact ((Keep.push T4 [Ob.lst []] []).mono (by simp)).trans (Keep.set _ (.inl (by simp)))
      refine ⟨_, T6, ?_, g6, by simp, fun d hd => ?_, ?_, P4.keep K6 (by simp; omega)⟩
      · simp [il, LIM_val, ex]
      · have hd' : d ∈ [D.tup row, .tup [], .non, d1] := by simpa using hd
        by_cases q : d = .ref T3.length
        · subst q; exact ⟨_, g6⟩
        · exact (th4 d hd').keep K6 (fun l hl hm => q (by rw [hl]; congr 1; simpa using hm))
      · exact K04.new K6 (fun i hi => .inr (by simp at hi; omega))
    · obtain ⟨d2, T5, e5, th5, K5, P5, n2⟩ := bent_ok hc hWl hWf P4
      have thW : ∀ T : Store, Thing T (.tup (intsN W)) := fun T => thing_ints W
      generalize intsN W = ws at e5 thW
      have g5 := K5.get g4 (by simpa using nsp)
      have g5' := (Keep.push T5 [Ob.lst [D.tup ws, d2]] []).get g5 (by simp)
      have ex := oExtend_lst g5' (get_last T5 (.lst [D.tup ws, d2])) (by simp [LIM_val])
      generalize hT6 : (T5 ++ [Ob.lst [D.tup ws, d2]]).set T3.length (.lst ([D.tup row, .tup [], .non, d1] ++ [D.tup ws, d2])) = T6 at ex
      have g6 : T6[T3.length]? = some (.lst ([D.tup row, .tup [], .non, d1] ++ [D.tup ws, d2])) := by rw [← hT6]; exact get_set_self g5'
      have K56 : Keep [T3.length] T5 T6 := by rw [← hT6]; exact ((Keep.push T5 [Ob.lst [D.tup ws, d2]] []).mono (by simp)).trans (Keep.set _ (.inl (by simp)))
      refine ⟨_, T6, ?_, g6, by simp, fun d hd => ?_, ?_, P5.keep K56 (by simp; omega)⟩
      · simp [il, LIM_val, e5, ex]
      · have thA : Thing T5 d := by
          rcases dsum _ _ d hd with h | h
          · refine (th4 d h).keep K5 (fun l hl hm => ?_)
            simp only [List.mem_cons, List.not_mem_nil, or_false] at h
            rcases h with h | h | h | h
            · rw [hl] at h; cases h
            · rw [hl] at h; cases h
            · rw [hl] at h; cases h
            · exact n1 l (h ▸ hl) hm
          · simp only [List.mem_cons, List.not_mem_nil, or_false] at h
            rcases h with rfl | rfl
            · exact thW _
            · exact th5
        by_cases q : d = .ref T3.length
        · subst q; exact ⟨_, g6⟩
        · exact thA.keep K56 (fun l hl hm => q (by rw [hl]; congr 1; simpa using hm))
      · exact (K04.trans K5).new K56 (fun i hi => .inr (by simp at hi; omega))
  obtain ⟨L, T6, st3, g6, hL, th6, K06, P6⟩ := ext
  -- what is owed, what is told
  generalize hY : (L.map fun x => D.bl (isWayB c a b x)) = Y
  have hYl : Y.length ≤ 10 := by rw [← hY]; simpa using hL
  have c1 : compL [(T3.length, .lst L)] (.nm 10) tTrue (eCall F__law_is_way (aCons (eV 1) (aCons (eV 2) (aCons (eV 3) (aCons (eV 10) aNil))))) [some (.ref p), some c.d, some (.int (a : Int)), some (.int (b : Int)), some (.ref ni), some told, some (.tup row), some (.int (here : Int)), some (.ref T3.length), none, none] L T6 = .ok Y T6 := by
    rw [← hY]
    refine compL_map (f := fun x => D.bl (isWayB c a b x)) (by simp [okC, g6]) L fun x hx => ⟨_, rfl, ?_⟩
    have := law_is_way_ok c a b (th6 x hx)
    simp [this]
  generalize hT7 : T6 ++ [Ob.lst Y] = T7
  have K67 : Keep [] T6 T7 := by rw [← hT7]; exact Keep.push _ _ _
  have g7 := K67.get g6 (by simp)
  have g7y : T7[T6.length]? = some (.lst Y) := by rw [← hT7]; exact get_last _ _
  have st4 : sSet 9 (eComp (iSeq (eV 8)) (.nm 10) tTrue (eCall F__law_is_way (aCons (eV 1) (aCons (eV 2) (aCons (eV 3) (aCons (eV 10) aNil))))) [10]) [some (.ref p), some c.d, some (.int (a : Int)), some (.int (b : Int)), some (.ref ni), some told, some (.tup row), some (.int (here : Int)), some (.ref T3.length), none, none] T6 =
      .nx [some (.ref p), some c.d, some (.int (a : Int)), some (.int (b : Int)), some (.ref ni), some told, some (.tup row), some (.int (here : Int)), some (.ref T3.length), some (.ref T6.length), none] T7 := by
    simp [g6, c1, hT7]
  obtain ⟨ys, T8, c2, n, hn, hys, K78, g8⟩ := compL_run (c := [(T3.length, .lst L)]) (g := .nm 10) (t := tTrue) (e := eCall F_way_right (aCons (eV 1) (aCons (eV 2) (aCons (eV 3) (aCons (eV 10) aNil))))) (sw := [some (.ref p), some c.d, some (.int (a : Int)), some (.int (b : Int)), some (.ref ni), some told, some (.tup row), some (.int (here : Int)), some (.ref T3.length), some (.ref T6.length), none])
    (fun ds acc T => ∃ n, ds = L.drop n ∧ acc = Y.take n ∧ Keep [] T7 T ∧ T[T3.length]? = some (.lst L)) (fun _ _ T ⟨_, _, _, _, g⟩ => by simp [okC, g]) (by
      rintro d ds acc T ⟨n, hd, rfl, K, g⟩
      obtain ⟨hn, hdn, rfl⟩ := drop_cons hd
      have thd : Thing T d := (th6 d (List.mem_of_getElem? hdn)).keep (K67.trans K) (by simp)
      have wr := way_right_ok hc ha hb thd
      refine ⟨_, T, rfl, .inr ⟨.bl (isWayB c a b d), _, rfl, ?_, n + 1, rfl, ?_, K.trans (Keep.push T [.lst (c.fs.map fD)] []), (Keep.push T [.lst (c.fs.map fD)] []).get g (by simp)⟩⟩
      · simp [wr]
      · have hl : n < Y.length := by rw [← hY]; simpa using hn
        rw [List.take_succ, List.getElem?_eq_getElem hl]
        congr 1
        show [_] = [Y[n]]
        congr 1
        have : Y[n]? = some (.bl (isWayB c a b d)) := by rw [← hY, List.getElem?_map, hdn]; rfl
        rw [List.getElem?_eq_getElem hl] at this
        exact (Option.some.inj this).symm) L [] T7 ⟨0, rfl, rfl, Keep.refl _ _, g7⟩
  have hn' : n ≥ L.length := by
    refine Decidable.byContradiction fun q => ?_
    rw [List.drop_eq_getElem_cons (by omega)] at hn
    cases hn
  rw [List.nil_append] at hys
  have hys' : ys = Y := by rw [hys]; exact List.take_of_length_le (by rw [← hY]; simpa using hn')
  subst hys'
  generalize hT9 : T8 ++ [Ob.lst ys] = T9
  have K79 : Keep [] T7 T9 := by rw [← hT9]; exact K78.trans (Keep.push _ _ _)
  have g9 : T9[T8.length]? = some (.lst ys) := by rw [← hT9]; exact get_last _ _
  have g9' := K79.get g7y (by simp)
  have sm : F__law_same [.ref T8.length, .ref T6.length] T9 = .ok (.bl true) T9 := by
    refine same_true 1 (by decide) ⟨ys, ys, g9, g9', rfl, by omega, fun i x y hx hy => ?_⟩
    rw [hx] at hy
    cases hy
    have hm := List.mem_of_getElem? hx
    rw [← hY] at hm
    obtain ⟨v, _, rfl⟩ := List.mem_map.mp hm
    exact rfl
  have st5 : sIf (Wk.tNot (tE (eCall F__law_same (aCons (eComp (iSeq (eV 8)) (.nm 10) tTrue (eCall F_way_right (aCons (eV 1) (aCons (eV 2) (aCons (eV 3) (aCons (eV 10) aNil))))) [10]) (aCons (eV 9) aNil))))) (sRet (eC (.bl false))) sSkip [some (.ref p), some c.d, some (.int (a : Int)), some (.int (b : Int)), some (.ref ni), some told, some (.tup row), some (.int (here : Int)), some (.ref T3.length), some (.ref T6.length), none] T7 =
      .nx [some (.ref p), some c.d, some (.int (a : Int)), some (.int (b : Int)), some (.ref ni), some told, some (.tup row), some (.int (here : Int)), some (.ref T3.length), some (.ref T6.length), none] T9 := by
    simp [g7, c2, hT9, sm]
  have wr := way_right_ok hc ha hh (thR T9)
  rw [wk] at wr
  have sm2 : F__law_same [.bl true, .bl true] (T9 ++ [.lst (c.fs.map fD)]) = .ok (.bl true) (T9 ++ [.lst (c.fs.map fD)]) := same_true 0 (by decide) rfl
  have K09 : Keep [] T6 (T9 ++ [.lst (c.fs.map fD)]) := (K67.trans K79).trans (Keep.push _ _ _)
  refine ⟨T9 ++ [.lst (c.fs.map fD)], nx_seq st1 (nx_seq st2 (nx_seq st3 (nx_seq st4 (nx_seq st5 ?_)))), K06.trans (K09.mono (by simp)), P6.keep K09 (by simp)⟩
  simp [wr, sm2]
/-- Reach from a by a walk of kinds below k -/
theorem pair_right_ok {c : Sch} (hc : c.Ok) {p a b : Nat} (ha : a < c.k) (hb : b < c.k) {S : Store} (hP : Pool p S) : ∃ T, F__law_pair_right [.ref p, c.d, .int (a : Int), .int (b : Int)] S = .ok (.bl true) T ∧ Keep [p] S T ∧ Pool p T := by
  have k24 := hc.k24
  have hp := hP.lt
  obtain ⟨ni, A, T1, e1, hA, nd, d1, d2, K1⟩ := lengths_ok hc (S := S ++ [.lst (intsN [a])]) (ki := S.length) (ks := [a]) (by simp) (by simpa using ha) (get_last _ _)
  have e1' : F__law_lengths_from [c.d, .ref S.length] (S ++ [.lst [.int (a : Int)]]) = .ok (.ref ni) T1 := e1
  have KS1 : Keep [] S T1 := (Keep.push _ _ _).trans K1
  -- near and told, looked at
  have first : ∃ (told : D) (T3 : Store) (W : List Nat), (sSeq (sPar 4 5 (eCall F__law_lengths_from (aCons (eV 1) (aCons (eLst (aCons (eV 2) aNil)) aNil))) (eCall F_way (aCons (eV 1) (aCons (eV 2) (aCons (eV 3) aNil)))))
    (sIf (tE (eOp oNinD (eV 3) (eV 4))) (sIf (tOr (tE (eOp oNotN (eV 5) (eC .non))) (tE (eOp oNotB (eCall F_way_right (aCons (eV 1) (aCons (eV 2) (aCons (eV 3) (aCons (eC .non) aNil))))) (eC (.bl false))))) (sRet (eC (.bl false))) sSkip) (sIf (tOr (Wk.tNot (tE (eCall F__law_is_way (aCons (eV 1) (aCons (eV 2) (aCons (eV 3) (aCons (eV 5) aNil))))))) (tOr (tE (eOp oNe (eUn fLen (eV 5)) (eOp oIxD (eV 4) (eV 3)))) (Wk.tNot (tE (eCall F__law_same (aCons (eCall F_way (aCons (eV 1) (aCons (eV 2) (aCons (eV 3) aNil)))) (aCons (eV 5) aNil))))))) (sRet (eC (.bl false))) sSkip)))
      [some (.ref p), some c.d, some (.int (a : Int)), some (.int (b : Int)), none, none, none, none, none, none, none] S = .nx [some (.ref p), some c.d, some (.int (a : Int)), some (.int (b : Int)), some (.ref ni), some told, none, none, none, none, none] T3 ∧
      (told = .non ∨ (told = .tup (intsN W) ∧ W.length ≤ 100 ∧ ∀ f ∈ W, f < c.fs.length)) ∧ Keep [] S T3 := by
    by_cases q : Reach c.fs (fun v => v ∈ [a]) b
    · obtain ⟨W, hd, hw, run⟩ := way_det hc ha hb q
      obtain ⟨T2, e2, K2⟩ := run T1
      have hA2 := K2.get hA (by simp)
      obtain ⟨n, hn⟩ := d2 b q
      have hnW : n = W.length := (d1 b n hn).2.uniq hd
      have hnk : n < c.k := by
        have hl : A.length ≤ c.k := by
          have := nodup_lt_len nd (fun v hv => let ⟨m, hm⟩ := mem_keys.mp hv; (d1 v m hm).1)
          simpa using this
        refine Decidable.byContradiction fun z => ?_
        -- a shorter way would be found: distances below n all occur
        have key : ∀ m, m ≤ n → ∃ v, IsDist c.fs (fun v => v ∈ [a]) m v ∧ v < c.k := by
          have down : ∀ j, j ≤ n → ∃ v, IsDist c.fs (fun v => v ∈ [a]) (n - j) v ∧ v < c.k := by
            intro j
            induction j with
            | zero => intro _; exact ⟨b, (d1 b n hn).2, hb⟩
            | succ j ih =>
              intro hj
              obtain ⟨v, hv, hvk⟩ := ih (by omega)
              obtain ⟨m, hm⟩ : ∃ m, n - j = m + 1 := ⟨n - j - 1, by omega⟩
              rw [hm] at hv
              rcases hv.1 with h | ⟨u, hu, hue⟩
              · have := hv.2 m h; omega
              · refine ⟨u, ⟨by rw [show n - (j + 1) = m by omega]; exact hu, fun x hx => ?_⟩, (hc.fs _ hue).1⟩
                have := hv.2 (x + 1) (.inr ⟨u, hx, hue⟩)
                omega
          intro m hm
          have := down (n - m) (by omega)
          rwa [show n - (n - m) = m by omega] at this
        have big : ∀ m, m ≤ n + 1 → ∃ l : List Nat, l.length = m ∧ l.Nodup ∧ (∀ v ∈ l, v < c.k) ∧ ∀ v ∈ l, ∃ x, x < m ∧ IsDist c.fs (fun v => v ∈ [a]) x v := by
          intro m
          induction m with
          | zero => intro _; exact ⟨[], rfl, by simp, by simp, by simp⟩
          | succ m ih =>
            intro hm
            obtain ⟨l, h1, h2, h3, h4⟩ := ih (by omega)
            obtain ⟨v, hv, hvk⟩ := key m (by omega)
            refine ⟨v :: l, by simp [h1], List.nodup_cons.mpr ⟨fun hvl => ?_, h2⟩, fun w hw => ?_, fun w hw => ?_⟩
            · obtain ⟨x, hx, hxd⟩ := h4 v hvl
              have := hxd.uniq hv
              omega
            · rcases List.mem_cons.mp hw with e | e
              · subst e; exact hvk
              · exact h3 w e
            · rcases List.mem_cons.mp hw with e | e
              · subst e; exact ⟨m, by omega, hv⟩
              · obtain ⟨x, hx, hxd⟩ := h4 w e
                exact ⟨x, by omega, hxd⟩
        obtain ⟨l, h1, h2, h3, _⟩ := big (n + 1) (Nat.le_refl _)
        have := nodup_lt_len h2 h3
        omega
      have hWl : W.length ≤ 100 := by omega
      have val := oIxD_some hA2 (valD_some nd hn)
      have inD := inD_A nd hA2 b
      rw [decide_eq_true (mem_keys.mpr ⟨n, hn⟩)] at inD
      obtain ⟨T3, e3, K3⟩ := run T2
      have sm : F__law_same [.tup (intsN W), .tup (intsN W)] T3 = .ok (.bl true) T3 := same_true 1 (by decide) (same_refl 1 _ (plain_ns _ (by omega)))
      have iw := law_is_way_ok c a b (thing_ints (S := T2) W)
      rw [walk_isWay hw] at iw
      have hfl : ∀ f ∈ W, f < c.fs.length := by
        have : ∀ (P : List Nat) (x y : Nat), Walk c.fs x P y → ∀ f ∈ P, f < c.fs.length := by
          intro P
          induction P with
          | nil => intro x y _ f hf; cases hf
          | cons g P ih =>
            intro x y ⟨z, h1, h2⟩ f hf
            rcases List.mem_cons.mp hf with e | e
            · subst e; exact (List.getElem?_eq_some_iff.mp h1).1
            · exact ih z y h2 f e
        exact this W a b hw
      have ln : (intsN W).length = n := by simp [hnW]
      refine ⟨.tup (intsN W), T3, W, ?_, .inr ⟨rfl, hWl, hfl⟩, KS1.trans (K2.trans K3)⟩
      generalize intsN W = ws at e2 e3 sm iw ln
      simp [LIM_val, e1', e2, inD, iw, val, ln, e3, sm]
    · obtain ⟨T2, e2, K2⟩ := way_none hc T1 ha hb q
      have hA2 := K2.get hA (by simp)
      have inD := inD_A nd hA2 b
      rw [decide_eq_false (fun z => q (let ⟨n, hn⟩ := mem_keys.mp z; ⟨n, (d1 b n hn).2.1⟩))] at inD
      have wr := way_right_ok hc ha hb (x := .non) (S := T2) True.intro
      have wf : isWayB c a b .non = false := rfl
      rw [wf] at wr
      refine ⟨.non, _, [], ?_, .inl rfl, KS1.trans (K2.trans (Keep.push T2 [.lst (c.fs.map fD)] []))⟩
      simp [LIM_val, e1', e2, inD, wr, oNotB]
  obtain ⟨told, T3, W, st, ht, K3⟩ := first
  obtain ⟨T4, e4, K4, P4⟩ := judge_ok hc (ni := ni) ha hb ht (hP.keep K3 (by simp))
  refine ⟨T4, ?_, (K3.mono (by simp)).trans K4, P4⟩
  exact (mkF_eq 4 11 _ [.ref p, c.d, .int (a : Int), .int (b : Int)] S rfl).trans (by
    rw [show startE 11 [D.ref p, c.d, .int (a : Int), .int (b : Int)] = [some (.ref p), some c.d, some (.int (a : Int)), some (.int (b : Int)), none, none, none, none, none, none, none] from rfl]
    rw [show b__law_pair_right [some (.ref p), some c.d, some (.int (a : Int)), some (.int (b : Int)), none, none, none, none, none, none, none] S = .rt (.bl true) T4 from ?_]
    have h2 := st
    rw [sSeq_eq] at h2
    cases q : sPar 4 5 (eCall F__law_lengths_from (aCons (eV 1) (aCons (eLst (aCons (eV 2) aNil)) aNil))) (eCall F_way (aCons (eV 1) (aCons (eV 2) (aCons (eV 3) aNil)))) [some (.ref p), some c.d, some (.int (a : Int)), some (.int (b : Int)), none, none, none, none, none, none, none] S with
    | nx s1 S1 =>
      rw [q] at h2
      exact nx_seq q (nx_seq h2 e4)
    | _ => rw [q] at h2; cases h2)
end WkL


set_option Elab.async false
set_option linter.all false
set_option maxRecDepth 100000
set_option maxHeartbeats 1000000
set_option autoImplicit false
/-! Pk03e: what is refused; the law. -/
namespace WkL
open PySem (Str)
open Wk
abbrev tB (x : D) : D := .tup [.str "BadKind", x]
abbrev tF (x : D) : D := .tup [.str "BadField", x]
theorem plain_pair {s : Str} {x : D} (h : Plain 1 x) : Plain 2 (.tup [.str s, x]) := ⟨by simp, fun y hy => by
  simp only [List.mem_cons, List.not_mem_nil, or_false] at hy
  rcases hy with rfl | rfl
  · exact True.intro
  · exact h⟩
theorem heard_bad {x : D} {S : Store} : heardR heardCs (.ex "BadKind" x S) = .ok (tB x) S := by
  rw [heardR_ex]
  rfl
theorem heard_badF {x : D} {S : Store} : heardR heardCs (.ex "BadField" x S) = .ok (tF x) S := by
  rw [heardR_ex]
  rfl
section
variable {c : Sch} (hc : c.Ok) {a : Nat} (S : Store)
include hc
theorem way_no1 {x y : D} (hx : NoKind c.k x) : F_way [c.d, x, y] S = .ex "BadKind" x (S ++ [.lst (c.fs.map fD)]) := by
  have e1 := asked_kinds_no1 hc S (y := y) hx
  simp [F_way, mkF, startE, e1]
theorem way_no2 (ha : a < c.k) {y : D} (hy : NoKind c.k y) : F_way [c.d, .int (a : Int), y] S = .ex "BadKind" y (S ++ [.lst (c.fs.map fD)]) := by
  have e1 := asked_kinds_no2 hc S ha hy
  simp [F_way, mkF, startE, e1]
theorem wr_no1 {x y z : D} (hx : NoKind c.k x) : F_way_right [c.d, x, y, z] S = .ex "BadKind" x (S ++ [.lst (c.fs.map fD)]) := by
  have e1 := asked_kinds_no1 hc S (y := y) hx
  simp [F_way_right, mkF, startE, e1]
theorem wr_no2 (ha : a < c.k) {y z : D} (hy : NoKind c.k y) : F_way_right [c.d, .int (a : Int), y, z] S = .ex "BadKind" y (S ++ [.lst (c.fs.map fD)]) := by
  have e1 := asked_kinds_no2 hc S ha hy
  simp [F_way_right, mkF, startE, e1]
end
theorem refused_ok {c : Sch} (hc : c.Ok) {p : Nat} {S : Store} (hP : Pool p S) : ∃ T, F__law_refused_right [.ref p, c.d] S = .ok (.bl true) T ∧ Keep [p] S T ∧ Pool p T := by
  have k24 := hc.k24; have hk := hc.hk; have h1 := hc.h1; have f40 := hc.f40
  have hp0 := hP.lt
  generalize hl1 : ([.bl true, .bl false, .non, .str "0", .tup [.int 0], .int (-1), .int (100000000000000000000 : Int), .int 99] : List D) = L1'
  have hlen1 : L1'.length = 8 := by rw [← hl1]; rfl
  have hL1 : ∀ d ∈ L1', NoKind c.k d ∧ NoField c.fs.length d ∧ Plain 1 d := by
    rw [← hl1]
    intro d hd
    simp only [List.mem_cons, List.not_mem_nil, or_false] at hd
    rcases hd with rfl | rfl | rfl | rfl | rfl | rfl | rfl | rfl
    · exact ⟨.inl True.intro, .inl True.intro, True.intro⟩
    · exact ⟨.inl True.intro, .inl True.intro, True.intro⟩
    · exact ⟨.inl True.intro, .inl True.intro, True.intro⟩
    · exact ⟨.inl True.intro, .inl True.intro, True.intro⟩
    · exact ⟨.inl True.intro, .inl True.intro, ⟨by simp, fun x hx => by simp at hx; subst hx; exact True.intro⟩⟩
    · exact ⟨.inr ⟨_, rfl, .inl (by omega)⟩, .inr ⟨_, rfl, .inl (by omega)⟩, True.intro⟩
    · exact ⟨.inr ⟨_, rfl, .inr (by omega)⟩, .inr ⟨_, rfl, .inr (by omega)⟩, True.intro⟩
    · exact ⟨.inr ⟨_, rfl, .inr (by omega)⟩, .inr ⟨_, rfl, .inr (by omega)⟩, True.intro⟩
  obtain ⟨odd, T2, e2, hodd, K2, P2, L2⟩ := one_ok (hP.push (X := [Ob.lst L1'])) (get_last S (.lst L1')) (by omega) (by omega) (by omega)
  obtain ⟨no, nf, po⟩ := hL1 odd hodd
  obtain ⟨kd, T3, e3, k0, k1, K3, P3, L3⟩ := take_ok (many := (c.k : Int)) P2 (by omega) (by omega)
  obtain ⟨kd, rfl⟩ := Int.eq_ofNat_of_zero_le k0
  have hkd : kd < c.k := by omega
  have hp3 := P3.lt
  have KK : Keep [p] S T3 := ((Keep.push _ _ _).trans K2).trans K3
  have l3 := KK.1
  have f1 := way_no1 hc T3 (x := odd) (y := .non) no
  generalize hX : Ob.lst (c.fs.map fD) = X at f1
  generalize hT4 : T3 ++ [X] ++ [Ob.lst [tB odd]] = T4
  have KT4 : Keep [p] S T4 := by rw [← hT4]; exact (KK.trans (Keep.push _ _ _)).trans (Keep.push _ _ _)
  have PT4 : Pool p T4 := by rw [← hT4]; exact (P3.push).push
  have g4 : T4[T3.length + 1]? = some (.lst [tB odd]) := by rw [← hT4]; simp
  have f2 := way_no2 hc T4 hkd no
  rw [hX] at f2
  have il4 := isLst_lst g4
  have g4' : (T4 ++ [X])[T3.length + 1]? = some (.lst ([tB odd])) := by rw [List.getElem?_append_left (lt_of_get g4)]; exact g4
  have a4 := oAppend_lst (y := tB odd) g4' (by simp [LIM_val])
  generalize hT5 : (T4 ++ [X]).set (T3.length + 1) (Ob.lst ([tB odd] ++ [tB odd])) = T5 at a4
  have KT5 : Keep [p] S T5 := by rw [← hT5]; exact keep1 (KT4.trans (Keep.push _ _ _)) (by omega) _
  have PT5 : Pool p T5 := by rw [← hT5]; exact (PT4.push).set (by omega)
  have g5 : T5[T3.length + 1]? = some (.lst ([tB odd] ++ [tB odd])) := by rw [← hT5]; exact get_set_self g4'
  have f3 := wr_no1 hc T5 (x := odd) (y := .int (kd : Int)) (z := .tup []) no
  rw [hX] at f3
  have il5 := isLst_lst g5
  have g5' : (T5 ++ [X])[T3.length + 1]? = some (.lst ([tB odd] ++ [tB odd])) := by rw [List.getElem?_append_left (lt_of_get g5)]; exact g5
  have a5 := oAppend_lst (y := tB odd) g5' (by simp [LIM_val])
  generalize hT6 : (T5 ++ [X]).set (T3.length + 1) (Ob.lst ([tB odd] ++ [tB odd] ++ [tB odd])) = T6 at a5
  have KT6 : Keep [p] S T6 := by rw [← hT6]; exact keep1 (KT5.trans (Keep.push _ _ _)) (by omega) _
  have PT6 : Pool p T6 := by rw [← hT6]; exact (PT5.push).set (by omega)
  have g6 : T6[T3.length + 1]? = some (.lst ([tB odd] ++ [tB odd] ++ [tB odd])) := by rw [← hT6]; exact get_set_self g5'
  have f4 := wr_no2 hc T6 hkd (y := odd) (z := .non) no
  rw [hX] at f4
  have il6 := isLst_lst g6
  have g6' : (T6 ++ [X])[T3.length + 1]? = some (.lst ([tB odd] ++ [tB odd] ++ [tB odd])) := by rw [List.getElem?_append_left (lt_of_get g6)]; exact g6
  have a6 := oAppend_lst (y := tB odd) g6' (by simp [LIM_val])
  generalize hT7 : (T6 ++ [X]).set (T3.length + 1) (Ob.lst ([tB odd] ++ [tB odd] ++ [tB odd] ++ [tB odd])) = T7 at a6
  have KT7 : Keep [p] S T7 := by rw [← hT7]; exact keep1 (KT6.trans (Keep.push _ _ _)) (by omega) _
  have PT7 : Pool p T7 := by rw [← hT7]; exact (PT6.push).set (by omega)
  have g7 : T7[T3.length + 1]? = some (.lst ([tB odd] ++ [tB odd] ++ [tB odd] ++ [tB odd])) := by rw [← hT7]; exact get_set_self g6'
  have f5 := led_no hc nf T7
  rw [hX] at f5
  have il7 := isLst_lst g7
  have g7' : (T7 ++ [X])[T3.length + 1]? = some (.lst ([tB odd] ++ [tB odd] ++ [tB odd] ++ [tB odd])) := by rw [List.getElem?_append_left (lt_of_get g7)]; exact g7
  have a7 := oAppend_lst (y := tF odd) g7' (by simp [LIM_val])
  generalize hT8 : (T7 ++ [X]).set (T3.length + 1) (Ob.lst ([tB odd] ++ [tB odd] ++ [tB odd] ++ [tB odd] ++ [tF odd])) = T8 at a7
  have KT8 : Keep [p] S T8 := by rw [← hT8]; exact keep1 (KT7.trans (Keep.push _ _ _)) (by omega) _
  have PT8 : Pool p T8 := by rw [← hT8]; exact (PT7.push).set (by omega)
  have g8 : T8[T3.length + 1]? = some (.lst ([tB odd] ++ [tB odd] ++ [tB odd] ++ [tB odd] ++ [tF odd])) := by rw [← hT8]; exact get_set_self g7'
  have w1 : (T8 ++ [Ob.lst [tB odd]])[T8.length]? = some (.lst [tB odd]) := get_last _ _
  have ml : oMul (.ref T8.length) (.int 4) (T8 ++ [Ob.lst [tB odd]]) = .ok (.ref (T8.length + 1)) (T8 ++ [Ob.lst [tB odd], Ob.lst [tB odd, tB odd, tB odd, tB odd]]) := by
    unfold oMul
    dsimp only
    rw [w1]
    simp [LIM_val, List.replicate]
  have w2 : (T8 ++ [Ob.lst [tB odd], Ob.lst [tB odd, tB odd, tB odd, tB odd], Ob.lst [tF odd]])[T8.length + 1]? = some (.lst [tB odd, tB odd, tB odd, tB odd]) := by simp
  have w3 : (T8 ++ [Ob.lst [tB odd], Ob.lst [tB odd, tB odd, tB odd, tB odd], Ob.lst [tF odd]])[T8.length + 2]? = some (.lst [tF odd]) := by simp
  have ad : oAdd (.ref (T8.length + 1)) (.ref (T8.length + 2)) (T8 ++ [Ob.lst [tB odd], Ob.lst [tB odd, tB odd, tB odd, tB odd], Ob.lst [tF odd]]) = .ok (.ref (T8.length + 3)) (T8 ++ [Ob.lst [tB odd], Ob.lst [tB odd, tB odd, tB odd, tB odd], Ob.lst [tF odd], Ob.lst [tB odd, tB odd, tB odd, tB odd, tF odd]]) := by
    unfold oAdd
    dsimp only
    rw [w2, w3]
    simp [LIM_val]
  generalize hT9 : T8 ++ [Ob.lst [tB odd], Ob.lst [tB odd, tB odd, tB odd, tB odd], Ob.lst [tF odd], Ob.lst [tB odd, tB odd, tB odd, tB odd, tF odd]] = T9 at ad
  have K9 : Keep [] T8 T9 := by rw [← hT9]; exact Keep.push _ _ _
  have s1 := K9.get g8 (by simp)
  have s2 : T9[T8.length + 3]? = some (.lst [tB odd, tB odd, tB odd, tB odd, tF odd]) := by rw [← hT9]; simp
  have sm : F__law_same [.ref (T3.length + 1), .ref (T8.length + 3)] T9 = .ok (.bl true) T9 := by
    refine same_true 3 (by decide) ⟨_, _, s1, s2, by simp, by simp, fun i x y hx hy => ?_⟩
    have : x = y := by
      have e : ([tB odd] ++ [tB odd] ++ [tB odd] ++ [tB odd] ++ [tF odd]) = [tB odd, tB odd, tB odd, tB odd, tF odd] := rfl
      rw [e] at hx
      rw [hx] at hy
      exact Option.some.inj hy
    subst this
    refine same_refl 2 x ?_
    have hm := List.mem_of_getElem? hy
    simp only [List.mem_cons, List.not_mem_nil, or_false] at hm
    rcases hm with rfl | rfl | rfl | rfl | rfl
    · exact plain_pair po
    · exact plain_pair po
    · exact plain_pair po
    · exact plain_pair po
    · exact plain_pair po
  have q20 : (10 : Int) ^ 20 = 100000000000000000000 := by decide
  refine ⟨T9, ?_, KT8.trans (K9.mono (by simp)), PT8.keep K9 (by simp)⟩
  have st1 : sAsg (.tp [(.nm 4), (.nm 3)]) (eTup (aCons (eCall F__law_wv_one (aCons (eV 0) (aCons (eLst (aCons (eC (.bl true)) (aCons (eC (.bl false)) (aCons (eC .non) (aCons (eC (.str "0")) (aCons (eTup (aCons (eC (.int 0)) aNil)) (aCons (eUn uNeg (eC (.int 1))) (aCons (eOp oPow (eC (.int 10)) (eC (.int 20))) (aCons (eC (.int 99)) aNil))))))))) aNil))) (aCons (eCall F__law_wv_take (aCons (eV 0) (aCons (eOp oIx (eV 1) (eC (.int 1))) aNil))) aNil))) [some (.ref p), some c.d, none, none, none] S = .nx [some (.ref p), some c.d, none, some (.int (kd : Int)), some odd] T3 := by
    unfold Sch.d
    simp [LIM_val, q20, hl1, hlen1, e2, e3]
  have st2 : sSet 2 (eLst (aCons (eHeard heardCs (eCall F_way (aCons (eV 1) (aCons (eV 4) (aCons (eC .non) aNil))))) aNil)) [some (.ref p), some c.d, none, some (.int (kd : Int)), some odd] T3 = .nx [some (.ref p), some c.d, some (.ref (T3.length + 1)), some (.int (kd : Int)), some odd] T4 := by
    have hT4' := hT4
    simp only [List.append_assoc, List.cons_append, List.nil_append] at hT4'
    simp [LIM_val, f1, heard_bad, -heardR_ex, hT4']
  have st3 : sExpr (eBM oAppend (eV 2) (eHeard heardCs (eCall F_way (aCons (eV 1) (aCons (eV 3) (aCons (eV 4) aNil)))))) [some (.ref p), some c.d, some (.ref (T3.length + 1)), some (.int (kd : Int)), some odd] T4 = .nx [some (.ref p), some c.d, some (.ref (T3.length + 1)), some (.int (kd : Int)), some odd] T5 := by
    simp [LIM_val, f2, il4, a4, heard_bad, -heardR_ex]
  have st4 : sExpr (eBM oAppend (eV 2) (eHeard heardCs (eCall F_way_right (aCons (eV 1) (aCons (eV 4) (aCons (eV 3) (aCons (eTup aNil) aNil))))))) [some (.ref p), some c.d, some (.ref (T3.length + 1)), some (.int (kd : Int)), some odd] T5 = .nx [some (.ref p), some c.d, some (.ref (T3.length + 1)), some (.int (kd : Int)), some odd] T6 := by
    simp [LIM_val, f3, il5, a5, heard_bad, -heardR_ex]
  have st5 : sExpr (eBM oAppend (eV 2) (eHeard heardCs (eCall F_way_right (aCons (eV 1) (aCons (eV 3) (aCons (eV 4) (aCons (eC .non) aNil))))))) [some (.ref p), some c.d, some (.ref (T3.length + 1)), some (.int (kd : Int)), some odd] T6 = .nx [some (.ref p), some c.d, some (.ref (T3.length + 1)), some (.int (kd : Int)), some odd] T7 := by
    simp [LIM_val, f4, il6, a6, heard_bad, -heardR_ex]
  have st6 : sExpr (eBM oAppend (eV 2) (eHeard heardCs (eCall F_led (aCons (eV 1) (aCons (eV 4) aNil))))) [some (.ref p), some c.d, some (.ref (T3.length + 1)), some (.int (kd : Int)), some odd] T7 = .nx [some (.ref p), some c.d, some (.ref (T3.length + 1)), some (.int (kd : Int)), some odd] T8 := by
    simp [f5, il7, a7, heard_badF, -heardR_ex]
  have st7 : sRet (eCall F__law_same (aCons (eV 2) (aCons (eOp oAdd (eOp oMul (eLst (aCons (eTup (aCons (eC (.str "BadKind")) (aCons (eV 4) aNil))) aNil)) (eC (.int 4))) (eLst (aCons (eTup (aCons (eC (.str "BadField")) (aCons (eV 4) aNil))) aNil))) aNil))) [some (.ref p), some c.d, some (.ref (T3.length + 1)), some (.int (kd : Int)), some odd] T8 = .rt (.bl true) T9 := by
    simp [LIM_val, ml, ad, sm]
  exact (mkF_eq 2 5 _ [.ref p, c.d] S rfl).trans (by
    rw [show startE 5 [D.ref p, c.d] = [some (.ref p), some c.d, none, none, none] from rfl]
    rw [show b__law_refused_right [some (.ref p), some c.d, none, none, none] S = .rt (.bl true) T9 from nx_seq st1 (nx_seq st2 (nx_seq st3 (nx_seq st4 (nx_seq st5 (nx_seq st6 st7)))))])
end WkL


set_option Elab.async false
set_option linter.all false
set_option maxRecDepth 100000
set_option maxHeartbeats 1000000
set_option autoImplicit false
/-! Pk03f: the law. -/
namespace WkL
open PySem (Str)
open Wk
/-- a comprehension over a list of fields, each with an answer told -/
theorem led_comp {F : FE} {c : Sch} {fi : Nat} {sw : Env} {S : Store} (g : S[fi]? = some (.lst (intsN (List.range c.fs.length)))) (h : ∀ (f : Nat) (T : Store), f < c.fs.length → ∃ T', F (sw.set 8 (some (.int (f : Int)))) T = .ok (.tup (intsN (ledL c f))) T' ∧ Keep [] T T') :
    ∃ T, compL [(fi, .lst (intsN (List.range c.fs.length)))] (.nm 8) tTrue F sw (intsN (List.range c.fs.length)) S = .ok ((List.range c.fs.length).map fun f => D.tup (intsN (ledL c f))) T ∧ Keep [] S T := by
  obtain ⟨ys, T, e, n, hn, hys, K⟩ := compL_run (c := [(fi, .lst (intsN (List.range c.fs.length)))]) (g := .nm 8) (t := tTrue) (e := F) (sw := sw)
    (fun ds acc T => ∃ n, ds = intsN ((List.range c.fs.length).drop n) ∧ acc = ((List.range c.fs.length).map fun f => D.tup (intsN (ledL c f))).take n ∧ Keep [] S T) (fun _ _ T ⟨_, _, _, k⟩ => by simp [okC, k.get g (by simp)]) (by
      rintro d ds acc T ⟨n, hd, rfl, K⟩
      have hn : n < c.fs.length := by
        refine Decidable.byContradiction fun q => ?_
        rw [List.drop_of_length_le (by simp; omega)] at hd
        simp at hd
      have hdr : (List.range c.fs.length).drop n = n :: (List.range c.fs.length).drop (n + 1) := by
        rw [List.drop_eq_getElem_cons (by simpa using hn)]; simp
      rw [hdr, intsN, List.map_cons, List.cons.injEq] at hd
      obtain ⟨rfl, rfl⟩ := hd
      obtain ⟨T2, e2, K2⟩ := h n T hn
      refine ⟨_, T, rfl, .inr ⟨_, T2, rfl, e2, n + 1, rfl, ?_, K.trans K2⟩⟩
      rw [List.take_succ, List.getElem?_map, List.getElem?_range hn]
      rfl) (intsN (List.range c.fs.length)) [] S ⟨0, rfl, rfl, Keep.refl _ _⟩
  have hn' : n ≥ c.fs.length := by
    refine Decidable.byContradiction fun q => ?_
    have := congrArg List.length hn
    simp at this
    omega
  rw [List.nil_append] at hys
  rw [List.take_of_length_le (by simpa using hn')] at hys
  exact ⟨T, by rw [← hys]; exact e, K⟩
def nbody : FS := sIf (Wk.tNot (tE (eCall F__law_pair_right (aCons (eV 1) (aCons (eV 3) (aCons (eV 6) (aCons (eV 7) aNil))))))) (sRet (eC (.bl false))) sSkip
theorem inner_ok {c : Sch} (hc : c.Ok) {p ki a : Nat} (ha : a < c.k) {x i fi y : D} (hkp : ki ≠ p) {S : Store} (hP : Pool p S) (g : S[ki]? = some (.lst (intsN (List.range c.k)))) (z : Option D) :
    ∃ w T, forL [(ki, .lst (intsN (List.range c.k)))] (.nm 7) nbody (intsN (List.range c.k)) [some x, some (.ref p), some i, some c.d, some fi, some (.ref ki), some (.int (a : Int)), z, none] S = .nx [some x, some (.ref p), some i, some c.d, some fi, some (.ref ki), some (.int (a : Int)), w, none] T ∧ Keep [p] S T ∧ Pool p T := by
  obtain ⟨s', T, e, w, n, rfl, _, K, PT⟩ := forL_run (c := [(ki, .lst (intsN (List.range c.k)))]) (g := .nm 7) (b := nbody)
    (fun rest s T => ∃ w n, s = [some x, some (.ref p), some i, some c.d, some fi, some (.ref ki), some (.int (a : Int)), w, none] ∧ rest = intsN ((List.range c.k).drop n) ∧ Keep [p] S T ∧ Pool p T) (fun _ _ T ⟨_, _, _, _, k, _⟩ => by simp [okC, k.get g (by simpa using hkp)]) (by
      rintro d rest s T ⟨w, n, rfl, hd, K, PT⟩
      have hn : n < c.k := by
        refine Decidable.byContradiction fun q => ?_
        rw [List.drop_of_length_le (by simp; omega)] at hd
        simp at hd
      have hdr : (List.range c.k).drop n = n :: (List.range c.k).drop (n + 1) := by
        rw [List.drop_eq_getElem_cons (by simpa using hn)]; simp
      rw [hdr, intsN, List.map_cons, List.cons.injEq] at hd
      obtain ⟨rfl, rfl⟩ := hd
      obtain ⟨T2, e2, K2, P2⟩ := pair_right_ok hc ha hn PT
      exact ⟨_, [some x, some (.ref p), some i, some c.d, some fi, some (.ref ki), some (.int (a : Int)), some (.int (n : Int)), none], T2, rfl, .inl (by simp [nbody, e2]), _, n + 1, rfl, rfl, K.trans K2, P2⟩) (intsN (List.range c.k)) [some x, some (.ref p), some i, some c.d, some fi, some (.ref ki), some (.int (a : Int)), z, none] S ⟨z, 0, rfl, rfl, Keep.refl _ _, hP⟩
  exact ⟨w, T, e, K, PT⟩
theorem mid_ok {c : Sch} (hc : c.Ok) {p ki li : Nat} {x i fi : D} (hkp : ki ≠ p) (hlp : li ≠ p) {S : Store} (hP : Pool p S) (g : S[ki]? = some (.lst (intsN (List.range c.k)))) {As : List Nat} (hA : ∀ v ∈ As, v < c.k) (gl : S[li]? = some (.lst (intsN As))) (y z : Option D) :
    ∃ v w T, forL [(li, .lst (intsN As))] (.nm 6) (sFor (iSeq (eV 5)) (.nm 7) nbody) (intsN As) [some x, some (.ref p), some i, some c.d, some fi, some (.ref ki), y, z, none] S = .nx [some x, some (.ref p), some i, some c.d, some fi, some (.ref ki), v, w, none] T ∧ Keep [p] S T ∧ Pool p T := by
  obtain ⟨s', T, e, v, w, rfl, _, K, PT⟩ := forL_run (c := [(li, .lst (intsN As))]) (g := .nm 6) (b := sFor (iSeq (eV 5)) (.nm 7) nbody)
    (fun rest s T => ∃ v w, s = [some x, some (.ref p), some i, some c.d, some fi, some (.ref ki), v, w, none] ∧ (∀ d ∈ rest, ∃ a, a < c.k ∧ d = .int ((a : Nat) : Int)) ∧ Keep [p] S T ∧ Pool p T) (fun _ _ T ⟨_, _, _, _, k, _⟩ => by simp [okC, k.get gl (by simpa using hlp)]) (by
      rintro d rest s T ⟨v, w, rfl, hd, K, PT⟩
      obtain ⟨a, ha, rfl⟩ := hd d List.mem_cons_self
      have gk := K.get g (by simpa using hkp)
      obtain ⟨w2, T2, e2, K2, P2⟩ := inner_ok hc ha (x := x) (i := i) (fi := fi) (y := .non) hkp PT gk w
      refine ⟨_, _, T2, rfl, .inl ?_, some (.int ((a : Nat) : Int)), w2, rfl, fun d hd' => hd d (List.mem_cons_of_mem _ hd'), K.trans K2, P2⟩
      simp only [sFor_eq, iSeq_eq, eV_eq, List.set_cons_succ, List.set_cons_zero, List.getElem?_cons_succ, List.getElem?_cons_zero, Res.bind_ok, gk, ofE_ok]
      exact e2) (intsN As) [some x, some (.ref p), some i, some c.d, some fi, some (.ref ki), y, z, none] S ⟨y, z, rfl, fun d hd => by
        obtain ⟨a, ha, rfl⟩ := List.mem_map.mp hd
        exact ⟨a, hA a ha, rfl⟩, Keep.refl _ _, hP⟩
  exact ⟨v, w, T, e, K, PT⟩
def tb1 : FS := sSet 3 (eIf (tAnd (tE (eOp oEq (eV 2) (eC (.int 4)))) (tE (eOp oEq (eCall F__law_wv_take (aCons (eV 1) (aCons (eC (.int 4)) aNil))) (eC (.int 0))))) (eCall F__law_wv_great_schema (aCons (eV 1) aNil)) (eCall F__law_wv_schema (aCons (eV 1) aNil)))
def tb2 : FS := sSet 4 (eUn fListRg (eUn fLen (eOp oIx (eV 3) (eC (.int 2)))))
def tb3 : FS := sIf (Wk.tNot (tE (eCall F__law_same (aCons (eComp (iSeq (eV 4)) (.nm 8) tTrue (eCall F_led (aCons (eV 3) (aCons (eV 8) aNil))) [8]) (aCons (eComp (iSeq (eV 4)) (.nm 8) tTrue (eCall F__law_wv_led (aCons (eV 3) (aCons (eV 8) aNil))) [8]) aNil))))) (sRet (eC (.bl false))) sSkip
def tb4 : FS := sSet 5 (eUn fListRg (eOp oIx (eV 3) (eC (.int 1))))
def tb5 : FS := sFor (iSeq (eIf (tE (eOp oLt (eOp oIx (eV 3) (eC (.int 1))) (eC (.int 9)))) (eV 5) (eSlice (eCall F__law_wv_mixed (aCons (eV 1) (aCons (eV 5) aNil))) oNone (oSome (eC (.int 5)))))) (.nm 6) (sFor (iSeq (eV 5)) (.nm 7) nbody)
def tb6 : FS := sIf (Wk.tNot (tE (eCall F__law_refused_right (aCons (eV 1) (aCons (eV 3) aNil))))) (sRet (eC (.bl false))) sSkip
theorem turn_ok {p : Nat} {x : D} {T : Store} (i : Int) (y3 y4 y5 y6 y7 : Option D) (hP : Pool p T) : ∃ z3 z4 z5 z6 z7 T', (sSeq tb1 (sSeq tb2 (sSeq tb3 (sSeq tb4 (sSeq tb5 tb6))))) [some x, some (.ref p), some (.int i), y3, y4, y5, y6, y7, none] T = .nx [some x, some (.ref p), some (.int i), z3, z4, z5, z6, z7, none] T' ∧ Pool p T' := by
  have drawn : ∃ (c : Sch) (T1 : Store), tb1 [some x, some (.ref p), some (.int i), y3, y4, y5, y6, y7, none] T = .nx [some x, some (.ref p), some (.int i), some c.d, y4, y5, y6, y7, none] T1 ∧ c.Ok ∧ Pool p T1 := by
    by_cases h7 : i = 4
    · obtain ⟨k, T1, e1, _, _, _, P1, _⟩ := take_ok (many := 4) hP (by decide) (by decide)
      by_cases hk : k = 0
      · obtain ⟨c, T2, e2, hc, _, P2⟩ := great_ok P1
        exact ⟨c, T2, by simp [tb1, h7, e1, hk, e2], hc, P2⟩
      · obtain ⟨c, T2, e2, hc, _, P2⟩ := schema_ok P1
        exact ⟨c, T2, by simp [tb1, h7, e1, hk, e2], hc, P2⟩
    · obtain ⟨c, T2, e2, hc, _, P2⟩ := schema_ok hP
      exact ⟨c, T2, by simp [tb1, h7, e2], hc, P2⟩
  obtain ⟨c, T1, e1, hc, P1⟩ := drawn
  have k24 := hc.k24; have f40 := hc.f40
  have hp1 := P1.lt
  generalize hT2 : T1 ++ [Ob.lst (intsN (List.range c.fs.length))] = T2
  have g2 : T2[T1.length]? = some (.lst (intsN (List.range c.fs.length))) := by rw [← hT2]; exact get_last _ _
  have P2 : Pool p T2 := by rw [← hT2]; exact P1.push
  have st2 : tb2 [some x, some (.ref p), some (.int i), some c.d, y4, y5, y6, y7, none] T1 = .nx [some x, some (.ref p), some (.int i), some c.d, some (.ref T1.length), y5, y6, y7, none] T2 := by
    have r1 : -(4611686018427387904 : Int) ≤ (c.fs.length : Int) := by omega
    have r2 : (c.fs.length : Int) ≤ 16777216 := by omega
    unfold tb2 Sch.d
    simp [r1, r2, rngD_nat, hT2]
  obtain ⟨T3, c3, K3⟩ := led_comp (F := eCall F_led (aCons (eV 3) (aCons (eV 8) aNil))) (c := c) (fi := T1.length) (sw := [some x, some (.ref p), some (.int i), some c.d, some (.ref T1.length), y5, y6, y7, none]) g2 (fun f T hf => by
    obtain ⟨T', e, K⟩ := led_ok hc hf T
    exact ⟨T', by simp [e], K⟩)
  generalize hY : ((List.range c.fs.length).map fun f => D.tup (intsN (ledL c f))) = Y at c3
  have g3 := (K3.trans (Keep.push T3 [Ob.lst Y] [])).get g2 (by simp)
  obtain ⟨T4, c4, K4⟩ := led_comp (F := eCall F__law_wv_led (aCons (eV 3) (aCons (eV 8) aNil))) (c := c) (fi := T1.length) (sw := [some x, some (.ref p), some (.int i), some c.d, some (.ref T1.length), y5, y6, y7, none]) g3 (fun f T hf => by
    obtain ⟨T', e, K⟩ := law_led_ok hc hf T
    exact ⟨T', by simp [e], K⟩)
  rw [hY] at c4
  have s1 : (T4 ++ [Ob.lst Y])[T3.length]? = some (.lst Y) := (K4.trans (Keep.push _ _ _)).get (get_last _ _) (by simp)
  have s2 : (T4 ++ [Ob.lst Y])[T4.length]? = some (.lst Y) := get_last _ _
  have hYl : Y.length ≤ 1000000 := by rw [← hY]; simp; omega
  have sm : F__law_same [.ref T3.length, .ref T4.length] (T4 ++ [Ob.lst Y]) = .ok (.bl true) (T4 ++ [Ob.lst Y]) := by
    refine same_true 2 (by decide) ⟨Y, Y, s1, s2, rfl, hYl, fun j a b ha hb => ?_⟩
    rw [ha] at hb
    cases hb
    have hm := List.mem_of_getElem? ha
    rw [← hY] at hm
    obtain ⟨v, _, rfl⟩ := List.mem_map.mp hm
    exact same_refl 1 _ (plain_ns _ (by have := ledL_len c v; omega))
  have K25 : Keep [] T2 (T4 ++ [Ob.lst Y]) := (K3.trans (Keep.push _ _ _)).trans (K4.trans (Keep.push _ _ _))
  have st3 : tb3 [some x, some (.ref p), some (.int i), some c.d, some (.ref T1.length), y5, y6, y7, none] T2 = .nx [some x, some (.ref p), some (.int i), some c.d, some (.ref T1.length), y5, y6, y7, none] (T4 ++ [Ob.lst Y]) := by
    simp [tb3, g2, g3, c3, c4, sm]
  have P5 : Pool p (T4 ++ [Ob.lst Y]) := P2.keep K25 (by simp)
  generalize T4 ++ [Ob.lst Y] = T5 at st3 P5
  have hp5 := P5.lt
  generalize hT6 : T5 ++ [Ob.lst (intsN (List.range c.k))] = T6
  have g6 : T6[T5.length]? = some (.lst (intsN (List.range c.k))) := by rw [← hT6]; exact get_last _ _
  have P6 : Pool p T6 := by rw [← hT6]; exact P5.push
  have nkp : T5.length ≠ p := by omega
  have st4 : tb4 [some x, some (.ref p), some (.int i), some c.d, some (.ref T1.length), y5, y6, y7, none] T5 = .nx [some x, some (.ref p), some (.int i), some c.d, some (.ref T1.length), some (.ref T5.length), y6, y7, none] T6 := by
    have r1 : -(4611686018427387904 : Int) ≤ (c.k : Int) := by omega
    have r2 : (c.k : Int) ≤ 16777216 := by omega
    unfold tb4 Sch.d
    simp [r1, r2, rngD_nat, hT6]
  have st5 : ∃ v w T7, tb5 [some x, some (.ref p), some (.int i), some c.d, some (.ref T1.length), some (.ref T5.length), y6, y7, none] T6 = .nx [some x, some (.ref p), some (.int i), some c.d, some (.ref T1.length), some (.ref T5.length), v, w, none] T7 ∧ Pool p T7 := by
    by_cases h9 : c.k < 9
    · obtain ⟨v, w, T7, e, _, P7⟩ := mid_ok hc (x := x) (i := .int i) (fi := .ref T1.length) nkp nkp P6 g6 (As := List.range c.k) (fun v hv => List.mem_range.mp hv) g6 y6 y7
      refine ⟨v, w, T7, ?_, P7⟩
      have h9' : (c.k : Int) < 9 := by omega
      unfold tb5
      unfold Sch.d at e ⊢
      simp [h9', g6, e]
    · obtain ⟨n, es, T7, e7, g7, hpm, K7, P7, hn⟩ := mixed_ok P6 g6 nkp (by simp; omega)
      have hes : ∃ As : List Nat, es = intsN As ∧ ∀ v ∈ As, v < c.k := by
        have : ∀ (ds : List D), (∀ d ∈ ds, ∃ a : Nat, a < c.k ∧ d = .int (a : Int)) → ∃ As : List Nat, ds = intsN As ∧ ∀ v ∈ As, v < c.k := by
          intro ds
          induction ds with
          | nil => intro _; exact ⟨[], rfl, by simp⟩
          | cons d ds ih =>
            intro h
            obtain ⟨a, ha, rfl⟩ := h d List.mem_cons_self
            obtain ⟨As, rfl, h2⟩ := ih fun d hd => h d (List.mem_cons_of_mem _ hd)
            exact ⟨a :: As, rfl, fun v hv => (List.mem_cons.mp hv).elim (fun e => e ▸ ha) (h2 v)⟩
        refine this es fun d hd => ?_
        obtain ⟨a, ha, rfl⟩ := List.mem_map.mp (hpm.mem_iff.mp hd)
        exact ⟨a, List.mem_range.mp ha, rfl⟩
      obtain ⟨As, rfl, hA⟩ := hes
      have hcut : ∃ Bs : List Nat, cutD (intsN As) none (some 5) = intsN Bs ∧ ∀ v ∈ Bs, v < c.k := by
        refine ⟨(As.drop 0).take (slIx As.length As.length (some 5) - 0), ?_, fun v hv => hA v (List.mem_of_mem_drop (List.mem_of_mem_take hv))⟩
        unfold cutD
        rw [intsN, intsN, List.length_map, List.map_take, List.map_drop]
        rfl
      obtain ⟨Bs, hB, hB2⟩ := hcut
      have g8 := (K7.trans (Keep.push T7 [Ob.lst (intsN Bs)] [p])).get g6 (by simpa using nkp)
      have hp7 := P7.lt
      obtain ⟨v, w, T8, e, _, P8⟩ := mid_ok hc (x := x) (i := .int i) (fi := .ref T1.length) nkp (li := T7.length) (by omega) (P7.push (X := [Ob.lst (intsN Bs)])) g8 (As := Bs) hB2 (get_last _ _) y6 y7
      refine ⟨v, w, T8, ?_, P8⟩
      have h9' : ¬ (c.k : Int) < 9 := by omega
      generalize intsN As = asD at g7 hB
      generalize intsN Bs = bsD at e hB
      unfold tb5
      unfold Sch.d at e ⊢
      simp [h9', e7, eSlice, oNone, oSome, slD, g7, hB, e]
  obtain ⟨v, w, T7, e5, P7⟩ := st5
  obtain ⟨T8, e8, _, P8⟩ := refused_ok hc P7
  exact ⟨some c.d, some (.ref T1.length), some (.ref T5.length), v, w, T8, nx_seq e1 (nx_seq st2 (nx_seq st3 (nx_seq st4 (nx_seq e5 (by simp [tb6, e8]))))), P8⟩
theorem law_ok {x : D} {S : Store} {ns : List Int} (hz : ns.length ≤ 1000000) (hl : fLen x S = .ok (.int ns.length) S) (hx : ∀ (i : Nat) (z : Int), ns[i]? = some z → oIx x (.int (i : Int)) S = .ok (.int z) S) : ∃ T, F_law [x] S = .ok (.bl true) T := by
  obtain ⟨p, S1, e1, P1, _, _⟩ := pool_ok hz hl hx
  obtain ⟨s', T, e2, _⟩ := forL_run (c := []) (g := .nm 2) (b := sSeq tb1 (sSeq tb2 (sSeq tb3 (sSeq tb4 (sSeq tb5 tb6)))))
    (fun rest s T => ∃ y2 y3 y4 y5 y6 y7 n, s = [some x, some (.ref p), y2, y3, y4, y5, y6, y7, none] ∧ rest = (rngD 0 5).drop n ∧ Pool p T) (fun _ _ _ _ => rfl) (by
      rintro d rest s T ⟨y2, y3, y4, y5, y6, y7, n, rfl, hd, hP⟩
      have hm : d ∈ rngD 0 5 := by
        have : d ∈ (rngD 0 5).drop n := by rw [← hd]; exact List.mem_cons_self
        exact List.mem_of_mem_drop this
      obtain ⟨i, _, rfl⟩ := List.mem_map.mp hm
      obtain ⟨z3, z4, z5, z6, z7, T', e, hP'⟩ := turn_ok (x := x) (0 + (i : Int)) y3 y4 y5 y6 y7 hP
      refine ⟨_, _, T', rfl, .inl e, _, _, _, _, _, _, n + 1, rfl, ?_, hP'⟩
      rw [← List.drop_drop, ← hd]; rfl) (rngD 0 5) [some x, some (.ref p), none, none, none, none, none, none, none] S1 ⟨none, none, none, none, none, none, 0, rfl, rfl, P1⟩
  unfold tb1 tb2 tb3 tb4 tb5 tb6 nbody at e2
  exact ⟨T, by simp [F_law, mkF, startE, e1, e2]⟩
theorem pure_law (ns : List Int) (hn : ns.length ≤ 63) : (∃ S', F_law [.frz (ns.map D.int)] [] = .ok (.bl true) S') ∧ ∃ S', F_law [.ref 0] [.lst (ns.map D.int)] = .ok (.bl true) S' := by
  refine ⟨law_ok (ns := ns) (by omega) (by simp) fun i z h => ?_, law_ok (ns := ns) (by omega) (by rw [fLen_lst (ds := ns.map D.int) rfl]; simp) fun i z h => ?_⟩
  · simp [h]
  · simp [h]
end WkL


set_option Elab.async false
set_option linter.all false
set_option maxRecDepth 100000
set_option maxHeartbeats 4000000
set_option autoImplicit false
/-! printed by gen.py: the end of wovenkeep_k03_ways_and_what_is_led. -/
namespace WkL
open PySem PySem.Spec PyProof.Rows L2 LamX Wk

section
variable {P : Program} {w : World} {K : PySem.W.Frag} {mg : Str → Option Value} {base : Heap}
theorem sc_init : FnScope ["self", "what"] ["self", "what"] (defScope st_init) := ⟨rfl, rfl, rfl, by decide +kernel, rfl, by decide +kernel, by decide +kernel⟩
theorem ok_init {f : Addr} {fd : FuncData} (F : Fun K "__init__" "Refused.__init__" st_init f fd) (hm : mg "ValueError" = none) (vV : PySem.W.findCls K (.type "ValueError") (.type "type") "__init__" = some (.val (.builtin "ValueError.__init__"))) : FnOk P w K mg base CX0 1 f fd ["self", "what"] (spRef K) := by
  refine F.ok sc_init (fun vs H Q E h => ?_) (fun cdv A outer s H vs Q E hr h => ?_)
  · obtain ⟨a, C, v, rfl, _⟩ := h
    rfl
  · obtain ⟨a, C, v, rfl, O, hno, ha, k⟩ := h
    refine ⟨_, pss_cons (ps_expr (pe_veinit rfl hm vV (pa_cons (pv 0) (pa_cons (pv 1) pa_nil)))) (pss_one (ps_ost (pv 0) (pv 1))), ?_⟩
    exact ⟨_, rfl, _, rfl, a, C, [v], rfl, (by show 1 ≤ 1000; decide), O, ha, _, rfl, _, rfl, a, C, rfl, O, hno, .inl ⟨ha, fun dx h1 h2 => k dx h1 h2⟩⟩
theorem init_all {fI : Addr} {oc : Value} {od : Option Addr} {kV dc pm : Value} {an : Option Addr} {cd ct : Value} {sl : Array (Option Value)} (l : K.lookup fI = some ⟨oc, od, .func (PySem.W.fnOf "__init__" "Refused.__init__" (defArgs st_init) (defBody st_init) (defScope st_init) .none kV dc pm an cd ct), sl⟩)
    (c : PySem.W.codeIn K cd "Refused.__init__" = true) (k : PySem.W.keepIn K (.ref fI) = true) (hm : mg "ValueError" = none) (vV : PySem.W.findCls K (.type "ValueError") (.type "type") "__init__" = some (.val (.builtin "ValueError.__init__"))) :
    ∃ fd : FuncData, L2.Binds K fd ["self", "what"] [] ∧ FnOk P w K mg base CX0 1 fI fd ["self", "what"] (spRef K) := by
  have F := fun_mk (st := st_init) l c k
  exact ⟨_, F.binds (ps := ["self", "what"]) fun _ _ _ _ _ _ us hl => match us, hl with | [_, _], _ => rfl, ok_init F hm vV⟩
end
theorem bi_is_whole : BindP "is_whole" st_is_whole ["thing", "low", "high"] := fun _ _ _ _ _ _ us hl => match us, hl with | [_, _, _], _ => rfl
theorem bi_is_row : BindP "is_row" st_is_row ["thing", "many"] := fun _ _ _ _ _ _ us hl => match us, hl with | [_, _], _ => rfl
theorem bi_is_field : BindP "is_field" st_is_field ["thing", "hands", "kinds"] := fun _ _ _ _ _ _ us hl => match us, hl with | [_, _, _], _ => rfl
theorem bi_made_schema : BindP "made_schema" st_made_schema ["thing"] := fun _ _ _ _ _ _ us hl => match us, hl with | [_], _ => rfl
theorem bi_asked_kind : BindP "asked_kind" st_asked_kind ["schema", "kind"] := fun _ _ _ _ _ _ us hl => match us, hl with | [_, _], _ => rfl
theorem bi_asked_field : BindP "asked_field" st_asked_field ["schema", "f"] := fun _ _ _ _ _ _ us hl => match us, hl with | [_, _], _ => rfl
theorem bi_held_by : BindP "held_by" st_held_by ["schema"] := fun _ _ _ _ _ _ us hl => match us, hl with | [_], _ => rfl
theorem bi_come_by : BindP "come_by" st_come_by ["schema", "firsts"] := fun _ _ _ _ _ _ us hl => match us, hl with | [_, _], _ => rfl
theorem bi_way_back : BindP "way_back" st_way_back ["schema", "found", "kind"] := fun _ _ _ _ _ _ us hl => match us, hl with | [_, _, _], _ => rfl
theorem bi_reach : BindP "reach" st_reach ["schema"] := fun _ _ _ _ _ _ us hl => match us, hl with | [_], _ => rfl
theorem bi_asked_kinds : BindP "asked_kinds" st_asked_kinds ["schema", "a", "b"] := fun _ _ _ _ _ _ us hl => match us, hl with | [_, _, _], _ => rfl
theorem bi_way : BindP "way" st_way ["schema", "a", "b"] := fun _ _ _ _ _ _ us hl => match us, hl with | [_, _, _], _ => rfl
theorem bi_is_way : BindP "is_way" st_is_way ["schema", "a", "b", "thing"] := fun _ _ _ _ _ _ us hl => match us, hl with | [_, _, _, _], _ => rfl
theorem bi_way_right : BindP "way_right" st_way_right ["schema", "a", "b", "paper"] := fun _ _ _ _ _ _ us hl => match us, hl with | [_, _, _, _], _ => rfl
theorem bi_led_list : BindP "led_list" st_led_list ["schema"] := fun _ _ _ _ _ _ us hl => match us, hl with | [_], _ => rfl
theorem bi_led : BindP "led" st_led ["schema", "f"] := fun _ _ _ _ _ _ us hl => match us, hl with | [_, _], _ => rfl
theorem bi__law_wv_pool : BindP "_law_wv_pool" st__law_wv_pool ["script"] := fun _ _ _ _ _ _ us hl => match us, hl with | [_], _ => rfl
theorem bi__law_wv_take : BindP "_law_wv_take" st__law_wv_take ["pool", "many"] := fun _ _ _ _ _ _ us hl => match us, hl with | [_, _], _ => rfl
theorem bi__law_wv_one : BindP "_law_wv_one" st__law_wv_one ["pool", "things"] := fun _ _ _ _ _ _ us hl => match us, hl with | [_, _], _ => rfl
theorem bi__law_wv_mixed : BindP "_law_wv_mixed" st__law_wv_mixed ["pool", "things"] := fun _ _ _ _ _ _ us hl => match us, hl with | [_, _], _ => rfl
theorem bi__law_wv_schema : BindP "_law_wv_schema" st__law_wv_schema ["pool"] := fun _ _ _ _ _ _ us hl => match us, hl with | [_], _ => rfl
theorem bi__law_wv_great_schema : BindP "_law_wv_great_schema" st__law_wv_great_schema ["pool"] := fun _ _ _ _ _ _ us hl => match us, hl with | [_], _ => rfl
theorem bi__law_wv_reached : BindP "_law_wv_reached" st__law_wv_reached ["schema", "kinds_now"] := fun _ _ _ _ _ _ us hl => match us, hl with | [_, _], _ => rfl
theorem bi__law_wv_led : BindP "_law_wv_led" st__law_wv_led ["schema", "f"] := fun _ _ _ _ _ _ us hl => match us, hl with | [_, _], _ => rfl
theorem bi__law_is_whole : BindP "_law_is_whole" st__law_is_whole ["thing"] := fun _ _ _ _ _ _ us hl => match us, hl with | [_], _ => rfl
theorem bi__law_same : BindP "_law_same" st__law_same ["heard_one", "owed"] := fun _ _ _ _ _ _ us hl => match us, hl with | [_, _], _ => rfl
theorem bi__law_heard : BindP "_law_heard" st__law_heard ["deed"] := fun _ _ _ _ _ _ us hl => match us, hl with | [_], _ => rfl
theorem bi__law_lengths_from : BindP "_law_lengths_from" st__law_lengths_from ["schema", "kinds_now"] := fun _ _ _ _ _ _ us hl => match us, hl with | [_, _], _ => rfl
theorem bi__law_is_way : BindP "_law_is_way" st__law_is_way ["schema", "a", "b", "thing"] := fun _ _ _ _ _ _ us hl => match us, hl with | [_, _, _, _], _ => rfl
theorem bi__law_walked : BindP "_law_walked" st__law_walked ["pool", "schema", "a", "many"] := fun _ _ _ _ _ _ us hl => match us, hl with | [_, _, _, _], _ => rfl
theorem bi__law_bent_way : BindP "_law_bent_way" st__law_bent_way ["pool", "schema", "thing"] := fun _ _ _ _ _ _ us hl => match us, hl with | [_, _, _], _ => rfl
theorem bi__law_pair_right : BindP "_law_pair_right" st__law_pair_right ["pool", "schema", "a", "b"] := fun _ _ _ _ _ _ us hl => match us, hl with | [_, _, _, _], _ => rfl
theorem bi__law_refused_right : BindP "_law_refused_right" st__law_refused_right ["pool", "schema"] := fun _ _ _ _ _ _ us hl => match us, hl with | [_, _], _ => rfl
theorem bi_law : BindP "law" st_law ["script"] := fun _ _ _ _ _ _ us hl => match us, hl with | [_], _ => rfl
theorem heard_mk {K : PySem.W.Frag} {mg : Str → Option Value} (D : DefAt K mg "_law_heard" st__law_heard ["deed"]) {l : List (Addr × String)} (hl : l.map (·.2) = heardCs) (C : HeardC K mg l) : HeardAt K mg "_law_heard" "deed" "refused_one" st__law_heard hds heardCs :=
  ⟨D, ⟨_, _, _, _, _, _, _, _, rfl⟩, ⟨rfl, rfl, rfl, by decide +kernel, rfl, by decide +kernel, by decide +kernel⟩, by
    show HeardHds "refused_one" [_, _] heardCs
    exact (.cons rfl rfl (.cons rfl rfl .nil)), (by show hds ≠ []; intro z; exact absurd (show (0 : Nat) = hds.length by rw [z]; rfl) (by decide +kernel)), Or.inl rfl, rfl, by decide +kernel, by decide +kernel, l, hl, C⟩
theorem bi_law1 {kV doc pm : Value} {an : Option Addr} {cdv ct : Value} (s : Shared) (u : Value) : BindsTo s (PySem.W.fnOf "law" "law" (defArgs st_law) (defBody st_law) (defScope st_law) .none kV doc pm an cdv ct) ⟨[u], []⟩ [("script", u)] := .of_eq rfl
open PySem.W in
theorem all_mk {l : OpenLaw} {q : Program} {w : World} {K : Params → Frag} {h : Heap} {mg : Str → Option Value} {fa fI : Addr} (KX : (K w.params).In h) (G : h.Ns mainGlobals mg) (hfa : mg "law" = some (.ref fa)) (tt : TopTabs q (K w.params) h)
    (D_is_whole : DefK (K w.params) "is_whole" st_is_whole)
    (D_is_row : DefK (K w.params) "is_row" st_is_row)
    (D_is_field : DefK (K w.params) "is_field" st_is_field)
    (D_made_schema : DefK (K w.params) "made_schema" st_made_schema)
    (D_asked_kind : DefK (K w.params) "asked_kind" st_asked_kind)
    (D_asked_field : DefK (K w.params) "asked_field" st_asked_field)
    (D_held_by : DefK (K w.params) "held_by" st_held_by)
    (D_come_by : DefK (K w.params) "come_by" st_come_by)
    (D_way_back : DefK (K w.params) "way_back" st_way_back)
    (D_reach : DefK (K w.params) "reach" st_reach)
    (D_asked_kinds : DefK (K w.params) "asked_kinds" st_asked_kinds)
    (D_way : DefK (K w.params) "way" st_way)
    (D_is_way : DefK (K w.params) "is_way" st_is_way)
    (D_way_right : DefK (K w.params) "way_right" st_way_right)
    (D_led_list : DefK (K w.params) "led_list" st_led_list)
    (D_led : DefK (K w.params) "led" st_led)
    (D__law_wv_pool : DefK (K w.params) "_law_wv_pool" st__law_wv_pool)
    (D__law_wv_take : DefK (K w.params) "_law_wv_take" st__law_wv_take)
    (D__law_wv_one : DefK (K w.params) "_law_wv_one" st__law_wv_one)
    (D__law_wv_mixed : DefK (K w.params) "_law_wv_mixed" st__law_wv_mixed)
    (D__law_wv_schema : DefK (K w.params) "_law_wv_schema" st__law_wv_schema)
    (D__law_wv_great_schema : DefK (K w.params) "_law_wv_great_schema" st__law_wv_great_schema)
    (D__law_wv_reached : DefK (K w.params) "_law_wv_reached" st__law_wv_reached)
    (D__law_wv_led : DefK (K w.params) "_law_wv_led" st__law_wv_led)
    (D__law_is_whole : DefK (K w.params) "_law_is_whole" st__law_is_whole)
    (D__law_same : DefK (K w.params) "_law_same" st__law_same)
    (D__law_lengths_from : DefK (K w.params) "_law_lengths_from" st__law_lengths_from)
    (D__law_is_way : DefK (K w.params) "_law_is_way" st__law_is_way)
    (D__law_walked : DefK (K w.params) "_law_walked" st__law_walked)
    (D__law_bent_way : DefK (K w.params) "_law_bent_way" st__law_bent_way)
    (D__law_pair_right : DefK (K w.params) "_law_pair_right" st__law_pair_right)
    (D_law : DefK (K w.params) "law" st_law)
    (D__law_heard : DefK (K w.params) "_law_heard" st__law_heard)
    {c__law_refused_right t__law_refused_right : Addr} (D__law_refused_right : DefKC (K w.params) "_law_refused_right" st__law_refused_right c__law_refused_right t__law_refused_right)
    (L__law_refused_right : List.lookup t__law_refused_right (K w.params) = none) (R__law_refused_right : ((recsOf q).any fun e => e.name == ("_law_refused_right" : Str)) = true)
    (Z_ValueError : nsIn (K w.params) mainGlobals "ValueError" = some none)
    (Z_bool : nsIn (K w.params) mainGlobals "bool" = some none)
    (Z_dict : nsIn (K w.params) mainGlobals "dict" = some none)
    (Z_enumerate : nsIn (K w.params) mainGlobals "enumerate" = some none)
    (Z_int : nsIn (K w.params) mainGlobals "int" = some none)
    (Z_isinstance : nsIn (K w.params) mainGlobals "isinstance" = some none)
    (Z_len : nsIn (K w.params) mainGlobals "len" = some none)
    (Z_list : nsIn (K w.params) mainGlobals "list" = some none)
    (Z_max : nsIn (K w.params) mainGlobals "max" = some none)
    (Z_range : nsIn (K w.params) mainGlobals "range" = some none)
    (Z_sorted : nsIn (K w.params) mainGlobals "sorted" = some none)
    (Z_str : nsIn (K w.params) mainGlobals "str" = some none)
    (Z_tuple : nsIn (K w.params) mainGlobals "tuple" = some none)
    {i_MOST_FIELDS : Tok} (G_MOST_FIELDS : nsIn (K w.params) mainGlobals "MOST_FIELDS" = some (some (.int 40 i_MOST_FIELDS)))
    {i_MOST_HANDS : Tok} (G_MOST_HANDS : nsIn (K w.params) mainGlobals "MOST_HANDS" = some (some (.int 6 i_MOST_HANDS)))
    {i_MOST_KINDS : Tok} (G_MOST_KINDS : nsIn (K w.params) mainGlobals "MOST_KINDS" = some (some (.int 24 i_MOST_KINDS)))
    {C_BadField : Addr} (E_BadField : ErrK (K w.params) "BadField" C_BadField) (I_BadField : findIn (K w.params) (.ref C_BadField) "__init__" = some (some (.ref fI)))
    {C_BadKind : Addr} (E_BadKind : ErrK (K w.params) "BadKind" C_BadKind) (I_BadKind : findIn (K w.params) (.ref C_BadKind) "__init__" = some (some (.ref fI)))
    {C_BadSchema : Addr} (E_BadSchema : ErrK (K w.params) "BadSchema" C_BadSchema) (I_BadSchema : findIn (K w.params) (.ref C_BadSchema) "__init__" = some (some (.ref fI)))
    {C_TooMany : Addr} (E_TooMany : ErrK (K w.params) "TooMany" C_TooMany) (I_TooMany : findIn (K w.params) (.ref C_TooMany) "__init__" = some (some (.ref fI)))
    (S_BadField_BadField : subIn (K w.params) (.ref C_BadField) (.ref C_BadField) = some true)
    (S_BadField_BadKind : subIn (K w.params) (.ref C_BadField) (.ref C_BadKind) = some false)
    (S_BadKind_BadField : subIn (K w.params) (.ref C_BadKind) (.ref C_BadField) = some false)
    (S_BadKind_BadKind : subIn (K w.params) (.ref C_BadKind) (.ref C_BadKind) = some true)
    {oc : Value} {od : Option Addr} {kV dc pm : Value} {an : Option Addr} {cd ct : Value} {sl : Array (Option Value)} (l0 : List.lookup fI (K w.params) = some ⟨oc, od, .func (fnOf "__init__" "Refused.__init__" (defArgs st_init) (defBody st_init) (defScope st_init) .none kV dc pm an cd ct), sl⟩) (c0 : codeIn (K w.params) cd "Refused.__init__" = true) (k0 : keepIn (K w.params) (.ref fI) = true) (vV : findCls (K w.params) (.type "ValueError") (.type "type") "__init__" = some (.val (.builtin "ValueError.__init__"))) : LawAtS l w (K w.params) (L2.CX l.prog w) 16 63 "script" mg fa h := by
  obtain ⟨f, oc1, od1, kV1, dc1, pm1, an1, cd1, ct1, sl1, a1, l1, c1, k1⟩ := D_law.ex
  have e := hfa.symm.trans (mg_of KX G a1)
  cases e
  have FL := fun_mk (st := st_law) l1 c1 k1
  have H__law_refused_right := tt "_law_refused_right" c__law_refused_right t__law_refused_right R__law_refused_right D__law_refused_right.tab
  refine law_at (n := 63) (cs := [(c__law_refused_right, t__law_refused_right)]) (T := (Tabl t__law_refused_right)) (Fl := F_law) (fd := fnOf "law" "law" (defArgs st_law) (defBody st_law) (defScope st_law) .none kV1 dc1 pm1 an1 cd1 ct1) (by decide) ?_ ?_ ?_ bi_law1 pure_law fun base KB GB TB => ?_
  · intro p hp
    simp only [List.mem_cons, List.not_mem_nil, or_false] at hp
    rcases hp with rfl
    · exact H__law_refused_right
  · intro p hp
    simp only [List.mem_cons, List.not_mem_nil, or_false] at hp
    rcases hp with rfl
    · exact L__law_refused_right
  · intro t ht
    simp only [Tabl, List.mem_cons, List.not_mem_nil, or_false] at ht
    rcases ht with rfl
    · exact ⟨(c__law_refused_right, t__law_refused_right), by simp, rfl⟩
  have hv : mg "ValueError" = none := mg_none_of KX G Z_ValueError
  have II : ∃ fd : FuncData, L2.Binds (K w.params) fd ["self", "what"] [] ∧ FnOk l.prog w (K w.params) mg base CX0 1 fI fd ["self", "what"] (spRef (K w.params)) := init_all l0 c0 k0 hv vV
  have X_BadField : ExcAt l.prog w (K w.params) mg base "BadField" := E_BadField.exc KX G fun f i => by
    have z := I_BadField.symm.trans i
    cases z
    exact II
  have X_BadKind : ExcAt l.prog w (K w.params) mg base "BadKind" := E_BadKind.exc KX G fun f i => by
    have z := I_BadKind.symm.trans i
    cases z
    exact II
  have X_BadSchema : ExcAt l.prog w (K w.params) mg base "BadSchema" := E_BadSchema.exc KX G fun f i => by
    have z := I_BadSchema.symm.trans i
    cases z
    exact II
  have X_TooMany : ExcAt l.prog w (K w.params) mg base "TooMany" := E_TooMany.exc KX G fun f i => by
    have z := I_TooMany.symm.trans i
    cases z
    exact II
  have HC : HeardC (K w.params) mg [(C_BadField, "BadField"), (C_BadKind, "BadKind")] := heardC KX G (by
    intro p hp
    simp only [List.mem_cons, List.not_mem_nil, or_false] at hp
    rcases hp with rfl | rfl
    · exact E_BadField
    · exact E_BadKind) (by
    intro p hp r hr
    simp only [List.mem_cons, List.not_mem_nil, or_false] at hp hr
    rcases hp with rfl | rfl
    · rcases hr with rfl | rfl
      · exact S_BadField_BadField
      · exact S_BadField_BadKind
    · rcases hr with rfl | rfl
      · exact S_BadKind_BadField
      · exact S_BadKind_BadKind)
  have Tx : Txt l.prog w (K w.params) mg base c__law_refused_right t__law_refused_right := {
    d_is_whole := D_is_whole.at KX G bi_is_whole
    d_is_row := D_is_row.at KX G bi_is_row
    d_is_field := D_is_field.at KX G bi_is_field
    d_made_schema := D_made_schema.at KX G bi_made_schema
    d_asked_kind := D_asked_kind.at KX G bi_asked_kind
    d_asked_field := D_asked_field.at KX G bi_asked_field
    d_held_by := D_held_by.at KX G bi_held_by
    d_come_by := D_come_by.at KX G bi_come_by
    d_way_back := D_way_back.at KX G bi_way_back
    d_reach := D_reach.at KX G bi_reach
    d_asked_kinds := D_asked_kinds.at KX G bi_asked_kinds
    d_way := D_way.at KX G bi_way
    d_is_way := D_is_way.at KX G bi_is_way
    d_way_right := D_way_right.at KX G bi_way_right
    d_led_list := D_led_list.at KX G bi_led_list
    d_led := D_led.at KX G bi_led
    d__law_wv_pool := D__law_wv_pool.at KX G bi__law_wv_pool
    d__law_wv_take := D__law_wv_take.at KX G bi__law_wv_take
    d__law_wv_one := D__law_wv_one.at KX G bi__law_wv_one
    d__law_wv_mixed := D__law_wv_mixed.at KX G bi__law_wv_mixed
    d__law_wv_schema := D__law_wv_schema.at KX G bi__law_wv_schema
    d__law_wv_great_schema := D__law_wv_great_schema.at KX G bi__law_wv_great_schema
    d__law_wv_reached := D__law_wv_reached.at KX G bi__law_wv_reached
    d__law_wv_led := D__law_wv_led.at KX G bi__law_wv_led
    d__law_is_whole := D__law_is_whole.at KX G bi__law_is_whole
    d__law_same := D__law_same.at KX G bi__law_same
    d__law_lengths_from := D__law_lengths_from.at KX G bi__law_lengths_from
    d__law_is_way := D__law_is_way.at KX G bi__law_is_way
    d__law_walked := D__law_walked.at KX G bi__law_walked
    d__law_bent_way := D__law_bent_way.at KX G bi__law_bent_way
    d__law_pair_right := D__law_pair_right.at KX G bi__law_pair_right
    d__law_refused_right := D__law_refused_right.at KX G bi__law_refused_right
    d_law := D_law.at KX G bi_law
    n_bool := mg_none_of KX G Z_bool
    n_dict := mg_none_of KX G Z_dict
    n_enumerate := mg_none_of KX G Z_enumerate
    n_int := mg_none_of KX G Z_int
    n_isinstance := mg_none_of KX G Z_isinstance
    n_len := mg_none_of KX G Z_len
    n_list := mg_none_of KX G Z_list
    n_max := mg_none_of KX G Z_max
    n_range := mg_none_of KX G Z_range
    n_sorted := mg_none_of KX G Z_sorted
    n_str := mg_none_of KX G Z_str
    n_tuple := mg_none_of KX G Z_tuple
    c_MOST_FIELDS := ⟨_, mg_of KX G G_MOST_FIELDS⟩
    c_MOST_HANDS := ⟨_, mg_of KX G G_MOST_HANDS⟩
    c_MOST_KINDS := ⟨_, mg_of KX G G_MOST_KINDS⟩
    e_BadField := X_BadField
    e_BadKind := X_BadKind
    e_BadSchema := X_BadSchema
    e_TooMany := X_TooMany
    heard := heard_mk (D__law_heard.at KX G bi__law_heard) (l := [(C_BadField, "BadField"), (C_BadKind, "BadKind")]) rfl HC
    b__law_refused_right := TB (c__law_refused_right, t__law_refused_right) (by simp) }
  exact fn_law Tx FL
end WkL


open PySem PySem.W PyProof.Rows in
set_option maxRecDepth 100000 in
set_option maxHeartbeats 0 in
theorem PySem.Challenge.cw_wovenkeep_k03_ways_and_what_is_led_holds : PySem.Challenge.rw_wovenkeep_k03_ways_and_what_is_led.Holds := by
  w_on; o_law; k_head; (case hw => w_witness2)
  k_fill
  refine Wk.walk_ofTop (l := PySem.Challenge.rw_wovenkeep_k03_ways_and_what_is_led) (n := 63) (k := 16) (x := "script") (CX := fun w => L2.CX (PySem.Challenge.rw_wovenkeep_k03_ways_and_what_is_led).prog w) rfl (by decide) rfl ⟨rfl, by decide, by decide⟩ (fun w h Y => by first | exact PySem.W.km_in_of Y | exact PySem.W.kIn_of Y) ?F ?C
  case C =>
    intro w H s e s1 z
    obtain ⟨_, _, _, _, _, _, _, _, _, _, _, _, z⟩ := z
    exact z
  case F =>
    intro w mg fa h KX G hmg tt
    refine' WkL.all_mk KX G hmg tt ?D_is_whole ?D_is_row ?D_is_field ?D_made_schema ?D_asked_kind ?D_asked_field ?D_held_by ?D_come_by ?D_way_back ?D_reach ?D_asked_kinds ?D_way ?D_is_way ?D_way_right ?D_led_list ?D_led ?D__law_wv_pool ?D__law_wv_take ?D__law_wv_one ?D__law_wv_mixed ?D__law_wv_schema ?D__law_wv_great_schema ?D__law_wv_reached ?D__law_wv_led ?D__law_is_whole ?D__law_same ?D__law_lengths_from ?D__law_is_way ?D__law_walked ?D__law_bent_way ?D__law_pair_right ?D_law ?D__law_heard ?D__law_refused_right ?L__law_refused_right ?R__law_refused_right ?Z_ValueError ?Z_bool ?Z_dict ?Z_enumerate ?Z_int ?Z_isinstance ?Z_len ?Z_list ?Z_max ?Z_range ?Z_sorted ?Z_str ?Z_tuple ?G_MOST_FIELDS ?G_MOST_HANDS ?G_MOST_KINDS ?E_BadField ?I_BadField ?E_BadKind ?I_BadKind ?E_BadSchema ?I_BadSchema ?E_TooMany ?I_TooMany ?S_BadField_BadField ?S_BadField_BadKind ?S_BadKind_BadField ?S_BadKind_BadKind ?l0 ?c0 ?k0 ?vV
    (case D_is_whole => refine' Wk.defK ?a ?l ?c ?k; (case a => k_is); (case l => k_is); (case c => k_is); (case k => k_is))
    (case D_is_row => refine' Wk.defK ?a ?l ?c ?k; (case a => k_is); (case l => k_is); (case c => k_is); (case k => k_is))
    (case D_is_field => refine' Wk.defK ?a ?l ?c ?k; (case a => k_is); (case l => k_is); (case c => k_is); (case k => k_is))
    (case D_made_schema => refine' Wk.defK ?a ?l ?c ?k; (case a => k_is); (case l => k_is); (case c => k_is); (case k => k_is))
    (case D_asked_kind => refine' Wk.defK ?a ?l ?c ?k; (case a => k_is); (case l => k_is); (case c => k_is); (case k => k_is))
    (case D_asked_field => refine' Wk.defK ?a ?l ?c ?k; (case a => k_is); (case l => k_is); (case c => k_is); (case k => k_is))
    (case D_held_by => refine' Wk.defK ?a ?l ?c ?k; (case a => k_is); (case l => k_is); (case c => k_is); (case k => k_is))
    (case D_come_by => refine' Wk.defK ?a ?l ?c ?k; (case a => k_is); (case l => k_is); (case c => k_is); (case k => k_is))
    (case D_way_back => refine' Wk.defK ?a ?l ?c ?k; (case a => k_is); (case l => k_is); (case c => k_is); (case k => k_is))
    (case D_reach => refine' Wk.defK ?a ?l ?c ?k; (case a => k_is); (case l => k_is); (case c => k_is); (case k => k_is))
    (case D_asked_kinds => refine' Wk.defK ?a ?l ?c ?k; (case a => k_is); (case l => k_is); (case c => k_is); (case k => k_is))
    (case D_way => refine' Wk.defK ?a ?l ?c ?k; (case a => k_is); (case l => k_is); (case c => k_is); (case k => k_is))
    (case D_is_way => refine' Wk.defK ?a ?l ?c ?k; (case a => k_is); (case l => k_is); (case c => k_is); (case k => k_is))
    (case D_way_right => refine' Wk.defK ?a ?l ?c ?k; (case a => k_is); (case l => k_is); (case c => k_is); (case k => k_is))
    (case D_led_list => refine' Wk.defK ?a ?l ?c ?k; (case a => k_is); (case l => k_is); (case c => k_is); (case k => k_is))
    (case D_led => refine' Wk.defK ?a ?l ?c ?k; (case a => k_is); (case l => k_is); (case c => k_is); (case k => k_is))
    (case D__law_wv_pool => refine' Wk.defK ?a ?l ?c ?k; (case a => k_is); (case l => k_is); (case c => k_is); (case k => k_is))
    (case D__law_wv_take => refine' Wk.defK ?a ?l ?c ?k; (case a => k_is); (case l => k_is); (case c => k_is); (case k => k_is))
    (case D__law_wv_one => refine' Wk.defK ?a ?l ?c ?k; (case a => k_is); (case l => k_is); (case c => k_is); (case k => k_is))
    (case D__law_wv_mixed => refine' Wk.defK ?a ?l ?c ?k; (case a => k_is); (case l => k_is); (case c => k_is); (case k => k_is))
    (case D__law_wv_schema => refine' Wk.defK ?a ?l ?c ?k; (case a => k_is); (case l => k_is); (case c => k_is); (case k => k_is))
    (case D__law_wv_great_schema => refine' Wk.defK ?a ?l ?c ?k; (case a => k_is); (case l => k_is); (case c => k_is); (case k => k_is))
    (case D__law_wv_reached => refine' Wk.defK ?a ?l ?c ?k; (case a => k_is); (case l => k_is); (case c => k_is); (case k => k_is))
    (case D__law_wv_led => refine' Wk.defK ?a ?l ?c ?k; (case a => k_is); (case l => k_is); (case c => k_is); (case k => k_is))
    (case D__law_is_whole => refine' Wk.defK ?a ?l ?c ?k; (case a => k_is); (case l => k_is); (case c => k_is); (case k => k_is))
    (case D__law_same => refine' Wk.defK ?a ?l ?c ?k; (case a => k_is); (case l => k_is); (case c => k_is); (case k => k_is))
    (case D__law_lengths_from => refine' Wk.defK ?a ?l ?c ?k; (case a => k_is); (case l => k_is); (case c => k_is); (case k => k_is))
    (case D__law_is_way => refine' Wk.defK ?a ?l ?c ?k; (case a => k_is); (case l => k_is); (case c => k_is); (case k => k_is))
    (case D__law_walked => refine' Wk.defK ?a ?l ?c ?k; (case a => k_is); (case l => k_is); (case c => k_is); (case k => k_is))
    (case D__law_bent_way => refine' Wk.defK ?a ?l ?c ?k; (case a => k_is); (case l => k_is); (case c => k_is); (case k => k_is))
    (case D__law_pair_right => refine' Wk.defK ?a ?l ?c ?k; (case a => k_is); (case l => k_is); (case c => k_is); (case k => k_is))
    (case D_law => refine' Wk.defK ?a ?l ?c ?k; (case a => k_is); (case l => k_is); (case c => k_is); (case k => k_is))
    (case D__law_heard => refine' Wk.defK ?a ?l ?c ?k; (case a => k_is); (case l => k_is); (case c => k_is); (case k => k_is))
    (case D__law_refused_right => refine' Wk.defKC ?a ?l ?c ?k ?t ?v; (case a => k_is); (case l => k_is); (case c => k_is); (case k => k_is); (case t => k_is); (case v => rfl))
    (case L__law_refused_right => rfl)
    (case R__law_refused_right => first | rfl | decide +kernel)
    (case Z_ValueError => k_is)
    (case Z_bool => k_is)
    (case Z_dict => k_is)
    (case Z_enumerate => k_is)
    (case Z_int => k_is)
    (case Z_isinstance => k_is)
    (case Z_len => k_is)
    (case Z_list => k_is)
    (case Z_max => k_is)
    (case Z_range => k_is)
    (case Z_sorted => k_is)
    (case Z_str => k_is)
    (case Z_tuple => k_is)
    (case G_MOST_FIELDS => k_is)
    (case G_MOST_HANDS => k_is)
    (case G_MOST_KINDS => k_is)
    (case E_BadField => refine' Wk.errK ?a ?xL ?sa ?ga ?gg ?nw ?eC ?tC ?kC ?hd ?ic ?i1 ?i2; (case a => k_is); (case xL => k_is); (case sa => k_is); (case ga => k_is); (case gg => k_is); (case nw => k_is); (case eC => k_is); (case tC => k_is); (case kC => k_is); (case hd => k_is); (case ic => k_is); (case i1 => k_is); (case i2 => k_is))
    (case I_BadField => k_is)
    (case E_BadKind => refine' Wk.errK ?a ?xL ?sa ?ga ?gg ?nw ?eC ?tC ?kC ?hd ?ic ?i1 ?i2; (case a => k_is); (case xL => k_is); (case sa => k_is); (case ga => k_is); (case gg => k_is); (case nw => k_is); (case eC => k_is); (case tC => k_is); (case kC => k_is); (case hd => k_is); (case ic => k_is); (case i1 => k_is); (case i2 => k_is))
    (case I_BadKind => k_is)
    (case E_BadSchema => refine' Wk.errK ?a ?xL ?sa ?ga ?gg ?nw ?eC ?tC ?kC ?hd ?ic ?i1 ?i2; (case a => k_is); (case xL => k_is); (case sa => k_is); (case ga => k_is); (case gg => k_is); (case nw => k_is); (case eC => k_is); (case tC => k_is); (case kC => k_is); (case hd => k_is); (case ic => k_is); (case i1 => k_is); (case i2 => k_is))
    (case I_BadSchema => k_is)
    (case E_TooMany => refine' Wk.errK ?a ?xL ?sa ?ga ?gg ?nw ?eC ?tC ?kC ?hd ?ic ?i1 ?i2; (case a => k_is); (case xL => k_is); (case sa => k_is); (case ga => k_is); (case gg => k_is); (case nw => k_is); (case eC => k_is); (case tC => k_is); (case kC => k_is); (case hd => k_is); (case ic => k_is); (case i1 => k_is); (case i2 => k_is))
    (case I_TooMany => k_is)
    (case S_BadField_BadField => k_is)
    (case S_BadField_BadKind => k_is)
    (case S_BadKind_BadField => k_is)
    (case S_BadKind_BadKind => k_is)
    (case l0 => k_is)
    (case c0 => k_is)
    (case k0 => k_is)
    (case vV => k_is)


